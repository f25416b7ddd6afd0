import PyProof.Rows.All
import Wide.All
import OpenK.AllK
import Wide.FinOn
import PyProof.NeKinds
import HandS.DeepEq
import HandS.OwnEq
import HandS.Nested
import HandS.ExcInit
import KE.KExcSuper
import HandS.TryMany
import HandS.ExcIs
import HandS.ExcField
import HandS.CallSlots
import HandS.ForMost
import HandS.ForExc
import HandS.SortRule
import HandS.SortInts
import HandS.RaiseMore
import HandS.SetFor
import HandS.Strs
import PyProof.SeqRoads2
import HandS.DictComp
import HandS.Conv
import HandS.Style
import HandS.FStr
import HandS.Flow
import HandS.IsInst
import HandS.TupLe
import HandS.ReCall
import KE.KDictSum
import HandS.Dict
import HandS.Small
import KE.KxField
import HandS.Iter
import HandS.Words
import HandS.WordsExc
import HandS.Defaults
import HandS.ReplaceLit
import HandS.ReplaceDef
import HandS.ForList
import HandS.EndBits
import HandS.Head0
import HandS.Head1
import HandS.Head2
import HandS.HeadHook1
import HandS.HeadEnd
import HandS.Codes
import HandS.ReplaceList
import PySem.Challenge.RW_weirbook_k12_flows
set_option linter.all false
set_option Elab.async false
set_option maxRecDepth 100000
namespace Wq
open PySem PySem.SeqAt
open AutoSeq1 (wpAny_loadPart')
open MeetsSeq MeetsSeq2 MeetsSeq3 SeqRoads2
section
variable {prog : Program} {w : World}
/-- what two tuples say item by item -/
def tb (f : Nat → Bool) (m n : Nat) : Bool := (List.range (min m n)).all f && m == n
theorem tb_step {f : Nat → Bool} {m i : Nat} (h : i < m) : ((List.range m).drop i).all f = (f i && ((List.range m).drop (i + 1)).all f) := by
  have e : (List.range m).drop i = i :: (List.range m).drop (i + 1) := by simp [List.drop_eq_getElem_cons, h]
  rw [e, List.all_cons]
theorem tupNe (p q : Addr) (xs ys : Array Value) (k k2 : Nat) (dp dq : Option Addr) (sp sq : Array (Option Value)) (f : Nat → Bool) :
    MeetsIn prog w (Builtin.«tuple.__ne__» ⟨[.ref p, .ref q], []⟩) (fun A R s =>
      s.heap.get? p = some ⟨.type "tuple", dp, .seq xs k, sp⟩ ∧ s.heap.get? q = some ⟨.type "tuple", dq, .seq ys k2, sq⟩ ∧
      (∀ j (a1 : j < xs.size) (a2 : j < ys.size), EqP prog w A.in1 s xs[j] ys[j] (f j)) ∧ R (.ok (.ret (.bool (!tb f xs.size ys.size)))) s) := by
  intro A R s h0
  obtain ⟨hp, gg, dd, tk, os⟩ := s
  obtain ⟨h1, h2, he, hR0⟩ := h0
  have t2 := AutoSeq1.sub_tuple_tuple
  have hz : (xs.toList.zip ys.toList).length = min xs.size ys.size := by simp
  wp_walk using wpAny_loadPart' h1, wpAny_loadPart' h2, wpAny_forIn_list _ (fun more c s' => c.1 = none ∧ s' = ⟨hp, gg, dd, tk, os⟩ ∧ ∃ i, more = (xs.toList.zip ys.toList).drop i ∧
    R (.ok (.ret (.bool (!(((List.range (min xs.size ys.size)).drop i).all f && xs.size == ys.size))))) ⟨hp, gg, dd, tk, os⟩) _
  case turn =>
    rintro ⟨y, x⟩ more c s' ⟨hc, rfl, i, hm, hR⟩
    have lt : i < (xs.toList.zip ys.toList).length := Nat.lt_of_not_le fun ge => by rw [List.drop_of_length_le ge] at hm; cases hm
    have lm : i < min xs.size ys.size := hz ▸ lt
    have a1 : i < xs.size := by omega
    have a2 : i < ys.size := by omega
    rw [List.drop_eq_getElem_cons lt] at hm
    injection hm with hh ht
    have ey : y = xs[i] := by have := congrArg Prod.fst hh; simpa using this
    have ex : x = ys[i] := by have := congrArg Prod.snd hh; simpa using this
    subst ey ex
    rw [tb_step lm] at hR
    refine wpAny_bind (he i a1 a2 _ _ ?_)
    cases fi : f i with
    | true =>
      rw [fi] at hR
      wp_walk
      exact ⟨rfl, rfl, i + 1, ht, by simpa using hR⟩
    | false =>
      rw [fi] at hR
      wp_walk
      simpa using hR
  case fin =>
    rintro ⟨c1, c2⟩ s' ⟨hc, rfl, i, hm, hR⟩
    simp only at hc
    subst hc
    have ge : min xs.size ys.size ≤ i := Nat.le_of_not_lt fun lm => by
      have lt : i < (xs.toList.zip ys.toList).length := hz ▸ lm
      rw [List.drop_eq_getElem_cons lt] at hm
      cases hm
    rw [List.drop_of_length_le (by simpa using ge)] at hR
    wp_walk
    simpa [Builtin.Tuple.tupleCompareSizes, bne] using hR
  case h =>
    exact ⟨rfl, rfl, 0, rfl, by simpa [tb] using hR0⟩
theorem tupEq (p q : Addr) (xs ys : Array Value) (k k2 : Nat) (dp dq : Option Addr) (sp sq : Array (Option Value)) (f : Nat → Bool) :
    MeetsIn prog w (Builtin.«tuple.__eq__» ⟨[.ref p, .ref q], []⟩) (fun A R s =>
      s.heap.get? p = some ⟨.type "tuple", dp, .seq xs k, sp⟩ ∧ s.heap.get? q = some ⟨.type "tuple", dq, .seq ys k2, sq⟩ ∧
      (∀ j (a1 : j < xs.size) (a2 : j < ys.size), EqP prog w A.in1 s xs[j] ys[j] (f j)) ∧ R (.ok (.ret (.bool (tb f xs.size ys.size)))) s) := by
  intro A R s h0
  obtain ⟨hp, gg, dd, tk, os⟩ := s
  obtain ⟨h1, h2, he, hR0⟩ := h0
  have t2 := AutoSeq1.sub_tuple_tuple
  have hz : (xs.toList.zip ys.toList).length = min xs.size ys.size := by simp
  wp_walk using wpAny_loadPart' h1, wpAny_loadPart' h2, wpAny_forIn_list _ (fun more c s' => c.1 = none ∧ s' = ⟨hp, gg, dd, tk, os⟩ ∧ ∃ i, more = (xs.toList.zip ys.toList).drop i ∧
    R (.ok (.ret (.bool (((List.range (min xs.size ys.size)).drop i).all f && xs.size == ys.size)))) ⟨hp, gg, dd, tk, os⟩) _
  case turn =>
    rintro ⟨y, x⟩ more c s' ⟨hc, rfl, i, hm, hR⟩
    have lt : i < (xs.toList.zip ys.toList).length := Nat.lt_of_not_le fun ge => by rw [List.drop_of_length_le ge] at hm; cases hm
    have lm : i < min xs.size ys.size := hz ▸ lt
    have a1 : i < xs.size := by omega
    have a2 : i < ys.size := by omega
    rw [List.drop_eq_getElem_cons lt] at hm
    injection hm with hh ht
    have ey : y = xs[i] := by have := congrArg Prod.fst hh; simpa using this
    have ex : x = ys[i] := by have := congrArg Prod.snd hh; simpa using this
    subst ey ex
    rw [tb_step lm] at hR
    refine wpAny_bind (he i a1 a2 _ _ ?_)
    cases fi : f i with
    | true =>
      rw [fi] at hR
      wp_walk
      exact ⟨rfl, rfl, i + 1, ht, by simpa using hR⟩
    | false =>
      rw [fi] at hR
      wp_walk
      simpa using hR
  case fin =>
    rintro ⟨c1, c2⟩ s' ⟨hc, rfl, i, hm, hR⟩
    simp only at hc
    subst hc
    have ge : min xs.size ys.size ≤ i := Nat.le_of_not_lt fun lm => by
      have lt : i < (xs.toList.zip ys.toList).length := hz ▸ lm
      rw [List.drop_eq_getElem_cons lt] at hm
      cases hm
    rw [List.drop_of_length_le (by simpa using ge)] at hR
    wp_walk
    simpa [Builtin.Tuple.tupleCompareSizes] using hR
  case h =>
    exact ⟨rfl, rfl, 0, rfl, by simpa [tb] using hR0⟩
section
variable {A : Around} {s : Shared}
theorem rcTupEq {p q : Addr} {xs ys : Array Value} {f : Nat → Bool} (h1 : s.heap.IsTuple p xs) (h2 : s.heap.IsTuple q ys) (hu : A.units < cLine)
    (he : ∀ j (a1 : j < xs.size) (a2 : j < ys.size), EqP prog w A.in1 s xs[j] ys[j] (f j)) (E Q : Value → Shared → Prop) (h : Q (.bool (tb f xs.size ys.size)) s) : wpAny (model prog w) A (richCompare .Eq (.ref p) (.ref q)) Q E s := by
  obtain ⟨⟨c1, d1, da1, s1⟩, ho, e1, n1, f1⟩ := id h1
  obtain ⟨⟨c2, d2, da2, s2⟩, ho2, e2, n2, f2⟩ := id h2
  dsimp only at e1 f1 e2 f2
  subst e1 f1 e2 f2
  exact wpAny_richCompare_same_room (op := .Eq) ⟨_, ho, rfl⟩ ⟨_, ho2, rfl⟩ F.slot_tuple_eq (call_meetsIn F.slot_tuple_eq ⟨_, ho, rfl⟩ F.entry_tuple_eq (F.args_tuple_eq_2 _ _) (tupEq p q xs ys n1 n2 d1 d2 s1 s2 f)
    ⟨ho, ho2, he, (fun x => nomatch x), h⟩) hu
theorem rcTupNe {p q : Addr} {xs ys : Array Value} {f : Nat → Bool} (h1 : s.heap.IsTuple p xs) (h2 : s.heap.IsTuple q ys) (hu : A.units < cLine)
    (he : ∀ j (a1 : j < xs.size) (a2 : j < ys.size), EqP prog w A.in1 s xs[j] ys[j] (f j)) (E Q : Value → Shared → Prop) (h : Q (.bool (!tb f xs.size ys.size)) s) : wpAny (model prog w) A (richCompare .NotEq (.ref p) (.ref q)) Q E s := by
  obtain ⟨⟨c1, d1, da1, s1⟩, ho, e1, n1, f1⟩ := id h1
  obtain ⟨⟨c2, d2, da2, s2⟩, ho2, e2, n2, f2⟩ := id h2
  dsimp only at e1 f1 e2 f2
  subst e1 f1 e2 f2
  exact wpAny_richCompare_same_room (op := .NotEq) ⟨_, ho, rfl⟩ ⟨_, ho2, rfl⟩ F.slot_tuple_ne (call_meetsIn F.slot_tuple_ne ⟨_, ho, rfl⟩ F.entry_tuple_ne (F.args_tuple_ne_2 _ _) (tupNe p q xs ys n1 n2 d1 d2 s1 s2 f)
    ⟨ho, ho2, he, (fun x => nomatch x), h⟩) hu
variable {Kt : Type} [DecidableEq Kt] {knd : KeyKind prog w Kt}
theorem rcDictNe {p q : Addr} {ka kb : List (Kt × Value)} {r : Bool} (np : (p == sysModules) = false) (nq : (q == sysModules) = false) (da : s.heap.DictOf knd p ka) (db : s.heap.DictOf knd q kb) (hu : A.units < cLine)
    (hits : ka.length = kb.length → PySem.W.KeqHitsP prog w A.in1 s kb ka r) (E Q : Value → Shared → Prop) (h : Q (.bool (!(ka.length == kb.length && r))) s) : wpAny (model prog w) A (richCompare .NotEq (.ref p) (.ref q)) Q E s := by
  refine wpAny_richCompare_same_room (op := .NotEq) da.typeIs db.typeIs F.slot_dict_ne (wpAny_call_entry F.slot_dict_ne da.typeIs F.entry_dict_ne ?_ (F.args_dict_ne_2 _ _)) hu
  refine wpAny_bind ?_
  unfold Builtin.Dict.dictSlotArgs
  refine wpAny_bind (wpAny_notOrdered_dict da.typeIs ?_)
  refine wpAny_pure ?_
  refine wpAny_bind (wpAny_isInstance (T := "dict") db.typeIs F.sub_dict_dict ?_)
  rw [if_neg (by decide)]
  refine wpAny_bind (wpAny_pure (wpAny_bind (wpAny_pure (wpAny_bind (PySem.W.samePairsP np nq da db hits (wpAny_pure ?_))))))
  refine ⟨_, rfl, ?_, ?_⟩
  · exact fun x => nomatch x
  · simpa using h
end
end
end Wq

namespace Wq
open PySem PySem.Spec PyProof.Rows
open L2 (V Hp HO Key Rd SqL SqT R2 Cx Inv RelV Vals OpR KV valV valV_pos valV_neg flatV eqV)
inductive Hit (E : V → V → Bool → Prop) (ls : List (Key × V)) : List (Key × V) → Bool → Prop
  | nil : Hit E ls [] true
  | miss {k : Key} {v : V} {r : List (Key × V)} : valV ls k = none → Hit E ls ((k, v) :: r) false
  | hit {k : Key} {v u : V} {r : List (Key × V)} {e b : Bool} : valV ls k = some u → E v u e → Hit E ls r b → Hit E ls ((k, v) :: r) (e && b)
def EqC (K : PySem.W.Frag) (H : Hp) (E : V → V → Bool → Prop) (x y : V) (b : Bool) : Prop :=
  (∃ p q xs ys f, x = .ref p ∧ y = .ref q ∧ SqT K H p xs ∧ SqT K H q ys ∧ (∀ (j : Nat) u v, xs[j]? = some u → ys[j]? = some v → E u v (f j)) ∧ b = tb f xs.length ys.length) ∨
  ∃ p q ks ls r, x = .ref p ∧ y = .ref q ∧ Rd H p (.dK ks) ∧ Rd H q (.dK ls) ∧ (ks.map (·.1)).Nodup ∧ (ks.length = ls.length → Hit E ls ks r) ∧ b = (ks.length == ls.length && r)
def EqL (K : PySem.W.Frag) (H : Hp) (E : V → V → Bool → Prop) (x y : V) (b : Bool) : Prop :=
  ∃ p q xs ys f, x = .ref p ∧ y = .ref q ∧ SqL K H p xs ∧ SqL K H q ys ∧ (∀ (j : Nat) u v, xs[j]? = some u → ys[j]? = some v → E u v (f j)) ∧ xs.length = ys.length ∧ b = (List.range xs.length).all f
def EqB (K : PySem.W.Frag) (H : Hp) : Nat → V → V → Bool → Prop
  | 0, _, _, _ => False
  | n + 1, x, y, b => (flatV x = true ∧ flatV y = true ∧ eqV x y = b) ∨ EqC K H (EqB K H n) x y b ∨ EqL K H (EqB K H n) x y b
theorem vals_get {xs : List V} {us : List Value} (h : Vals xs us) : ∀ (j : Nat) (hj : j < us.length), ∃ x, xs[j]? = some x ∧ RelV x us[j] := by
  induction h with
  | nil => intro j hj; exact absurd hj (Nat.not_lt_zero j)
  | cons a _ ih =>
    intro j hj
    cases j with
    | zero => exact ⟨_, rfl, a⟩
    | succ j => exact ih j (Nat.lt_of_succ_lt_succ hj)
theorem flat_same {x y : V} {v : Value} (rx : RelV x v) (ry : RelV y v) (fx : flatV x = true) (fy : flatV y = true) : eqV x y = true := by
  cases x with
  | non =>
    cases (show v = Value.none from rx)
    cases y <;> first | rfl | (cases fy; done) | (cases ry; done) | (obtain ⟨_, e⟩ := ry; cases e; done)
  | bl b =>
    cases (show v = Value.bool b from rx)
    cases y with
    | bl c => cases (show Value.bool b = Value.bool c from ry); show (b == b) = true; simp
    | int i => obtain ⟨_, e⟩ := (show ∃ t, Value.bool b = Value.int i t from ry); cases e
    | str i => obtain ⟨_, e⟩ := (show ∃ t, Value.bool b = Value.str i t from ry); cases e
    | non => cases (show Value.bool b = Value.none from ry)
    | _ => cases fy
  | int i =>
    obtain ⟨t, rfl⟩ := (show ∃ t, v = Value.int i t from rx)
    cases y with
    | bl c => cases (show Value.int i t = Value.bool c from ry)
    | int j => obtain ⟨_, e⟩ := (show ∃ u, Value.int i t = Value.int j u from ry); cases e; show (i == i) = true; simp
    | str j => obtain ⟨_, e⟩ := (show ∃ u, Value.int i t = Value.str j u from ry); cases e
    | non => cases (show Value.int i t = Value.none from ry)
    | _ => cases fy
  | str i =>
    obtain ⟨t, rfl⟩ := (show ∃ t, v = Value.str i t from rx)
    cases y with
    | bl c => cases (show Value.str i t = Value.bool c from ry)
    | int j => obtain ⟨_, e⟩ := (show ∃ u, Value.str i t = Value.int j u from ry); cases e
    | str j => obtain ⟨_, e⟩ := (show ∃ u, Value.str i t = Value.str j u from ry); cases e; show (i == i) = true; simp
    | non => cases (show Value.str i t = Value.none from ry)
    | _ => cases fy
  | _ => cases fx
section
variable {X : Cx} {pins : List (Addr × Obj)} {σ : L2.St} {H : Hp} {s : Shared}
theorem val_self {ks : List (Key × V)} (nd : (ks.map (·.1)).Nodup) : ∀ {k : Key} {v : V}, (k, v) ∈ ks → valV ks k = some v := by
  induction ks with
  | nil => intro k v h; cases h
  | cons p r ih =>
    intro k v h
    rw [List.map_cons, List.nodup_cons] at nd
    rcases List.mem_cons.mp h with rfl | h
    · exact valV_pos rfl
    · rw [valV_neg (fun e : p.1 = k => nd.1 (by rw [e]; exact List.mem_map.mpr ⟨_, h, rfl⟩))]
      exact ih nd.2 h
theorem kv_rel {ks : List (Key × V)} {va : List (Key × Value)} (h : KV ks va) : ∀ {k : Key} {v : V}, (k, v) ∈ ks → ∃ u, RelV v u := by
  unfold KV at h
  induction h with
  | nil => intro k v h; cases h
  | cons a _ ih =>
    intro k v hm
    rcases List.mem_cons.mp hm with e | hm
    · subst e
      exact ⟨_, a.2⟩
    · exact ih hm
theorem hit_self {E : V → V → Bool → Prop} (hE : ∀ x y v b, E x y b → RelV x v → RelV y v → b = true) {ks : List (Key × V)} {va : List (Key × Value)} (hk : KV ks va) (nd : (ks.map (·.1)).Nodup) {r : List (Key × V)} {b : Bool} (h : Hit E ks r b) : (∀ p ∈ r, p ∈ ks) → b = true := by
  induction h with
  | nil => intro _; rfl
  | miss hn =>
    intro hm
    rw [val_self nd (hm _ List.mem_cons_self)] at hn
    cases hn
  | hit hv he _ ih =>
    intro hm
    have hmem := hm _ List.mem_cons_self
    rw [val_self nd hmem] at hv
    cases hv
    obtain ⟨u, ru⟩ := kv_rel hk hmem
    rw [hE _ _ _ _ he ru ru, ih fun p hp => hm p (List.mem_cons_of_mem _ hp)]
    rfl
theorem rd_fun {p : Addr} {ks ls : List (Key × V)} (a : Rd H p (.dK ks)) (b : Rd H p (.dK ls)) : ks = ls := by
  rcases a with a | ⟨o, a⟩ <;> rcases b with b | ⟨o', b⟩ <;> rw [a] at b <;> cases b <;> rfl
/-- equal when it is the same thing -/
theorem eqB_same (I : Inv X pins σ H s) : ∀ (n : Nat) (x y : V) (v : Value) (b : Bool), EqB X.K H n x y b → RelV x v → RelV y v → b = true
  | 0, _, _, _, _, h, _, _ => (show False from h).elim
  | n + 1, x, y, v, b, h, rx, ry => by
    rcases h with ⟨fx, fy, e⟩ | (⟨p, q, xs, ys, f, rfl, rfl, h1, h2, hf, e⟩ | ⟨p, q, ks, ls, r, rfl, rfl, h1, h2, nd, hr, e⟩) | ⟨p, q, xs, ys, f, rfl, rfl, h1, h2, hf, hl, e⟩
    · rw [← e]; exact flat_same rx ry fx fy
    · cases (show v = Value.ref p from rx)
      cases (show Value.ref p = Value.ref q from ry)
      obtain ⟨its, r1, ⟨o, ho, hc, k, hd⟩, _⟩ := I.tuple h1
      obtain ⟨its2, r2, ⟨o2, ho2, hc2, k2, hd2⟩, _⟩ := I.tuple h2
      rw [ho] at ho2
      cases ho2
      rw [hd] at hd2
      have ei : its = its2 := by injection hd2 with h1 h2; exact congrArg Array.toList h1
      subst ei
      have l1 := r1.length
      have l2 := r2.length
      subst e
      unfold tb
      rw [Bool.and_eq_true]
      refine ⟨List.all_eq_true.mpr fun j hj => ?_, by simp [l1, l2]⟩
      have hj := List.mem_range.mp hj
      have hj2 : j < its.length := by omega
      obtain ⟨u, eu, ru⟩ := vals_get r1 j hj2
      obtain ⟨w, ew, rw'⟩ := vals_get r2 j hj2
      exact eqB_same I n _ _ _ _ (hf j u w eu ew) ru rw'
    · cases (show v = Value.ref p from rx)
      cases (show Value.ref p = Value.ref q from ry)
      have ek := rd_fun h1 h2
      subst ek
      obtain ⟨_, _, va, ra, _⟩ := h1.ok I.hok
      subst e
      rw [hit_self (fun x y v b => eqB_same I n x y v b) ra nd (hr rfl) fun _ h => h]
      simp
    · cases (show v = Value.ref p from rx)
      cases (show Value.ref p = Value.ref q from ry)
      obtain ⟨its, r1, ⟨o, k, ho, hc, hdd, hd⟩, _⟩ := I.list h1
      obtain ⟨its2, r2, ⟨o2, k2, ho2, hc2, hdd2, hd2⟩, _⟩ := I.list h2
      rw [ho] at ho2
      cases ho2
      rw [hd] at hd2
      have ei : its = its2 := by injection hd2 with h1 h2; exact congrArg Array.toList h1
      subst ei
      have l1 := r1.length
      subst e
      refine List.all_eq_true.mpr fun j hj => ?_
      have hj := List.mem_range.mp hj
      have hj2 : j < its.length := by omega
      obtain ⟨u, eu, ru⟩ := vals_get r1 j hj2
      obtain ⟨w, ew, rw'⟩ := vals_get r2 j hj2
      exact eqB_same I n _ _ _ _ (hf j u w eu ew) ru rw'
theorem hit_run {P : Program} {w : World} {A : Around} {E : V → V → Bool → Prop} (ih : ∀ x y v u b, E x y b → RelV x v → RelV y u → SeqAt.EqP P w A s v u b) {ls : List (Key × V)} {vb : List (Key × Value)} (rb : KV ls vb) {ks : List (Key × V)} {b : Bool} (h : Hit E ls ks b) :
    ∀ {va : List (Key × Value)}, KV ks va → PySem.W.KeqHitsP P w A s vb va b := by
  induction h with
  | nil => intro va ra; unfold KV at ra; cases ra; exact .nil
  | @miss k v r hn =>
    intro va ra
    unfold KV at ra
    cases ra with
    | @cons _ q _ qs a t =>
      obtain ⟨key, z⟩ := q
      obtain ⟨a1, a2⟩ := a
      have a1 : k = key := a1
      subst a1
      refine .miss ?_
      have z2 := rb.val k
      rw [hn] at z2
      exact z2.none_of
  | @hit k v u r e b hv he _ ih2 =>
    intro va ra
    unfold KV at ra
    cases ra with
    | @cons _ q _ qs a t =>
      obtain ⟨key, z⟩ := q
      obtain ⟨a1, a2⟩ := a
      have a1 : k = key := a1
      subst a1
      have rr : L2.RelO (some u) (valueAt vb k) := by rw [← hv]; exact rb.val k
      obtain ⟨y, hy, ry⟩ := rr.some_of
      exact .hit hy (ih _ _ _ _ _ he a2 ry) (ih2 t)
theorem eqC_ops (I : Inv X pins σ H s) {A : Around} {E : V → V → Bool → Prop} (hu : A.units < cLine) (ih : ∀ x y v u b, E x y b → RelV x v → RelV y u → SeqAt.EqP X.prog X.w A.in1 s v u b) {x y : V} {v u : Value} {b : Bool} (h : EqC X.K H E x y b) (rx : RelV x v) (ry : RelV y u) :
    (∀ E Q : Value → Shared → Prop, Q (.bool b) s → wpAny (model X.prog X.w) A (richCompare .Eq v u) Q E s) ∧ ∀ E Q : Value → Shared → Prop, Q (.bool (!b)) s → wpAny (model X.prog X.w) A (richCompare .NotEq v u) Q E s := by
  rcases h with ⟨p, q, xs, ys, f, rfl, rfl, h1, h2, hf, e⟩ | ⟨p, q, ks, ls, r, rfl, rfl, h1, h2, nd, hr, e⟩
  · cases (show v = Value.ref p from rx)
    cases (show u = Value.ref q from ry)
    obtain ⟨us, r1, p1, _⟩ := I.tuple h1
    obtain ⟨ws, r2, p2, _⟩ := I.tuple h2
    have he : ∀ (j : Nat) (a1 : j < us.toArray.size) (a2 : j < ws.toArray.size), SeqAt.EqP X.prog X.w A.in1 s us.toArray[j] ws.toArray[j] (f j) := fun j a1 a2 => by
      obtain ⟨x, ex, rx⟩ := vals_get r1 j (by simpa using a1)
      obtain ⟨y, ey, ry⟩ := vals_get r2 j (by simpa using a2)
      have k := ih _ _ _ _ _ (hf j x y ex ey) rx ry
      simpa using k
    have e2 : b = tb f us.toArray.size ws.toArray.size := by rw [e, List.size_toArray, List.size_toArray, r1.length, r2.length]
    subst e2
    exact ⟨fun E Q q => rcTupEq p1 p2 hu he E Q q, fun E Q q => rcTupNe p1 p2 hu he E Q q⟩
  · cases (show v = Value.ref p from rx)
    cases (show u = Value.ref q from ry)
    obtain ⟨_, np, va, ra, da⟩ := h1.ok I.hok
    obtain ⟨_, nq, vb, rb, db⟩ := h2.ok I.hok
    have el : (ks.length == ls.length) = (va.length == vb.length) := by rw [ra.length, rb.length]
    rw [el] at e
    subst e
    have hh : va.length = vb.length → PySem.W.KeqHitsP X.prog X.w A.in1 s vb va r := fun hl => hit_run ih rb (hr (by rw [ra.length, rb.length]; exact hl)) ra
    exact ⟨fun E Q q => PySem.W.rcP_dicts (knd := L2.mixKind X.prog X.w) np nq da db hu hh E Q q, fun E Q q => rcDictNe (knd := L2.mixKind X.prog X.w) np nq da db hu hh E Q q⟩
theorem eqL_op (I : Inv X pins σ H s) {A : Around} {E : V → V → Bool → Prop} (hu : A.units < cLine) (ih : ∀ x y v u b, E x y b → RelV x v → RelV y u → SeqAt.EqP X.prog X.w A.in1 s v u b) {x y : V} {v u : Value} {b : Bool} (h : EqL X.K H E x y b) (rx : RelV x v) (ry : RelV y u)
    (E Q : Value → Shared → Prop) (q : Q (.bool b) s) : wpAny (model X.prog X.w) A (richCompare .Eq v u) Q E s := by
  obtain ⟨p, q', xs, ys, f, rfl, rfl, h1, h2, hf, hl, e⟩ := h
  cases (show v = Value.ref p from rx)
  cases (show u = Value.ref q' from ry)
  obtain ⟨us, r1, p1, _⟩ := I.list h1
  obtain ⟨ws, r2, p2, _⟩ := I.list h2
  have hsz : us.toArray.size = ws.toArray.size := by rw [List.size_toArray, List.size_toArray, ← r1.length, ← r2.length]; exact hl
  refine SeqAt.rcP_lists (e := f) p1.isList p2.isList hsz hu (fun j a1 a2 => ?_) E Q ?_
  · obtain ⟨x, ex, rx⟩ := vals_get r1 j (by simpa using a1)
    obtain ⟨y, ey, ry⟩ := vals_get r2 j (by simpa using a2)
    have k := ih _ _ _ _ _ (hf j x y ex ey) rx ry
    simpa using k
  · rw [List.size_toArray, ← r1.length, ← e]
    exact q
theorem eqB_run (I : Inv X pins σ H s) : ∀ (n : Nat) (A : Around), A.units + n < cLine → ∀ (x y : V) (v u : Value) (b : Bool), EqB X.K H n x y b → RelV x v → RelV y u → SeqAt.EqP X.prog X.w A s v u b
  | 0, _, _, _, _, _, _, _, h, _, _ => (show False from h).elim
  | n + 1, A, hu, x, y, v, u, b, h, rx, ry => by
    have hs := eqB_same I (n + 1) x y
    rcases id h with ⟨fx, fy, e⟩ | h2
    · have z := L2.eqAt_V (A := A) (s := s) rx ry fx fy
      rw [e] at z
      exact z.eqP
    · have ih := eqB_run I n A.in1 (by show A.units + 1 + n < cLine; omega)
      have step : ∀ E Q : Value → Shared → Prop, Q (.bool b) s → wpAny (model X.prog X.w) A (richCompare .Eq v u) Q E s := by
        rcases h2 with h2 | h2
        · exact (eqC_ops I (A := A) (by omega) ih h2 rx ry).1
        · exact eqL_op I (A := A) (by omega) ih h2 rx ry
      obtain ⟨a, c, rfl, rfl⟩ : ∃ a c, x = .ref a ∧ y = .ref c := by
        rcases h2 with (⟨p, q, _, _, _, e1, e2, _⟩ | ⟨p, q, _, _, _, e1, e2, _⟩) | ⟨p, q, _, _, _, e1, e2, _⟩ <;> exact ⟨p, q, e1, e2⟩
      cases (show v = Value.ref a from rx)
      cases (show u = Value.ref c from ry)
      by_cases e : a = c
      · subst e
        rw [hs _ b h rx ry]
        exact (SeqAt.EqAt.same _).eqP
      · exact SeqAt.eqP_refs e step
end
section
variable {X : Cx}
def rEqX (K : PySem.W.Frag) : R2 := fun x y H Q => ∃ n b, n ≤ 60 ∧ (EqC K H (EqB K H n) x y b ∨ EqL K H (EqB K H n) x y b) ∧ Q (.bl b) H
def rNeX (K : PySem.W.Frag) : R2 := fun x y H Q => ∃ n b, n ≤ 60 ∧ EqC K H (EqB K H n) x y b ∧ Q (.bl (!b)) H
theorem op_eqX (hu : X.A.units + 64 < cLine) : OpR X (compareOp .Eq) (rEqX X.K) := by
  intro pins s σ H x y v u Q I rx ry h
  obtain ⟨n, b, hn, h, q⟩ := h
  have ih := eqB_run I n X.A.in1 (by show X.A.units + 1 + n < cLine; omega)
  rcases h with h | h
  · exact (eqC_ops I (A := X.A) (by omega) ih h rx ry).1 _ _ ⟨.bl b, H, I, rfl, q⟩
  · exact eqL_op I (A := X.A) (by omega) ih h rx ry _ _ ⟨.bl b, H, I, rfl, q⟩
theorem op_neX (hu : X.A.units + 64 < cLine) : OpR X (compareOp .NotEq) (rNeX X.K) := by
  intro pins s σ H x y v u Q I rx ry h
  obtain ⟨n, b, hn, h, q⟩ := h
  have ih := eqB_run I n X.A.in1 (by show X.A.units + 1 + n < cLine; omega)
  exact (eqC_ops I (A := X.A) (by omega) ih h rx ry).2 _ _ ⟨.bl (!b), H, I, rfl, q⟩
end
end Wq

namespace Wb
open PySem PySem.Spec PyProof.Rows L2
open PySem.W (kxs_mw KxsFacts kxs_ValueError ks_superIn ks_superObj)
section
variable {X : Cx} {pins : List (Addr × Obj)} {σ : L2.St} {H : Hp} {s : Shared} {a C u : Addr} {E : Value → Shared → Prop} {A : Around}
end
end Wb

namespace Wb
open PySem PySem.Spec PyProof.Rows L2
open PySem.W (kxs_mw KxsFacts kxs_ValueError ks_superIn ks_superObj)
/-- what the written part says of an own __init__ that says super().__init__(..) -/
structure IniK (prog : Program) (K : PySem.W.Frag) (mg : Str → Option Value) (C f cc cda : Addr) (fd : FuncData) (ar : Arg) (scope : Scope) : Prop where
  T : OexC K C
  fn : ∃ oc od osl, K.lookup f = some ⟨oc, od, .func fd, osl⟩
  hp : (fd.params.posonlyargs ++ fd.params.args).head? = some ar
  code : ∃ ccl cdd vs ccs file tf, K.lookup cda = some ⟨ccl, cdd, .fields vs, ccs⟩ ∧ vs[2]? = some (.str file tf) ∧ ((prog.main.file : Str) == file) = true
  cell : ∃ cl cld csl, K.lookup cc = some ⟨cl, cld, .cell (some (.ref C)), csl⟩
  sub : PySem.W.mroIn K C (.ref C) = some true
  sup : ks_superIn K C C "__init__" = some (some (.builtin "ValueError.__init__"))
  isB : PySem.W.subIn K (.ref C) (.type "ValueError") = some true
  ns : PySem.W.nsIn K cStatics "thirdparty.any" = some none
  sg : mg "super" = none
  ks : scope.names.lookup ("super" : Str) = some .globalImplicit
  kc : scope.names.lookup ("__class__" : Str) = some .free
  ka : scope.names.lookup ar.arg = some .local
  top : (prog.main.scope.names.lookup ("super" : Str)).isSome = false
section
variable {X : Cx} {pins : List (Addr × Obj)} {σ : L2.St} {H : Hp} {s : Shared} {a C u f cc cda : Addr} {A : Around} {fd : FuncData} {ar : Arg}
end
end Wb

namespace Wb
open PySem PySem.Spec PyProof.Rows L2
open PySem.W (kxs_mw KxsFacts kxs_ValueError ks_superIn ks_superObj)
section
variable {X : Cx} {pins : List (Addr × Obj)} {σ : L2.St} {H : Hp} {s : Shared} {a C u f cc cda : Addr} {A : Around} {fd : FuncData} {ar : Arg}
end
end Wb

namespace Wb
open PySem PySem.Spec PyProof.Rows L2 NdefX
open PySem.W (kxs_mw KxsFacts kxs_ValueError ks_superIn ks_superObj)
end Wb

namespace L2
open PySem PySem.Spec PyProof.Rows
/-- with a name behind as: its slot goes -/
def dAs (o : Option Nat) (D : Ends) : Ends := match o with
  | none => D
  | some i => { nx := fun σ' H' => D.nx (σ'.set i none) H', rt := D.rt, bk := fun σ' H' => D.bk (σ'.set i none) H', ct := fun σ' H' => D.ct (σ'.set i none) H' }
def sAs (o : Option Nat) (a : Addr) (σ : St) : St := match o with
  | none => σ
  | some i => σ.set i (some (.ref a))
def wAll (K : PySem.W.Frag) (Wout : WX) (D : Ends) : List (Value × Option Nat × (Addr → Value → Option Addr → TS)) → WX
  | [] => Wout
  | (c, o, ts) :: r => fun cls d σ H => ∃ b, PySem.W.exmOne K cls c = some b ∧ (b = true → ∀ a, H a = none → ts a cls d (dAs o D) (sAs o a σ) H) ∧ (b = false → wAll K Wout D r cls d σ H)
inductive HdsA (X : Cx) : List ExceptHandler → List (Value × Option Nat × (Addr → Value → Option Addr → TS)) → Prop
  | nil : HdsA X [] []
  | no {x : Str} {c : Value} {ts : Addr → Value → Option Addr → TS} {b₀ : Stmt} {suite : List Stmt} {np pos' : Pos} {hds : List ExceptHandler} {l : List (Value × Option Nat × (Addr → Value → Option Addr → TS))} (hc : Names X x c)
      (hsu : ∀ (a : Addr) (oe : Obj) (cls : Value) (d : Option Addr) (pn : List (Addr × Obj)), Zc cls d oe → (∃ vs, oe.data = .fields vs) → PSs (X.suite a ((a, oe) :: pn)) (b₀ :: suite) (ts a cls d)) (r : HdsA X hds l) :
      HdsA X (.ExceptHandler (some (.Name x np)) none (b₀ :: suite) pos' :: hds) ((c, none, ts) :: l)
  | as {x n : Str} {i : Nat} {c : Value} {ts : Addr → Value → Option Addr → TS} {b₀ : Stmt} {suite : List Stmt} {np pos' : Pos} {hds : List ExceptHandler} {l : List (Value × Option Nat × (Addr → Value → Option Addr → TS))} (hi : X.N[i]? = some n) (hln : X.env.kindOf n = some .local) (hc : Names X x c)
      (hsu : ∀ (a : Addr) (oe : Obj) (cls : Value) (d : Option Addr) (pn : List (Addr × Obj)), Zc cls d oe → (∃ vs, oe.data = .fields vs) → PSs (X.suite a ((a, oe) :: pn)) (b₀ :: suite) (ts a cls d)) (r : HdsA X hds l) :
      HdsA X (.ExceptHandler (some (.Name x np)) (some n) (b₀ :: suite) pos' :: hds) ((c, some i, ts) :: l)
section
variable {X : Cx} {body : List Stmt} {h₀ : ExceptHandler} {hds : List ExceptHandler} {l : List (Value × Option Nat × (Addr → Value → Option Addr → TS))} {pos : Pos} {tb : WX → TS} {Wout : WX}
theorem ps_try_all (hs : X.stack = X.env :: X.outer) (hf : X.env.frame = some X.env.locals) (hN : X.N.Nodup) (tk : Takes X Wout)
    (hb : ∀ (W : WX) (pn : List (Addr × Obj)) (xe : Value → Shared → Prop), Takes (X.tr pn xe) W → PassesOwn (model X.prog X.w) X.A X.env xe → PSs (X.tr pn xe) body (tb W))
    (hh : HdsA X (h₀ :: hds) l) : PS X (.Try body (h₀ :: hds) [] [] pos) (fun D σ H => tb (wAll X.K Wout D l) D σ H) := by
  refine ⟨fun pins s σ H D I h => ?_⟩
  have ok := I.ok
  have hfr : X.A.frames = some (X.env :: X.outer) := by rw [ok.frames, hs]
  refine wpAny_Try_except ?_
  refine wpAny_mono ((hb (wAll X.K Wout D l) (X.pn ++ pins) (fun e s₁ => wpAny (model X.prog X.w) X.A (noteFrame e X.env) (fun _ s₂ => wpAny (model X.prog X.w) X.A (setFlight e none) (fun _ s₃ =>
    wpAny (model X.prog X.w) X.A (handleBy e X.env (h₀ :: hds)) (SP X pins D) X.xe s₃) X.xe s₂) X.xe s₁) (fun u s' xx => ?_) PassesOwn.looking).run [] s σ H D (I.toTry _) h) (fun f s1 hsp => ?_) (fun e s1 he => he)
  · -- the catch
    obtain ⟨a, B, sI, pins', σ', H', cls, d, rfl, J', nb, up, sky, na, os, ag, w⟩ := xx
    have J : Inv X pins σ' H' sI := J'.ofTry ok
    have sky' : Sky B (X.env :: X.outer) a (Zc cls d) X.env.locals s'.heap := by rw [← hs]; exact sky
    show wpAny (model X.prog X.w) X.A (noteFrame (.ref a) X.env) _ _ _
    refine Sky.land Zc.steady hfr hf sky' fun h3 fl3 up3 => ?_
    have J3 : Inv X pins σ' H' { s' with heap := h3 } := J.landed nb fl3.1 (up.trans up3) os ag
    obtain ⟨oe3, vs3, he3, hz3, hd3⟩ := fl3.there
    have notFr : ∀ {h : Heap} {o : Obj} {vs : Array Value}, h.FunFrames B (X.env :: X.outer) → h.get? a = some o → o.data = .fields vs → a ∉ frs (X.env :: X.outer) := fun {h o vs} ff e dd hm => by
      obtain ⟨_, o', e', hnf⟩ := ff.mem hm
      rw [e] at e'; cases e'
      exact hnf _ dd
    have nfr := notFr fl3.2.2.1 he3 hd3
    have nL : a ≠ X.env.locals := fun z => nfr (List.mem_filterMap.mpr ⟨X.env, List.mem_cons_self, by rw [hf, z]⟩)
    have nF : a ∉ X.fs := fun hm => by
      obtain ⟨e, he, q⟩ := List.mem_filterMap.mp hm
      exact nfr (List.mem_filterMap.mpr ⟨e, List.mem_cons_of_mem _ he, q⟩)
    have S3 := J3.suite he3 hd3 na nL nF
    have LT : PySem.W.Looks (model X.prog X.w) h3 (typeOf (.ref a)) cls := fun A Q E s k q => wpAny_typeOf_ref (k _ _ he3) (by rw [hz3.1]; exact q)
    have test : ∀ {x : Str} {c : Value} {np : Pos} {Q : Value → Shared → Prop} {E : Value → Shared → Prop}, Names X x c → Q c { s' with heap := h3 } → wpAny (model X.prog X.w) (X.A.mark (some (.ref a))) (eval (.Name x np) X.env) Q E { s' with heap := h3 } := fun {x c np Q E} hc q => by
      obtain ⟨hg, hdbg, hm | ⟨hm, hv, hnn⟩⟩ := hc
      · exact ld_glob (X := X.suite a ((a, oe3) :: (X.pn ++ pins))) S3 hg hm q hdbg
      · exact ld_blt (X := X.suite a ((a, oe3) :: (X.pn ++ pins))) S3 hg hm hv q hnn hdbg
    have go : ∀ {hds' : List ExceptHandler} {l' : List (Value × Option Nat × (Addr → Value → Option Addr → TS))}, HdsA X hds' l' → wAll X.K Wout D l' cls d σ' H' →
        wpAny (model X.prog X.w) X.A (handleBy (.ref a) X.env hds') (SP X pins D) X.xe { s' with heap := h3 } := by
      intro hds' l' hk
      induction hk with
      | nil =>
        intro w
        refine wpAny_handleBy_nil ?_
        obtain ⟨k1, k2, k3, oe, vs, T, oT, ts', he, hz, hd, h1, hr⟩ := id fl3
        unfold PySem.passOn
        refine wpAny_bind (wpAny_field he hd h1 ?_)
        rw [if_neg (show ¬ ((Value.ref T == Value.none) = true) from by simp)]
        have fin : wpAny (model X.prog X.w) X.A (setFlight (.ref a) X.env.frame) (fun _ s4 => wpAny (model X.prog X.w) X.A (throw (.ref a) : Sem Flow) (SP X pins D) X.xe s4) X.xe { s' with heap := h3 } := by
          rw [hf]
          refine HandSPX.setFlight_upZ fl3 fun h4 hh4 up4 => wpAny_throw (tk _ _ ?_)
          exact ⟨a, B, sI, pins, σ', H', cls, d, rfl, J, nb, (up.trans up3).trans up4, .inr (.inr (by rw [hs]; exact hh4)), na, os, ag, w⟩
        first
          | exact wpAny_bind (wpAny_pure (wpAny_bind fin))
          | exact wpAny_bind fin
      | @no x c ts b₀ suite np pos' hds2 l2 hc hsu r ih =>
        intro w
        obtain ⟨b, hb1, hyes, hno⟩ := w
        refine wpAny_handleBy_cons (codeAny_handlers_test ?_) (by intro q; cases q)
        have LM := PySem.W.exm_one (M := model X.prog X.w) (J3.kIn) LT hb1
        refine test hc (LM.here ?_)
        cases b with
        | true =>
          refine codeAny_handlers_suite ?_
          refine HandSPX.lands_againZ fl3 fun h4 fl4 up4 => ?_
          have J4 : Inv X pins σ' H' { s' with heap := h4 } := J.landed nb fl4.1 ((up.trans up3).trans up4) os ag
          obtain ⟨oe4, vs4, he4, hz4, hd4⟩ := fl4.there
          have S4 := J4.suite he4 hd4 na nL nF
          refine wpAny_mono ((hsu a oe4 cls d (X.pn ++ pins) hz4 ⟨_, hd4⟩).run [] _ _ H' _ S4 (hyes rfl a na)) (fun f s6 hsp => ?_) (fun _ _ z => False.elim z)
          cases f with
          | next =>
            obtain ⟨σ6, H6, S6, q6⟩ := hsp
            exact ⟨_, _, S6.unsuite ok, q6⟩
          | brk =>
            obtain ⟨σ6, H6, S6, q6⟩ := hsp
            exact ⟨_, _, S6.unsuite ok, q6⟩
          | cont =>
            obtain ⟨σ6, H6, S6, q6⟩ := hsp
            exact ⟨_, _, S6.unsuite ok, q6⟩
          | ret u =>
            obtain ⟨v6, σ6, H6, S6, r6, q6⟩ := hsp
            exact ⟨_, _, _, S6.unsuite ok, r6, q6⟩
        | false =>
          show wpAny _ X.A (handleBy (.ref a) X.env hds2) _ _ _
          exact ih (hno rfl)
      | @as x n i c ts b₀ suite np pos' hds2 l2 hi hln hc hsu r ih =>
        intro w
        obtain ⟨b, hb1, hyes, hno⟩ := w
        have hloc : Loc X.env.scope n := .inl hln
        refine wpAny_handleBy_cons (codeAny_handlers_test ?_) (by intro q; cases q)
        have LM := PySem.W.exm_one (M := model X.prog X.w) (J3.kIn) LT hb1
        refine test hc (LM.here ?_)
        cases b with
        | true =>
          refine codeAny_handlers_suite_as ?_
          refine HandSPX.lands_againZ fl3 fun h4 fl4 up4 => ?_
          have J4 : Inv X pins σ' H' { s' with heap := h4 } := J.landed nb fl4.1 ((up.trans up3).trans up4) os ag
          obtain ⟨oe4, vs4, he4, hz4, hd4⟩ := fl4.there
          have S4 := J4.suite he4 hd4 na nL nF
          refine store_ok (X := X.suite a ((a, oe4) :: (X.pn ++ pins))) (v := .ref a) S4 hN hi hloc rfl (fun s5 S5 => ?_) (.inr hln)
          refine wpAny_mono ((hsu a oe4 cls d (X.pn ++ pins) hz4 ⟨_, hd4⟩).run [] s5 _ H' _ S5 (hyes rfl a na)) (fun f s6 hsp => ?_) (fun _ _ z => False.elim z)
          have end_ : ∀ {σ6 : St} {H6 : Hp} {Q : Shared → Prop}, Inv (X.suite a ((a, oe4) :: (X.pn ++ pins))) [] σ6 H6 s6 → (∀ s7, Inv X pins (σ6.set i none) H6 s7 → Q s7) →
              wpAny (model X.prog X.w) X.A (do bindName X.env n .none; unbindBehindTheSuite X.env n pos') (fun _ s7 => Q s7) X.xe s6 := fun {σ6 H6 Q} S6 hq => gone_ok (S6.unsuite ok) hN hi hln hq
          cases f with
          | next =>
            obtain ⟨σ6, H6, S6, q6⟩ := hsp
            exact end_ S6 fun s7 J7 => ⟨_, _, J7, q6⟩
          | brk =>
            obtain ⟨σ6, H6, S6, q6⟩ := hsp
            exact end_ S6 fun s7 J7 => ⟨_, _, J7, q6⟩
          | cont =>
            obtain ⟨σ6, H6, S6, q6⟩ := hsp
            exact end_ S6 fun s7 J7 => ⟨_, _, J7, q6⟩
          | ret u =>
            obtain ⟨v6, σ6, H6, S6, r6, q6⟩ := hsp
            exact end_ S6 fun s7 J7 => ⟨_, _, _, J7, r6, q6⟩
        | false =>
          show wpAny _ X.A (handleBy (.ref a) X.env hds2) _ _ _
          exact ih (hno rfl)
    exact go hh w
  · cases f with
    | next =>
      obtain ⟨σ', H', J', q⟩ := hsp
      exact wpAny_execs_nil ⟨σ', H', J'.ofTry ok, q⟩
    | brk =>
      obtain ⟨σ', H', J', q⟩ := hsp
      exact ⟨σ', H', J'.ofTry ok, q⟩
    | cont =>
      obtain ⟨σ', H', J', q⟩ := hsp
      exact ⟨σ', H', J'.ofTry ok, q⟩
    | ret u =>
      obtain ⟨v, σ', H', J', r, q⟩ := hsp
      exact ⟨v, σ', H', J'.ofTry ok, r, q⟩
end
end L2

namespace Wb
open PySem PySem.Spec PySem.Calls PyProof.Rows
open PySem.W
section
variable {prog : Program} {w : World} {A : Around} {E : Value → Shared → Prop} {s : Shared} {K : Frag} {x D : Addr} {ox : Obj} {od : Option Obj}
theorem findObj_dataD {C : Addr} {name : Str} {a g : Value} (hc : (clsIn K C).isSome = true) (ha : findIn K (.ref C) name = some (some a)) (hg : specialIn K a "__get__" = some (some g)) (ht : takesIn K a = some true) : findObj K C od name = some (.bind g a) := by
  obtain ⟨cd, hc⟩ := Option.isSome_iff_exists.mp hc
  unfold findObj
  rw [hc, Option.bind_some, ha, Option.bind_some]
  simp [hg, ht]
theorem kin_classD {Q : Option Value → Shared → Prop} (hga : findIn K (.ref D) "__getattribute__" = some (some (.builtin "BaseException.__getattribute__"))) (hgt : findIn K (.ref D) "__getattr__" = some none) (hsub : subIn K (.ref D) (.type "BaseException") = some true)
    (hdct : hasDictIn K D = true) (ha : findIn K (.ref D) "__class__" = some (some (.builtin "object.__class__")))
    (hn : specialIn K (.builtin "object.__class__") "__get__" = some (some (.builtin "getset_descriptor.__get__"))) (htk : takesIn K (.builtin "object.__class__") = some true) (hm : mroIn K D (.type "object") = some true)
    (X : K.In s.heap) (I : InstAt s.heap x ox D od) (h : Q (some (.ref D)) { s with toks := s.toks + 1 }) : wpAny (model prog w) A (getAttr? (.ref x) "__class__") Q E s := by
  have hf : findObj K D od "__class__" = some (.bind (.builtin "getset_descriptor.__get__") (.builtin "object.__class__")) := findObj_dataD (by obtain ⟨cd, hc, _⟩ := any_some hdct; rw [hc]; rfl) ha hn htk
  obtain ⟨hp, g, d, t, os⟩ := s
  have L0 := I.type (M := model prog w)
  have L1 := looks_findIn (M := model prog w) X hga
  have L2 := looks_findIn (M := model prog w) X hgt
  have L3 := looks_find (M := model prog w) X I hf
  have sub : Looks (model prog w) hp (isInstance (.ref x) (.type "BaseException")) true := L0.andThen (looks_subIn X hsub)
  have hx0 : (false && onTheHeap (Value.builtin "BaseException.__getattribute__")) = false := rfl
  have hx2 : (Value.builtin "BaseException.__getattribute__" == Value.builtin "object.__getattribute__") = false := by decide +kernel
  have hx1 : (onTheHeap (Value.ref D) && Value.builtin "BaseException.__getattribute__" == Value.builtin "object.__getattribute__") = false := by rw [hx2]; rfl
  unfold getAttr? getAttrBy? getAttrBy
  refine wpAny_bind (wpAny_mkText (wpAny_bind (wpAny_attempt (wpAny_holding (wpAny_bind (L0.at (wpAny_bind (L1.at ?_))))))))
  show wpAny _ _ (if (onTheHeap (Value.ref D) && Value.builtin "BaseException.__getattribute__" == Value.builtin "object.__getattribute__") = true then _ else _) _ _ _
  rw [hx1, if_neg Bool.false_ne_true]
  unfold getAttrByItsOwn hookBefore
  refine wpAny_bind ?_
  rw [if_pos (show onTheHeap (Value.ref D) = true from rfl)]
  refine L2.at ?_
  refine wpAny_bind (wpAny_attempt (wpAny_holding ?_))
  unfold callGetattribute
  rw [hx0, if_neg Bool.false_ne_true]
  unfold boundAndCalled
  rw [PySem.F.excAttr_ValueError.ga.bind (.ref x)]
  refine wpAny_bind (wpAny_pure ?_)
  show wpAny _ _ (call (.builtin "BaseException.__getattribute__") [.ref x, .str "__class__" t]) _ _ _
  refine wpAny_call (codeAny_call_builtin PySem.F.excAttr_ValueError.ga.plain PySem.F.entry_bexc_ga ?_)
  refine @check_slot (model prog w) _ _ ⟨hp, g, d, t + 1, os⟩ "BaseException.__getattribute__" "BaseException" "__getattribute__" (.ref x) [.str "__class__" t] [] _ (by decide +kernel) (by decide +kernel) sub (PySem.F.args_bexc_ga (.ref x) (.str "__class__" t)) ?_
  unfold Builtin.«object.__getattribute__»
  refine wpAny_bind (wpAny_of_eq (a := ((Value.ref x : Value), [Value.str "__class__" t])) (by first | rfl | (simp only [slotArgs]; rfl)) ?_)
  refine wpAny_bind (wpAny_pure (wpAny_bind (L0.at (wpAny_bind (L3.at ?_)))))
  show wpAny _ _ (holding [Value.builtin "object.__class__"] (call (.builtin "getset_descriptor.__get__") [.builtin "object.__class__", .ref x, .ref D]) >>= ret) _ _ _
  refine wpAny_bind (wpAny_holding (wpAny_call (class_get (s := ⟨hp, g, d, t + 1, os⟩) (ox := ox) (od := od) X I hm ?_)))
  refine wpAny_pure ?_
  show wpAny _ _ (handedOut (.ref D)) _ _ _
  rw [handedOut_of (v := .ref D) rfl]
  first
    | exact wpAny_pure (wpAny_pure h)
    | exact wpAny_pure h
    | exact wpAny_pure (wpAny_bind (wpAny_pure (wpAny_pure h)))
theorem kitx_excD (hga : findIn K (.ref D) "__getattribute__" = some (some (.builtin "BaseException.__getattribute__"))) (hgt : findIn K (.ref D) "__getattr__" = some none) (hsub : subIn K (.ref D) (.type "BaseException") = some true) (hdct : hasDictIn K D = true) (ha : findIn K (.ref D) "__class__" = some (some (.builtin "object.__class__")))
    (hn : specialIn K (.builtin "object.__class__") "__get__" = some (some (.builtin "getset_descriptor.__get__"))) (htk : takesIn K (.builtin "object.__class__") = some true) (hm : mroIn K D (.type "object") = some true) :
    KitX K (.ref x) (.ref D) (fun h => InstAt h x ox D od) where
  ty := fun _ _ _ I => I.type
  it := fun _ _ X _ => by
    obtain ⟨cdD, hcD, _⟩ := any_some hdct
    unfold clsIn at hcD
    split at hcD
    · rename_i c' d' cd' sl' ho
      intro A' Q' E' s' k q
      unfold isType loadHead
      exact wpAny_bind (wpAny_loadPart (k _ _ (X _ _ ho)) (wpAny_pure q))
    · cases hcD
  ne := fun h tp dd its n sl X htp => by
    obtain ⟨cdD, hcD, _⟩ := any_some hdct
    refine Bool.eq_false_iff.mpr fun q => ?_
    have e : D = tp := Value.ref.inj (beq_iff_eq.mp q)
    subst e
    unfold clsIn at hcD
    split at hcD
    · rename_i c' d' cd' sl' ho
      have z := (X _ _ ho).symm.trans htp
      cases z
    · cases hcD
  ca := fun X I k => kin_classD hga hgt hsub hdct ha hn htk hm X I k
end
end Wb
namespace L2
open PySem PySem.Spec PyProof.Rows
/-- isinstance(e, c): d is the dict of e -/
def rIsD (K : PySem.W.Frag) (D a : Addr) (d : Addr) : List V → Hp → VK → Prop := fun xs H Q => ∃ (c : V) (cv : Value) (b : Bool), xs = [.ref a, c] ∧ (∀ u, RelV c u → u = cv) ∧ PySem.W.kitOne K (.ref D) cv = some b ∧ (∃ fs, H d = some (.xd fs)) ∧ Q (.bl b) H
theorem call_isD {X : Cx} {a D d : Addr} {oe : Obj} {pn : List (Addr × Obj)} (C : ExcC X.K D) (hz : Zc (.ref D) (some d) oe) (hf : ∃ vs, oe.data = .fields vs) : CallR (X.suite a ((a, oe) :: pn)) (.builtin "isinstance") (rIsD X.K D a d) := by
  intro pins s σ H xs us Q I r h
  obtain ⟨c, cv, b, rfl, hcv, e, ⟨fs, hd⟩, q⟩ := h
  cases r with
  | cons rx rr =>
    cases rr with
    | cons rt rr =>
      cases rr
      cases rx
      have ec := hcv _ rt
      subst ec
      obtain ⟨hget, _⟩ := I.pin (a, oe) (List.mem_append.mpr (.inl List.mem_cons_self))
      obtain ⟨vs, hv⟩ := hf
      have hx : ObjOk X.prog X.w H s.heap d (.xd fs) := I.hok d _ hd
      obtain ⟨mA, hns, hr⟩ := hx
      obtain ⟨od, ho, hl⟩ := lookIn_ns hns
      have J : PySem.W.InstAt s.heap a oe D (some od) := ⟨hget, hz.1, by unfold PySem.W.notCls; rw [hv] <;> rfl, by rw [hz.2]; exact ho⟩
      exact PySem.W.kia_one (Wb.kitx_excD C.hg C.hk C.hs C.hd C.ha C.hn C.ht C.hm) I.kIn J e (fun z => nomatch z) fun tk => ⟨.bl b, H, I.kept (t' := tk) fun _ _ z => z, rfl, q⟩
end L2

namespace L2
open PySem PySem.Spec PyProof.Rows
section
variable {X : Cx} {CX : CXT} {k : Nat} {f C : Addr} {fd : FuncData} {ps : List Str} {sp : Sp} {dvs : List V} {ds : List Value} {E : St → XK} {x m : Str} {p pos apos : Pos} {e o : Expr} {es : List Expr} {ta : TE} {t : TA}
def tMethSD (C : Addr) (m : Str) (sp : Sp) (dvs : List V) (E : St → XK) (ta : TE) (t : TA) : TE := fun σ H Q => ta σ H fun x H1 => ∃ a dx fs, x = .ref a ∧ H1 a = some (.ins C dx fs) ∧ fs.lookup m = none ∧ t σ H1 fun vs H2 => sp (x :: (vs ++ dvs)) H2 Q (E σ)
theorem pe_methSD {pl : Sem Bool} (he : PE X o ta) (c : Cls X.K C) (hm : Meth X.K C m f) (F : FnOk X.prog X.w X.K X.mg X.base CX k f fd ps sp) (hr : Room k X.A) (hb : Binds X.K fd ps ds) (hd : Vals dvs ds) (hx : ∀ σ, PassesAt CX X σ (E σ)) (ha : PA X (e :: es) t)
    (hst : starEach (e :: es) X.env = (false, eval e X.env) :: starEach es X.env := by rfl) (hpl : (backTo pos (starEach es X.env)).any (·.1) = false := by rfl)
    (ht : eval (.Call (.Attribute o m apos) (e :: es) [] pos) X.env = (do
      let ov ← eval o X.env
      standAt apos.atName
      let (f, first) ← holding [ov] (getMethod ov m pl)
      callWith pos f first (backTo pos (starEach (e :: es) X.env)) (backToKw pos (keywordEach [] X.env))) := by rfl) :
    PE X (.Call (.Attribute o m apos) (e :: es) [] pos) (tMethSD C m sp dvs E ta t) := by
  refine ⟨fun pins s σ H Q I h => ?_⟩
  refine PySem.W.methodCall_KW (pl := pl) (thn (he.run pins s σ H _ I h) fun u s1 ⟨x, H1, I1, rx, a, dx, fs, ex, ea, l, q⟩ => ?_) ht
  subst ex
  obtain rfl : u = Value.ref a := rx
  refine getmeth_ok I1 ea c hm l ?_
  refine PySem.W.callWith_K (first := [.ref a]) (h₀ := X.base) I.ok.mod.kin hm.kp (thn (ha.run pos pins s1 σ H1 _ I1 q) fun us s2 ⟨vs, H2, I2, r, q2⟩ => ⟨I2.kIn, ?_⟩) hst hpl
  exact run_fnSD (us := .ref a :: us) (vs := .ref a :: vs) F hr hb hd (hx σ) I2 (.cons rfl r) q2
theorem pe_methSD0 {pl : Sem Bool} (he : PE X o ta) (c : Cls X.K C) (hm : Meth X.K C m f) (F : FnOk X.prog X.w X.K X.mg X.base CX k f fd ps sp) (hr : Room k X.A) (hb : Binds X.K fd ps ds) (hd : Vals dvs ds) (hx : ∀ σ, PassesAt CX X σ (E σ))
    (ht : eval (.Call (.Attribute o m apos) [] [] pos) X.env = (do
      let ov ← eval o X.env
      standAt apos.atName
      let (f, first) ← holding [ov] (getMethod ov m pl)
      callWith pos f first (backTo pos (starEach [] X.env)) (backToKw pos (keywordEach [] X.env))) := by rfl) :
    PE X (.Call (.Attribute o m apos) [] [] pos) (tMethSD C m sp dvs E ta tNil) := by
  refine ⟨fun pins s σ H Q I h => ?_⟩
  refine PySem.W.methodCall_KW (pl := pl) (thn (he.run pins s σ H _ I h) fun u s1 ⟨x, H1, I1, rx, a, dx, fs, ex, ea, l, q⟩ => ?_) ht
  subst ex
  obtain rfl : u = Value.ref a := rx
  refine getmeth_ok I1 ea c hm l ?_
  exact PySem.W.callWith_K0 (first := [.ref a]) I1.kIn hm.kp (run_fnSD (us := [.ref a]) (vs := [.ref a]) F hr hb hd (hx σ) I1 (.cons rfl .nil) q)
def tMakeSD (C : Addr) (sp : Sp) (dvs : List V) (E : St → XK) (t : TA) : TE := fun σ H Q => t σ H fun vs H1 => ∀ x dx, H1 x = none → H1 dx = none → dx ≠ x →
  sp (.ref x :: (vs ++ dvs)) (upd (upd H1 dx (.own x)) x (.ins C dx [])) (fun v H2 => v = .non ∧ Q (.ref x) H2) (E σ)
theorem run_makeSD {pins : List (Addr × Obj)} {σ : St} {H : Hp} {s : Shared} {Q : VK} {us : List Value} {vs : List V} (M : Mk X.K C f) (F : FnOk X.prog X.w X.K X.mg X.base CX k f fd ps sp) (hr : Room (k + 1) X.A) (hb : Binds X.K fd ps ds) (hd : Vals dvs ds)
    (hx : PassesAt CX X σ (E σ)) (I : Inv X pins σ H s) (r : Vals vs us)
    (h : ∀ x dx, H x = none → H dx = none → dx ≠ x → sp (.ref x :: (vs ++ dvs)) (upd (upd H dx (.own x)) x (.ins C dx [])) (fun v H2 => v = .non ∧ Q (.ref x) H2) (E σ)) :
    wpAny (model X.prog X.w) X.A (call (.ref C) us) (EP X pins σ Q) X.xe s := by
  have hq := h (s.heap.objs.size + 1) s.heap.objs.size (I.hok.fresh (Nat.le_succ _)) (I.hok.fresh (Nat.le_refl _)) (Nat.ne_of_lt (Nat.lt_succ_self _))
  have I2 := Inv.made (C := C) I
  have r2 : Vals (V.ref (s.heap.objs.size + 1) :: (vs ++ dvs)) (Value.ref (s.heap.objs.size + 1) :: (us ++ ds)) := .cons rfl (r.append hd)
  have hl : (Value.ref (s.heap.objs.size + 1) :: us ++ ds).length = ps.length := by
    have e := r2.length
    rw [F.len _ _ _ _ hq] at e
    exact e.symm
  refine wpAny_call (make_map (f := f) I.kIn M.makes M.init (beq_iff_eq.mp M.fn) (codeAny_mono (F.run _ X.stack _ _ ⟨Value.ref (s.heap.objs.size + 1) :: us, []⟩ (Value.ref (s.heap.objs.size + 1) :: (us ++ ds)) _ _ (E σ) (hr.make C us [])
    (I2.env0.make C us []) (hb _ (Value.ref (s.heap.objs.size + 1) :: us) I2.kIn hl) r2 hq) fun r s' hq' => ?_))
  cases r with
  | error e => exact hx pins _ _ e s' I2 hq'
  | ok fl =>
    cases fl with
    | ret u =>
      obtain ⟨v, H', I3, rv, ev, q3⟩ := I2.after hq'
      subst ev
      exact ⟨rv, ⟨V.ref (s.heap.objs.size + 1), H', I3, rfl, q3⟩⟩
    | next => exact False.elim hq'
    | brk => exact False.elim hq'
    | cont => exact False.elim hq'
theorem pe_makeSD (M : Mk X.K C f) (F : FnOk X.prog X.w X.K X.mg X.base CX k f fd ps sp) (hr : Room (k + 1) X.A) (hg : Gl X x) (hm : X.mg x = some (.ref C)) (hb : Binds X.K fd ps ds) (hd : Vals dvs ds) (hx : ∀ σ, PassesAt CX X σ (E σ))
    (ha : PA X (e :: es) t) (hdb : (x == ("__debug__" : Str)) = false := by decide) (he : starEach (e :: es) X.env = (false, eval e X.env) :: starEach es X.env := by rfl) (hpl : (backTo pos (starEach es X.env)).any (·.1) = false := by rfl) :
    PE X (.Call (.Name x p) (e :: es) [] pos) (tMakeSD C sp dvs E t) := by
  refine ⟨fun pins s σ H Q I h => ?_⟩
  refine wpAny_Call_Name_kw (ld_glob I hg hm ?_ hdb)
  refine PySem.W.callWith_K (h₀ := X.base) I.ok.mod.kin M.kp (thn (ha.run pos pins s σ H _ I h) fun us s1 ⟨vs, H1, I1, r, q⟩ => ⟨I1.kIn, ?_⟩) he hpl
  exact run_makeSD M F hr hb hd (hx σ) I1 r q
end
end L2

namespace Wb
open PySem

abbrev Key := L2.Key
/-- a text of its signs -/
def sx (l : List Nat) : Str := ⟨l.toArray⟩
inductive W where
  | non | bl (b : Bool) | int (i : Int) | str (s : Str)
  | tup (ws : List W) | lst (ws : List W) | ro (ws : List W) | dct (kvs : List (Key × W)) | ins (c : Str) (fs : List (Str × W)) | ref (n : Nat)
instance : Inhabited W := ⟨.non⟩
inductive Flag where
  | v | o | k
  deriving DecidableEq
structure Cell where
  cls : Str
  fs : List (Str × (Flag × W))
abbrev Store := List Cell
abbrev Env := List (Option (Flag × W))
inductive R (α : Type) where
  | ok (a : α) (S : Store)
  | exn (c : Str) (fs : List (Str × W)) (S : Store)
  | bad
def R.bind {α β : Type} (r : R α) (f : α → Store → R β) : R β := match r with
  | .ok a S => f a S
  | .exn c fs S => .exn c fs S
  | .bad => .bad
@[simp] theorem R.bind_ok {α β : Type} (a : α) (S : Store) (f : α → Store → R β) : (R.ok a S).bind f = f a S := id rfl
@[simp] theorem R.bind_exn {α β : Type} (c : Str) (fs : List (Str × W)) (S : Store) (f : α → Store → R β) : (R.exn c fs S : R α).bind f = .exn c fs S := id rfl
@[simp] theorem R.bind_bad {α β : Type} (f : α → Store → R β) : (R.bad : R α).bind f = .bad := id rfl

theorem R.bind_assoc {α β γ : Type} (r : R α) (f : α → Store → R β) (k : β → Store → R γ) : (r.bind f).bind k = r.bind fun a S => (f a S).bind k := by cases r <;> rfl

/-- what an expression is wanted for: a value to keep, one to be read, a new container -/
inductive Ctx where
  | V | S | B | F
  deriving DecidableEq
inductive Bin where
  | add | sub | mul | fdiv | mod
  deriving DecidableEq
inductive Cmp where
  | eq | ne | lt | le | gt | ge | isIn | notIn | isN | notN | deq | dne
  deriving DecidableEq
/-- builtins called by name -/
inductive BI where
  | len | int | str | abs | min2 | max2 | min1 | max1 | sum | sorted | list | tuple | dict | divmod
  deriving DecidableEq
/-- methods of builtin types that change nothing -/
inductive BM where
  | get1 | get2 | join | split | replace | index | indexT
  /-- a dict of texts that stands in the module, x: x[k], tuple(x) -/
  | subG (x : Str) | tupG (x : Str)
  deriving DecidableEq
inductive Ty where
  | int | bool | str | tuple | list | dict
  deriving DecidableEq

structure Fn where
  nm : Str
  cls : Option Str
  lvl : Nat
  own : List Bool
  fresh : Bool
  dfl : List W
  sem : Store → List W → R (W × List W)
def Fn.plain (f : Fn) : Bool := f.own.all fun b => !b
/-- the last k defaults -/
def Fn.dv (f : Fn) (k : Nat) : List W := f.dfl.drop (f.dfl.length - k)

inductive Tg where
  | one (i : Nat)
  | many (is : List Nat)
inductive Src where
  | iter | range | zip | keys | own
  deriving DecidableEq

inductive E where
  | var (i : Nat)
  | glob (x : Str) (w : W)
  | cst (w : W)
  | bin (o : Bin) (a b : E)
  | neg (a : E)
  | not (a : E)
  | cmp (o : Cmp) (a b : E)
  | chain (o1 o2 : Cmp) (a b c : E)
  | and (a b : E)
  | or (a b : E)
  | ite (c a b : E)
  | tup (es : List E)
  | lst (es : List E)
  | dct (kvs : List E)
  | lc (tg : Tg) (k : Src) (srcs conds : List E) (elt : E) (own : List (Str × Nat))
  | dc (tg : Tg) (k : Src) (srcs conds : List E) (ke ve : E) (own : List (Str × Nat))
  | fstr (ps : List E)
  | fmt (e : E)
  | fmtw (n : Nat) (e : E)
  | sub (a i : E)
  | slice (a : E) (lo hi : List E)
  | rev (a : E)
  | attr (a : E) (f : Str)
  | call (f : Fn) (es : List E) (k : Nat)
  | meth (f : Fn) (o : E) (es : List E) (k : Nat)
  /-- a method that sees no object -/
  | pmeth (f : Fn) (o : E) (es : List E)
  /-- a call that sees no object and gives back what is no container: it may look at own containers -/
  | pcall (f : Fn) (es : List E)
  | mk (c : Str) (f : Fn) (es : List E)
  | mkF (c : Str) (f : Fn) (es : List E)
  | bcall (b : BI) (es : List E)
  /-- a list over the names of an own dict in a field -/
  | lcF (tg : Tg) (i : Nat) (f : Str) (elt : E) (own : List (Str × Nat))
  | bmeth (b : BM) (o : E) (es : List E)
  | isi (a : E) (t : Ty)
  | tru (a : E)
instance : Inhabited E := ⟨.cst .non⟩

def sizeL : Nat := 16777216
def mulOk (i j : Int) : Bool := (decide (-(2 ^ 64) < i) && decide (i < 2 ^ 64)) || (decide (-(2 ^ 64) < j) && decide (j < 2 ^ 64))
/-- (a new container?, the value) -/
abbrev PV := Option (Bool × W)
def binW : Bin → W → W → PV
  | .add, .int i, .int j => some (false, .int (i + j))
  | .add, .str x, .str y => if x.length + y.length ≤ sizeL then some (false, .str (x ++ y)) else none
  | .add, .lst xs, .lst ys => if xs.length + ys.length ≤ sizeL then some (true, .lst (xs ++ ys)) else none
  | .sub, .int i, .int j => some (false, .int (i - j))
  | .mul, .int i, .int j => if mulOk i j then some (false, .int (i * j)) else none
  | .mul, .lst xs, .int k => if 0 ≤ k ∧ k < 2 ^ 62 ∧ xs.length * k.toNat ≤ sizeL then some (true, .lst (List.replicate k.toNat xs).flatten) else none
  | .fdiv, .int i, .int j => if j ≠ 0 ∧ j.natAbs < 1073741824 then some (false, .int (i.fdiv j)) else none
  | .mod, .int i, .int j => if j ≠ 0 then some (false, .int (i.fmod j)) else none
  | _, _, _ => none

mutual
def toPy : W → Option PyData
  | .non => some .none
  | .bl b => some (.bool b)
  | .int i => some (.int i)
  | .str s => some (.str s)
  | .tup ws => (toPys ws).map .tuple
  | .lst ws => (toPys ws).map .list
  | _ => none
def toPys : List W → Option (List PyData)
  | [] => some []
  | w :: ws => match toPy w, toPys ws with
    | some d, some ds => some (d :: ds)
    | _, _ => none
end
def eqW (a b : W) : Option Bool := match toPy a, toPy b with
  | some d, some e => if SeqAt.shaped d && SeqAt.shaped e then some (PyData.eqv d e) else none
  | _, _ => none
def flatW : W → Bool
  | .non => true | .bl _ => true | .int _ => true | .str _ => true
  | _ => false
/-- == of flat things -/
def eqF : W → W → Bool
  | .non, .non => true
  | .bl a, .bl b => a == b
  | .bl a, .int j => (if a then 1 else 0) == j
  | .int i, .bl b => i == (if b then 1 else 0)
  | .int i, .int j => i == j
  | .str x, .str y => x == y
  | _, _ => false
def keyW : W → Option Key
  | .int i => some (.inl i)
  | .str s => some (.inr s)
  | _ => none
def kW : Key → W
  | .inl i => .int i
  | .inr s => .str s
def valW (kvs : List (Key × W)) (k : Key) : Option W := (kvs.find? fun kv => decide (kv.1 = k)).map (·.2)
def putW (kvs : List (Key × W)) (k : Key) (v : W) : List (Key × W) :=
  if kvs.any fun kv => decide (kv.1 = k) then kvs.map fun kv => if kv.1 = k then (kv.1, v) else kv else kvs ++ [(k, v)]
def ltS (a b : Str) : Bool := decide (a.cps.toList < b.cps.toList)
/-- x in y -/
def inW (x y : W) : Option Bool := match y with
  | .lst ws => if flatW x && ws.all flatW then some (ws.any fun y => eqF y x) else none
  | .tup ws => if flatW x && ws.all flatW then some (ws.any fun y => eqF y x) else none
  | .dct kvs => (keyW x).map fun k => (valW kvs k).isSome
  | .str z => match x with
    | .str c => some (!(Builtin.Str.occurrences z c 0 z.length 1).isEmpty)
    | _ => none
  | _ => none
def isNon : W → Bool
  | .non => true
  | _ => false
/-- == of what may hold dicts -/
def eqZ (f : W → W → Option Bool) : List W → List W → Option Bool
  | x :: xs, y :: ys => match f x y, eqZ f xs ys with
    | some a, some b => some (a && b)
    | _, _ => none
  | _, _ => some true
def eqKs (f : W → W → Option Bool) (ls : List (Key × W)) : List (Key × W) → Option Bool
  | [] => some true
  | p :: r => match valW ls p.1 with
    | none => some false
    | some y => match f p.2 y, eqKs f ls r with
      | some a, some b => some (a && b)
      | _, _ => none
def eqD : Nat → W → W → Option Bool
  | 0, _, _ => none
  | n + 1, a, b => match a, b with
    | .tup xs, .tup ys => (eqZ (eqD n) xs ys).map fun r => r && xs.length == ys.length
    | .lst xs, .lst ys => if xs.length = ys.length then eqZ (eqD n) xs ys else none
    | .dct ks, .dct ls => if (ks.map (·.1)).Nodup then (if ks.length = ls.length then eqKs (eqD n) ls ks else some false) else none
    | a, b => if flatW a && flatW b then some (eqF a b) else none
def eqTop (l : Bool) : W → W → Option Bool
  | .tup xs, .tup ys => eqD 8 (.tup xs) (.tup ys)
  | .dct xs, .dct ys => eqD 8 (.dct xs) (.dct ys)
  | .lst xs, .lst ys => if l then eqD 8 (.lst xs) (.lst ys) else none
  | _, _ => none
def cmpW : Cmp → W → W → Option Bool
  | .deq, a, b => eqTop true a b
  | .dne, a, b => (eqTop false a b).map (! ·)
  | .eq, a, b => eqW a b
  | .ne, a, b => (eqW a b).map (! ·)
  | .lt, .int i, .int j => some (decide (i < j))
  | .le, .int i, .int j => some (decide (i ≤ j))
  | .gt, .int i, .int j => some (decide (j < i))
  | .ge, .int i, .int j => some (decide (j ≤ i))
  | .lt, .str i, .str j => some (ltS i j)
  | .le, .str i, .str j => some (!ltS j i)
  | .gt, .str i, .str j => some (ltS j i)
  | .ge, .str i, .str j => some (!ltS i j)
  | .isIn, a, b => inW a b
  | .notIn, a, b => (inW a b).map (! ·)
  | .isN, a, .non => some (isNon a)
  | .notN, a, .non => some (!isNon a)
  | .isN, .bl a, .bl b => some (a == b)
  | .notN, .bl a, .bl b => some (!(a == b))
  | _, _, _ => none
def truW : W → Option Bool
  | .non => some false
  | .bl b => some b
  | .int i => some (i != 0)
  | .str s => if s.length ≤ sizeL then some ((s.length : Int) != 0) else none
  | .lst ws => some (!ws.isEmpty)
  | .ro ws => some (!ws.isEmpty)
  | .tup ws => some (!ws.isEmpty)
  | _ => none
/-- an item -/
def subW (a i : W) : Option W := match a, i with
  | .lst ws, .int k => L2.atI ws k
  | .ro ws, .int k => L2.atI ws k
  | .tup ws, .int k => L2.atI ws k
  | .str z, .int k => if z.length ≤ sizeL then (L2.atI z.cps.toList k).map fun c => .str ⟨#[c]⟩ else none
  | .dct kvs, i => (keyW i).bind (valW kvs)
  | _, _ => none
def optI : List W → Option (Option Int)
  | [] => some none
  | [.int i] => some (some i)
  | _ => none
def cutL {α : Type} (xs : List α) (lo hi : Option Int) : List α := (xs.drop (HT.sIx xs.length 0 lo)).take (HT.sIx xs.length xs.length hi - HT.sIx xs.length 0 lo)
def sliceW (a : W) (l h : Option Int) : PV := match a with
  | .lst ws => some (true, .lst (cutL ws l h))
  | .str z => if z.length ≤ sizeL then some (false, .str (L2.cutS z l h)) else none
  | _ => none
def optR (l : List W) (S : Store) : R (Option Int) := match optI l with
  | some o => .ok o S
  | none => .bad
def revW : W → PV
  | .lst ws => some (true, .lst ws.reverse)
  | _ => none
def lenW : W → Option Nat
  | .str s => if s.length ≤ sizeL then some s.length else none
  | .lst ws => some ws.length
  | .ro ws => some ws.length
  | .tup ws => some ws.length
  | .dct kvs => some kvs.length
  | _ => none
def intsW : List W → Option (List Int)
  | [] => some []
  | .int i :: r => (intsW r).map (i :: ·)
  | _ => none
def strsW : List W → Option (List Str)
  | [] => some []
  | .str s :: r => (strsW r).map (s :: ·)
  | _ => none
def maxI : Int → List Int → Int
  | a, [] => a
  | a, b :: r => maxI (if b > a then b else a) r
def minI : Int → List Int → Int
  | a, [] => a
  | a, b :: r => minI (if b < a then b else a) r
def insI (i : Int) : List Int → List Int
  | [] => [i]
  | j :: r => if i ≤ j then i :: j :: r else j :: insI i r
def sortI : List Int → List Int
  | [] => []
  | i :: r => insI i (sortI r)
def insS (i : Str) : List Str → List Str
  | [] => [i]
  | j :: r => if ltS j i then j :: insS i r else i :: j :: r
def sortS : List Str → List Str
  | [] => []
  | i :: r => insS i (sortS r)
/-- pairs of ints -/
def prsW : List W → Option (List (Int × Int))
  | [] => some []
  | .tup [.int i, .int j] :: r => (prsW r).map ((i, j) :: ·)
  | _ => none
def prW (p : Int × Int) : W := .tup [.int p.1, .int p.2]
def ltP (p q : Int × Int) : Bool := if p.1 = q.1 then decide (p.2 < q.2) else decide (p.1 < q.1)
def insP (p : Int × Int) : List (Int × Int) → List (Int × Int)
  | [] => [p]
  | q :: r => if ltP q p then q :: insP p r else p :: q :: r
def sortP : List (Int × Int) → List (Int × Int)
  | [] => []
  | p :: r => insP p (sortP r)
def sortW (ws : List W) : PV := match intsW ws with
  | some ns => some (true, .lst ((sortI ns).map .int))
  | none => match strsW ws with
    | some ss => if ss.length < 64 then some (true, .lst ((sortS ss).map .str)) else none
    | none => (prsW ws).map fun ps => (true, .lst ((sortP ps).map prW))
/-- where the first like it stands -/
def idxW (x : W) : List W → Option Nat
  | [] => none
  | y :: r => if eqF y x then some 0 else (idxW x r).map (· + 1)
def idxS (x : Str) : List Str → Option Nat
  | [] => none
  | y :: r => if y = x then some 0 else (idxS x r).map (· + 1)
/-- without the first like it -/
def remS (x : Str) : List Str → Option (List Str)
  | [] => none
  | y :: r => if y = x then some r else (remS x r).map (y :: ·)
def biW : BI → List W → PV
  | .len, [a] => match lenW a with
    | some n => some (false, .int (n : Int))
    | none => none
  | .int, [.int i] => some (false, .int i)
  | .int, [.bl b] => some (false, .int (if b then 1 else 0))
  | .int, [.str s] => match intText? s with
    | some n => if s.length ≤ 640 then some (false, .int n) else none
    | none => none
  | .str, [.int i] => if i.natAbs.log2 < 1920 then some (false, .str (toString i)) else none
  | .str, [.str s] => some (false, .str s)
  | .abs, [.int i] => some (false, .int (if i < 0 then -i else i))
  | .max2, [.int i, .int j] => some (false, .int (if j > i then j else i))
  | .min2, [.int i, .int j] => some (false, .int (if j < i then j else i))
  | .dict, [.dct kvs] => some (true, .dct kvs)
  | .max1, [.lst ws] => match intsW ws with
    | some (i :: r) => some (false, .int (maxI i r))
    | _ => none
  | .min1, [.lst ws] => match intsW ws with
    | some (i :: r) => some (false, .int (minI i r))
    | _ => none
  | .sum, [.lst ws] => (intsW ws).map fun ns => (false, .int ns.sum)
  | .sorted, [.lst ws] => sortW ws
  | .list, [.lst ws] => some (true, .lst ws)
  | .list, [.tup ws] => some (true, .lst ws)
  | .list, [.dct kvs] => some (true, .lst (kvs.map fun kv => kW kv.1))
  | .tuple, [.lst ws] => some (false, .tup ws)
  | .tuple, [.tup ws] => some (false, .tup ws)
  | .divmod, [.int i, .int j] => if 0 < j ∧ j < 1073741824 then some (false, .tup [.int (i / j), .int (i % j)]) else none
  | _, _ => none
def bmW : BM → W → List W → PV
  | .get1, .dct kvs, [k] => (keyW k).map fun k => (false, (valW kvs k).getD .non)
  | .get2, .dct kvs, [k, d] => (keyW k).map fun k => (false, (valW kvs k).getD d)
  | .join, .str s, [.lst ws] => match strsW ws with
    | some ss => if (ss.map (·.length)).sum + ss.length * s.length ≤ sizeL then some (false, .str (Txt.join s ss)) else none
    | none => none
  | .replace, .str x, [.str y, .str z] => if (y == z) = false ∧ x.length + (x.length + 1) * z.length ≤ 16777216 then some (false, .str (Txt.replace x y z)) else none
  | .index, .lst ws, [x] => if flatW x && ws.all flatW then (idxW x ws).map fun (j : Nat) => (false, W.int (j : Int)) else none
  | .indexT, .tup ws, [.str x] => match strsW ws with
    | some ss => (idxS x ss).map fun (j : Nat) => (false, W.int (j : Int))
    | none => none
  | .split, .str s, [.str t] => if (t.length == 0) = false ∧ s.length + 2 ≤ sizeL then some (true, .lst ((Txt.split s t).map .str)) else none
  | .subG _, .dct kvs, [.str k] => match valW kvs (.inr k) with
    | some (.str z) => some (false, .str z)
    | _ => none
  | .tupG _, .dct kvs, [] => some (false, .tup (kvs.map fun p => kW p.1))
  | _, _, _ => none
def rcvW : BM → W → Bool
  | .get1, .dct _ => true
  | .get2, .dct _ => true
  | .join, .str _ => true
  | .split, .str _ => true
  | .replace, .str _ => true
  | .index, .lst _ => true
  | .indexT, .tup _ => true
  | .subG _, .dct _ => true
  | .tupG _, .dct _ => true
  | _, _ => false
def tyW : W → Option Ty
  | .bl _ => some .bool | .int _ => some .int | .str _ => some .str | .tup _ => some .tuple | .lst _ => some .list | .dct _ => some .dict
  | _ => none
def isiW (a : W) (t : Ty) : Option Bool := match a with
  | .non => some false
  | a => (tyW a).map fun s => decide (s = t) || (decide (s = .bool) && decide (t = .int))
/-- a number of n digits at least -/
def padT (n : Nat) (i : Int) : Str := ⟨(List.replicate (n - (Nat.toDigits 10 i.natAbs).length) 48).toArray⟩ ++ Str.ofString (toString i)
def padS (n : Nat) : Str := ⟨#[48, 48 + n, 100]⟩
def padW (n : Nat) (i : Int) : Option Str := if 0 ≤ i ∧ i < 10000 then some (padT n i) else none
def fmtW : W → Option Str
  | .str s => if s.length ≤ sizeL then some s else none
  | .int i => if i.natAbs.log2 < 1920 then some (toString i) else none
  | _ => none
/-- own lists are only read -/
def srcC : Src → Ctx
  | .own => .B
  | _ => .V
/-- what a loop walks -/
def itemsW : Src → List W → Option (List W)
  | .iter, [.lst ws] => some ws
  | .iter, [.ro ws] => some ws
  | .iter, [.tup ws] => some ws
  | .iter, [.str s] => some (s.cps.toList.map fun c => .str ⟨#[c]⟩)
  | .range, [.int n] => if -4611686018427387904 ≤ n ∧ n < 4611686018427387904 then some ((List.range n.toNat).map fun i : Nat => .int (i : Int)) else none
  | .range, [.int a, .int b] => if -4611686018427387904 ≤ a ∧ a < 4611686018427387904 ∧ -4611686018427387904 ≤ b ∧ b < 4611686018427387904 then some ((List.range (b - a).toNat).map fun i : Nat => .int (a + (i : Int))) else none
  | .keys, [.dct kvs] => some (kvs.map fun kv => kW kv.1)
  | .own, [.lst ws] => some ws
  | .zip, [.lst xs, .lst ys] => some ((xs.zip ys).map fun p => .tup [p.1, p.2])
  | _, _ => none
def itemsR (k : Src) (ss : List W) (S : Store) : R (List W) := match itemsW k ss with
  | some items => .ok items S
  | none => .bad
/-- k, v, k, v .. -/
def pairsW : List W → Option (List (Key × W))
  | [] => some []
  | k :: v :: r => match keyW k, pairsW r with
    | some k, some ps => some ((k, v) :: ps)
    | _, _ => none
  | _ => none
def unpackW : W → Option (List W)
  | .tup ws => some ws
  | _ => none

def Env.at (env : Env) (i : Nat) : Option (Flag × W) := (env[i]?).join
def Env.put (env : Env) (i : Nat) (x : Flag × W) : Env := env.set i (some x)
def bindTg (tg : Tg) (w : W) (env : Env) : Option Env := match tg with
  | .one i => some (env.put i (.v, w))
  | .many is => match unpackW w with
    | some ws => if ws.length = is.length then some ((is.zip ws).foldl (fun e p => e.put p.1 (.v, p.2)) env) else none
    | none => none
def ofPV (c : Ctx) (p : PV) (S : Store) : R W := match p with
  | some (fresh, w) => if c = .F ∧ fresh = false then .bad else .ok w S
  | none => .bad
def ofW (c : Ctx) (p : Option W) (S : Store) : R W := match p with
  | some w => if c = .F then .bad else .ok w S
  | none => .bad
def ofB (c : Ctx) (p : Option Bool) (S : Store) : R W := ofW c (p.map .bl) S
def clsOf (w : W) (S : Store) : Option Str := match w with
  | .ins c _ => some c
  | .ref n => S[n]?.map (·.cls)
  | _ => none
/-- a field: read in a context -/
def attrW (c : Ctx) (w : W) (f : Str) (S : Store) : R W := match w with
  | .ins _ fs => ofW c (fs.lookup f) S
  | .ref n => match S[n]? with
    | some cl => match cl.fs.lookup f with
      | some (.v, w') => ofW c (some w') S
      | some (_, w') => if c = .B then .ok w' S else .bad
      | none => .bad
    | none => .bad
  | _ => .bad
/-- a block's own names forgotten -/
def wipeE (env : Env) : List Nat → Env
  | [] => env
  | v :: vs => (wipeE env vs).set v none
/-- a loop over items, filling a list -/
def lcGo (tg : Tg) (cond : Env → Store → R Bool) (elt : Env → Store → R W) (env : Env) : List W → List W → Store → R (List W)
  | [], acc, S => .ok acc S
  | x :: xs, acc, S => match bindTg tg x env with
    | none => .bad
    | some env' => (cond env' S).bind fun b S => if b then (elt env' S).bind fun w S => if acc.length < sizeL then lcGo tg cond elt env xs (acc ++ [w]) S else .bad else lcGo tg cond elt env xs acc S
def dcGo (tg : Tg) (cond : Env → Store → R Bool) (ke ve : Env → Store → R W) (env : Env) : List W → List (Key × W) → Store → R (List (Key × W))
  | [], acc, S => .ok acc S
  | x :: xs, acc, S => match bindTg tg x env with
    | none => .bad
    | some env' => (cond env' S).bind fun b S => if b then (ke env' S).bind fun kw S => (ve env' S).bind fun w S => match keyW kw with
        | some k => if acc.length < sizeL then dcGo tg cond ke ve env xs (putW acc k w) S else .bad
        | none => .bad
      else dcGo tg cond ke ve env xs acc S
def noExn {α : Type} : R α → R α
  | .exn _ _ _ => .bad
  | r => r

mutual
/-- changes no object -/
def quiet : E → Bool
  | .var _ => true | .glob _ _ => true | .cst _ => true
  | .bin _ a b => quiet a && quiet b
  | .neg a => quiet a
  | .not a => quiet a
  | .cmp _ a b => quiet a && quiet b
  | .chain _ _ a b c => quiet a && quiet b && quiet c
  | .and a b => quiet a && quiet b
  | .or a b => quiet a && quiet b
  | .ite c a b => quiet c && quiet a && quiet b
  | .tup es => quiets es
  | .lst es => quiets es
  | .dct kvs => quiets kvs
  | .fstr ps => quiets ps
  | .fmt e => quiet e
  | .fmtw _ e => quiet e
  | .sub a i => quiet a && quiet i
  | .slice a lo hi => quiet a && quiets lo && quiets hi
  | .rev a => quiet a
  | .attr a _ => quiet a
  | .bcall _ es => quiets es
  | .bmeth _ o es => quiet o && quiets es
  | .pmeth _ o es => quiet o && quiets es
  | .pcall _ es => quiets es
  | .isi a _ => quiet a
  | .tru a => quiet a
  | _ => false
def quiets : List E → Bool
  | [] => true
  | e :: es => quiet e && quiets es
end
/-- the context of what is held while b is reckoned -/
def Ctx.held (q : Bool) : Ctx := if q then .B else .S
/-- a place whose container is one's own -/
inductive PR where
  | slot (i : Nat) | fld (n : Nat) (f : Str)
def updF (f : Str) (x : Flag × W) : List (Str × (Flag × W)) → List (Str × (Flag × W))
  | [] => [(f, x)]
  | (g, y) :: r => if g = f then (g, x) :: r else (g, y) :: updF f x r
def Store.setF (S : Store) (n : Nat) (f : Str) (x : Flag × W) : Store := S.modify n fun c => ⟨c.cls, updF f x c.fs⟩
def Store.getF (S : Store) (n : Nat) (f : Str) : Option (Flag × W) := (S[n]?).bind fun c => c.fs.lookup f
def PR.get : PR → Env → Store → Option (Flag × W)
  | .slot i, env, _ => env.at i
  | .fld n f, _, S => S.getF n f
def PR.setE : PR → Flag × W → Env → Env
  | .slot i, x, env => env.put i x
  | .fld _ _, _, env => env
def PR.setS : PR → Flag × W → Store → Store
  | .slot _, _, S => S
  | .fld n f, x, S => S.setF n f x

/-- by a bool -/
def selB {α : Type} (x : W) (t f : R α) : R α := match x with
  | .bl true => t
  | .bl false => f
  | _ => .bad
/-- x or y: what x makes of it -/
def selO {α : Type} (x : W) (t : W → R α) (f : R α) : R α := match x with
  | .bl true => t (.bl true)
  | .bl false => f
  | .int i => if i = 0 then f else t (.int i)
  | .non => f
  | _ => .bad
/-- a value's truth -/
def tstR (x : W) (S : Store) : R Bool := match truW x with
  | some b => .ok b S
  | none => .bad
/-- holds no object that may change -/
def noref : Nat → W → Bool
  | 0, _ => false
  | n + 1, w => match w with
    | .tup ws => ws.all (noref n)
    | .lst ws => ws.all (noref n)
    | .ro ws => ws.all (noref n)
    | .dct kvs => kvs.all fun p => noref n p.2
    | .ins _ fs => fs.all fun p => noref n p.2
    | .ref _ => false
    | _ => true
def pureR (r : R (W × List W)) (S : Store) : R W := match r with
  | .ok r _ => if noref 20 r.1 = true then .ok r.1 S else .bad
  | .exn c fs _ => if (fs.all fun q => noref 20 q.2) = true then .exn c fs S else .bad
  | .bad => .bad
/-- what is no container -/
def atomW : W → Bool
  | .non => true
  | .bl _ => true
  | .int _ => true
  | .str _ => true
  | _ => false
def pureA (r : R (W × List W)) (S : Store) : R W := match r with
  | .ok r _ => if atomW r.1 = true then .ok r.1 S else .bad
  | .exn c fs _ => if (fs.all fun q => atomW q.2) = true then .exn c fs S else .bad
  | .bad => .bad
/-- an own container, looked at -/
def oweW (e : E) (env : Env) : Option W := match e with
  | .var i => match env.at i with
    | some (.o, w) => some w
    | _ => none
  | _ => none
def oweR (e : E) (env : Env) (S : Store) (r : R W) : R W := match oweW e env with
  | some w => .ok w S
  | none => r
mutual
def ev : Ctx → E → Env → Store → R W
  | c, .var i, env, S => match env.at i with
    | some (.v, w) => if c = .F then .bad else .ok w S
    | some (_, w) => if c = .B ∨ c = .S then .ok w S else .bad
    | none => .bad
  | c, .glob _ w, _, S => ofW c (some w) S
  | c, .cst w, _, S => ofW c (some w) S
  | c, .bin o a b, env, S => (ev (.held (quiet b)) a env S).bind fun x S => (ev .B b env S).bind fun y S => ofPV c (binW o x y) S
  | c, .neg a, env, S => (ev .B a env S).bind fun x S => match x with
    | .int i => ofW c (some (.int (-i))) S
    | _ => .bad
  | c, .not a, env, S => (ev .B a env S).bind fun x S => ofB c ((truW x).map (! ·)) S
  | c, .cmp o a b, env, S => (ev (.held (quiet b)) a env S).bind fun x S => (ev .B b env S).bind fun y S => ofB c (cmpW o x y) S
  | c, .chain o1 o2 a b d, env, S => (ev .V a env S).bind fun x S => (ev .V b env S).bind fun y S => match cmpW o1 x y with
    | some true => (ev .V d env S).bind fun z S => ofB c (cmpW o2 y z) S
    | some false => ofB c (some false) S
    | none => .bad
  | c, .and a b, env, S => (ev .B a env S).bind fun x S => selB x (ev c b env S) (ofW c (some (.bl false)) S)
  | c, .or a b, env, S => (ev .B a env S).bind fun x S => selO x (fun w => ofW c (some w) S) (ev c b env S)
  | c, .ite t a b, env, S => (ev .B t env S).bind fun x S => (tstR x S).bind fun k S => if k then ev c a env S else ev c b env S
  | c, .tup es, env, S => (evs .V es env S).bind fun ws S => ofW c (if ws.length ≤ sizeL then some (.tup ws) else none) S
  | c, .lst es, env, S => (evs .V es env S).bind fun ws S => if ws.length ≤ sizeL then .ok (.lst ws) S else .bad
  | c, .dct kvs, env, S => (evs .V kvs env S).bind fun ws S => match pairsW ws with
    | some ps => if ps.length ≤ 15 then .ok (.dct (ps.foldl (fun acc p => putW acc p.1 p.2) [])) S else .bad
    | none => .bad
  | c, .lc tg k srcs conds elt own, env, S => ((evs (srcC k) srcs env S).bind (itemsR k)).bind fun items S =>
      noExn ((lcGo tg (fun env' S' => evc conds env' S') (fun env' S' => ev .V elt env' S') (wipeE env (own.map (·.2))) items [] S).bind fun ws S' => .ok (.lst ws) S')
  | c, .lcF tg i f elt own, env, S => match env.at i with
    | some (_, .ref n) => match S.getF n f with
      | some (.o, .dct kvs) => if quiet elt then (noExn ((lcGo tg (fun _ S' => .ok true S') (fun env' S' => ev .V elt env' S') (wipeE env (own.map (·.2))) (kvs.map fun kv => kW kv.1) [] (S.setF n f (.k, .dct kvs))).bind fun ws S' => .ok (.lst ws) S')).bind fun w S' =>
          match S'.getF n f with
          | some (.k, _) => .ok w (S'.setF n f (.o, .dct kvs))
          | _ => .bad
        else .bad
      | _ => .bad
    | _ => .bad
  | c, .dc tg k srcs conds ke ve own, env, S => ((evs (srcC k) srcs env S).bind (itemsR k)).bind fun items S =>
      noExn ((dcGo tg (fun env' S' => evc conds env' S') (fun env' S' => ev .V ke env' S') (fun env' S' => ev .V ve env' S') (wipeE env (own.map (·.2))) items [] S).bind fun kvs S' => .ok (.dct kvs) S')
  | c, .fstr ps, env, S => (evj ps Str.empty env S).bind fun z S => ofW c (some (.str z)) S
  | c, .fmt e, env, S => (ev .B e env S).bind fun x S => ofW c ((fmtW x).map .str) S
  | c, .fmtw n e, env, S => (ev .B e env S).bind fun x S => match x with
    | .int i => ofW c ((padW n i).map .str) S
    | _ => .bad
  | c, .sub a i, env, S => (ev (.held (quiet i)) a env S).bind fun x S => (ev .V i env S).bind fun y S => ofW c (subW x y) S
  | c, .slice a lo hi, env, S => (ev (.held (quiets lo && quiets hi)) a env S).bind fun x S => ((evs .V lo env S).bind optR).bind fun l S => ((evs .V hi env S).bind optR).bind fun h S => ofPV c (sliceW x l h) S
  | c, .rev a, env, S => (ev .B a env S).bind fun x S => ofPV c (revW x) S
  | c, .attr a f, env, S => (ev .B a env S).bind fun x S => attrW c x f S
  | c, .call f es k, env, S => (evs .V es env S).bind fun ws S => if c = .F ∧ f.fresh = false then .bad else if f.plain then (f.sem S (ws ++ f.dv k)).bind fun r S => .ok r.1 S else .bad
  | c, .meth f o es k, env, S => (ev .V o env S).bind fun x S => if clsOf x S = f.cls ∧ f.cls ≠ none then (evs .V es env S).bind fun ws S => if c = .F ∧ f.fresh = false then .bad else if f.plain then (f.sem S (x :: (ws ++ f.dv k))).bind fun r S => .ok r.1 S else .bad else .bad
  | c, .pmeth f o es, env, S => (ev .V o env S).bind fun x S => if clsOf x S = f.cls ∧ f.cls ≠ none then (evs .V es env S).bind fun ws S => if c = .F ∨ f.fresh = true ∨ ((x :: (ws ++ f.dv 0)).all (noref 20)) = false then .bad else if f.plain then pureR (f.sem [] (x :: (ws ++ f.dv 0))) S else .bad else .bad
  | c, .pcall f es, env, S => (evq es env S).bind fun ws S => if c = .F ∨ f.fresh = true ∨ ((ws ++ f.dv 0).all (noref 20)) = false then .bad else if f.plain then pureA (f.sem [] (ws ++ f.dv 0)) S else .bad
  | c, .mk cl f es, env, S => (evs .V es env S).bind fun ws S => if c = .F then .bad else (f.sem (S ++ [⟨cl, []⟩]) (.ref S.length :: ws)).bind fun r S' => match r.1 with
    | .non => .ok (.ref S.length) S'
    | _ => .bad
  | c, .mkF cl f es, env, S => (evs .V es env S).bind fun ws S => (f.sem S (.ins cl [] :: ws)).bind fun r S' => match r with
    | (.non, [w]) => .ok w S'
    | _ => .bad
  | c, .bcall b es, env, S => match es with
    | [e] => (ev .B e env S).bind fun w S => ofPV c (biW b [w]) S
    | es => (evs .V es env S).bind fun ws S => ofPV c (biW b ws) S
  | c, .bmeth b o es, env, S => (ev (.held (quiets es)) o env S).bind fun x S => if rcvW b x then (evs .V es env S).bind fun ws S => ofPV c (bmW b x ws) S else .bad
  | c, .isi a t, env, S => (ev .B a env S).bind fun x S => ofB c (isiW x t) S
  | c, .tru a, env, S => (ev .B a env S).bind fun x S => ofB c (truW x) S
def evs : Ctx → List E → Env → Store → R (List W)
  | _, [], _, S => .ok [] S
  | c, e :: es, env, S => (ev c e env S).bind fun w S => (evs c es env S).bind fun ws S => .ok (w :: ws) S
def evq : List E → Env → Store → R (List W)
  | [], _, S => .ok [] S
  | e :: es, env, S => (oweR e env S (ev .V e env S)).bind fun w S => (evq es env S).bind fun ws S => .ok (w :: ws) S
/-- the texts, one behind the other, from acc on -/
def evj : List E → Str → Env → Store → R Str
  | [], acc, _, S => .ok acc S
  | e :: es, acc, env, S => (ev .V e env S).bind fun w S => match w with
    | .str s => if (acc ++ s).length ≤ sizeL then evj es (acc ++ s) env S else .bad
    | _ => .bad
/-- the tests of a comprehension -/
def evc : List E → Env → Store → R Bool
  | [], _, S => .ok true S
  | [e], env, S => (ev .B e env S).bind tstR
  | _, _, _ => .bad
end

/-- what a field of an exception holds: an argument, a constant -/
inductive XF where
  | arg (i : Nat) | cst (s : Str)
  deriving DecidableEq
/-- an exception class: its name, how many arguments, its fields as they are stored -/
structure Xc where
  nm : Str
  n : Nat
  flds : List (Str × XF)
def Xc.vals (x : Xc) (ws : List W) : List (Str × W) := x.flds.reverse.map fun p => (p.1, match p.2 with
  | .arg i => ws.getD i .non
  | .cst s => .str s)
/-- every class of errors lies right below the package's own one -/
def isSub (c x : Str) : Bool := decide (c = x) || decide (x = "WeirError") || decide (x = "ValueError")
/-- parts of what an except suite hands back -/
inductive X0 where
  | cst (w : W) | fld (f : Str) | var (i : Nat)
inductive XV where
  | one (x : X0) | tup (xs : List X0)
inductive XS where
  | pass | brk | cont | retN
  | ret (v : XV) | asg (i : Nat) (v : XV)
  | ifx (cs : List (Bool × Str)) (s : XS)
structure Hnd where
  cls : Str
  as : Option Nat
  suite : List XS
def X0.val (fs : List (Str × W)) (env : Env) : X0 → Option W
  | .cst w => some w
  | .fld f => fs.lookup f
  | .var i => match env.at i with
    | some (.v, w) => some w
    | _ => none
def valsX (fs : List (Str × W)) (env : Env) : List X0 → Option (List W)
  | [] => some []
  | x :: xs => match x.val fs env, valsX fs env xs with
    | some w, some ws => some (w :: ws)
    | _, _ => none
def XV.val (fs : List (Str × W)) (env : Env) : XV → Option W
  | .one x => x.val fs env
  | .tup xs => (valsX fs env xs).map .tup

inductive Pl where
  | slot (i : Nat) | fld (o : E) (f : Str)
inductive S where
  | pass | brk | cont
  | expr (e : E)
  | asg (i : Nat) (e : E)
  | asgO (i : Nat) (e : E)
  | asgT (is : List Nat) (e : E)
  | aug (i : Nat) (o : Bin) (e : E)
  | seta (cl : Str) (o : E) (f : Str) (e : E)
  | setaO (cl : Str) (o : E) (f : Str) (e : E)
  | self (cl : Str) (i : Nat) (f : Str) (e : E)
  | augA (cl : Str) (o : E) (f : Str) (op : Bin) (e : E)
  | seti (p : Pl) (k e : E)
  | augi (p : Pl) (k : E) (op : Bin) (e : E)
  | app (p : Pl) (e : E)
  | ext (p : Pl) (e : E)
  | rem (p : Pl) (e : E)
  | ife (c : E) (a b : List S)
  | for_ (tg : Tg) (k : Src) (srcs : List E) (body : List S)
  | whl (c : E) (body : List S)
  | ret (e : E)
  | retF (e : E)
  | retO (i : Nat)
  | retN
  | raise (x : Xc) (es : List E)
  | try_ (cs : List Str) (body : List S) (hs : List Hnd)
  | frz (i : Nat)
  | callO (t : Option Nat) (f : Fn) (args : List (Nat ⊕ E))
  | methO (t : Option Nat) (f : Fn) (o : E) (args : List (Nat ⊕ E))
  | never
inductive Out where
  | nx (env : Env) (S : Store)
  | ret (w : W) (env : Env) (S : Store)
  | brk (env : Env) (S : Store)
  | ct (env : Env) (S : Store)
  | exn (c : Str) (fs : List (Str × W)) (env : Env) (S : Store)
  | bad
def Out.then (o : Out) (f : Env → Store → Out) : Out := match o with
  | .nx env S => f env S
  | o => o
def R.out {α : Type} (r : R α) (env : Env) (f : α → Store → Out) : Out := match r with
  | .ok a S => f a S
  | .exn c fs S => .exn c fs env S
  | .bad => .bad
@[simp] theorem Out.then_nx (env : Env) (S : Store) (f : Env → Store → Out) : (Out.nx env S).then f = f env S := id rfl
@[simp] theorem Out.then_ret (w : W) (env : Env) (S : Store) (f : Env → Store → Out) : (Out.ret w env S).then f = .ret w env S := id rfl
@[simp] theorem Out.then_brk (env : Env) (S : Store) (f : Env → Store → Out) : (Out.brk env S).then f = .brk env S := id rfl
@[simp] theorem Out.then_ct (env : Env) (S : Store) (f : Env → Store → Out) : (Out.ct env S).then f = .ct env S := id rfl
@[simp] theorem Out.then_exn (c : Str) (fs : List (Str × W)) (env : Env) (S : Store) (f : Env → Store → Out) : (Out.exn c fs env S).then f = .exn c fs env S := id rfl
@[simp] theorem Out.then_bad (f : Env → Store → Out) : Out.bad.then f = .bad := id rfl
@[simp] theorem R.out_ok {α : Type} (a : α) (S : Store) (env : Env) (f : α → Store → Out) : (R.ok a S).out env f = f a S := id rfl
@[simp] theorem R.out_exn {α : Type} (c : Str) (fs : List (Str × W)) (S : Store) (env : Env) (f : α → Store → Out) : (R.exn c fs S : R α).out env f = .exn c fs env S := id rfl
@[simp] theorem R.out_bad {α : Type} (env : Env) (f : α → Store → Out) : (R.bad : R α).out env f = .bad := id rfl
def plc : Pl → Env → Store → R PR
  | .slot i, _, S => .ok (.slot i) S
  | .fld o f, env, S => (ev .V o env S).bind fun x S => match x with
    | .ref n => .ok (.fld n f) S
    | _ => .bad
/-- x[k] = v, in the container itself -/
def setItW (w k v : W) : Option W := match w with
  | .lst ws => match k with
    | .int i => (L2.ixN ws.length i).map fun j => .lst (ws.set j v)
    | _ => none
  | .dct kvs => match keyW k with
    | some k => if kvs.length < sizeL then some (.dct (putW kvs k v)) else none
    | none => none
  | _ => none
def appW (w v : W) : Option W := match w with
  | .lst ws => if ws.length < sizeL then some (.lst (ws ++ [v])) else none
  | _ => none
def extW (w v : W) : Option W := match w, v with
  | .lst ws, .lst vs => if ws.length + vs.length ≤ sizeL then some (.lst (ws ++ vs)) else none
  | _, _ => none
def remW (w v : W) : Option W := match w, v with
  | .lst ws, .str x => match strsW ws with
    | some ss => (remS x ss).map fun r => .lst (r.map .str)
    | none => none
  | _, _ => none
/-- a own container at a place is changed -/
def chg (p : PR) (g : W → Option W) (env : Env) (S : Store) : Out := match p.get env S with
  | some (.o, w) => match g w with
    | some w' => .nx (p.setE (.o, w') env) (p.setS (.o, w') S)
    | none => .bad
  | _ => .bad
def ownL (p : PR) (env : Env) (S : Store) : Bool := match p.get env S with
  | some (.o, .lst _) => true
  | _ => false
def ownA (p : PR) (env : Env) (S : Store) : Bool := match p.get env S with
  | some (.o, _) => true
  | _ => false
def forGo (tg : Tg) (body : Env → Store → Out) : List W → Env → Store → Out
  | [], env, S => .nx env S
  | x :: xs, env, S => match bindTg tg x env with
    | none => .bad
    | some env' => match body env' S with
      | .nx env S => forGo tg body xs env S
      | .ct env S => forGo tg body xs env S
      | .brk env S => .nx env S
      | o => o
/-- while a dict is walked nothing is raised -/
def keepX : Src → Out → Out
  | .keys, .exn _ _ _ _ => .bad
  | _, o => o
def whlGo (c : Env → Store → R Bool) (body : Env → Store → Out) : Nat → Env → Store → Out
  | 0, _, _ => .bad
  | n + 1, env, S => (c env S).out env fun b S => if b then match body env S with
      | .nx env S => whlGo c body n env S
      | .ct env S => whlGo c body n env S
      | .brk env S => .nx env S
      | o => o
    else .nx env S
def fuel : Nat := 1000000000000
def evt (e : E) (env : Env) (S : Store) : R Bool := (ev .B e env S).bind tstR
/-- the arguments of a call that takes own containers -/
def ioArgs : List (Nat ⊕ E) → List Bool → Env → Store → R (List W)
  | [], [], _, S => .ok [] S
  | .inl i :: as, true :: bs, env, S => match env.at i with
    | some (.o, w) => (ioArgs as bs env S).bind fun ws S => .ok (w :: ws) S
    | _ => .bad
  | .inr e :: as, false :: bs, env, S => (ev .V e env S).bind fun w S => (ioArgs as bs env S).bind fun ws S => .ok (w :: ws) S
  | _, _, _, _ => .bad
def ioBack : List (Nat ⊕ E) → List W → Env → Env
  | .inl i :: as, w :: ws, env => ioBack as ws (env.put i (.o, w))
  | .inr _ :: as, ws, env => ioBack as ws env
  | _, _, env => env
def ioGone : List (Nat ⊕ E) → Env → Env
  | .inl i :: as, env => ioGone as (env.set i none)
  | .inr _ :: as, env => ioGone as env
  | [], env => env
def distinct : List (Nat ⊕ E) → Bool
  | .inl i :: as => (as.all fun a => match a with | .inl j => i != j | _ => true) && distinct as
  | _ :: as => distinct as
  | [] => true
/-- behind a call that was lent own containers -/
def ioEnd (t : Option Nat) (args : List (Nat ⊕ E)) (r : R (W × List W)) (env : Env) : Out := match r with
  | .ok r S => match t with
    | none => .nx (ioBack args r.2 env) S
    | some i => .nx ((ioBack args r.2 env).put i (.v, r.1)) S
  | .exn c fs S => .exn c fs (ioGone args env) S
  | .bad => .bad
/-- may the field f be stored in the n-th cell, of the class cl? -/
def cellB (S : Store) (n : Nat) (cl f : Str) : Bool := match S[n]? with
  | some c => decide (c.cls = cl) && (decide (f ∈ c.fs.map (·.1)) || decide (c.fs.length < 64))
  | none => false
def runX (c : Str) (fs : List (Str × W)) : XS → Env → Store → Out
  | .pass, env, S => .nx env S
  | .brk, env, S => .brk env S
  | .cont, env, S => .ct env S
  | .retN, env, S => .ret .non env S
  | .ret v, env, S => match v.val fs env with
    | some w => .ret w env S
    | none => .bad
  | .asg i v, env, S => match v.val fs env with
    | some w => .nx (env.put i (.v, w)) S
    | none => .bad
  | .ifx cs s, env, S => if cs.any (fun p => isSub c p.2 == p.1) then runX c fs s env S else .nx env S
def runXs (c : Str) (fs : List (Str × W)) : List XS → Env → Store → Out
  | [], env, S => .nx env S
  | s :: r, env, S => (runX c fs s env S).then fun env S => runXs c fs r env S
def wipeO : Option Nat → Env → Env
  | none, env => env
  | some i, env => env.set i none
def Out.wipe (o : Option Nat) : Out → Out
  | .nx env S => .nx (wipeO o env) S
  | .brk env S => .brk (wipeO o env) S
  | .ct env S => .ct (wipeO o env) S
  | .ret w env S => .ret w (wipeO o env) S
  | _ => .bad
/-- the clauses, one after the other -/
def hGo (c : Str) (fs : List (Str × W)) : List Hnd → Env → Store → Out
  | [], env, S => .exn c fs env S
  | h :: r, env, S => if isSub c h.cls then (runXs c fs h.suite (wipeO h.as env) S).wipe h.as else hGo c fs r env S
mutual
def exec : S → Env → Store → Out
  | .pass, env, S => .nx env S
  | .brk, env, S => .brk env S
  | .cont, env, S => .ct env S
  | .expr e, env, S => (ev .B e env S).out env fun _ S => .nx env S
  | .asg i e, env, S => (ev .V e env S).out env fun w S => .nx (env.put i (.v, w)) S
  | .asgO i e, env, S => (ev .F e env S).out env fun w S => .nx (env.put i (.o, w)) S
  | .asgT is e, env, S => (ev .V e env S).out env fun w S => match bindTg (.many is) w env with
    | some env' => .nx env' S
    | none => .bad
  | .aug i o e, env, S => match env.at i with
    | some (.v, x) => (ev .B e env S).out env fun y S => match binW o x y with
      | some (false, z) => .nx (env.put i (.v, z)) S
      | _ => .bad
    | _ => .bad
  | .seta cl o f e, env, S => (ev .V e env S).out env fun w S => (ev .V o env S).out env fun x S => match x with
    | .ref n => if cellB S n cl f then .nx env (S.setF n f (.v, w)) else .bad
    | _ => .bad
  | .setaO cl o f e, env, S => (ev .F e env S).out env fun w S => if quiet o then (ev .V o env S).out env fun x S => match x with
    | .ref n => if cellB S n cl f then .nx env (S.setF n f (.o, w)) else .bad
    | _ => .bad else .bad
  | .self cl i f e, env, S => (ev .V e env S).out env fun w S => match env.at i with
    | some (.o, .ins c fs) => if c = cl ∧ f ∉ fs.map (·.1) ∧ fs.length < 64 then .nx (env.put i (.o, .ins c (fs ++ [(f, w)]))) S else .bad
    | _ => .bad
  | .augA cl o f op e, env, S => (ev .V o env S).out env fun x S => match x with
    | .ref n => match S.getF n f with
      | some (.v, a) => if cellB S n cl f then (ev .B e env S).out env fun y S => match binW op a y with
        | some (false, z) => if cellB S n cl f then .nx env (S.setF n f (.v, z)) else .bad
        | _ => .bad else .bad
      | _ => .bad
    | _ => .bad
  | .seti p k e, env, S => (ev .V e env S).out env fun v S => (plc p env S).out env fun q S => if ownA q env S then (ev .V k env S).out env fun kw S => chg q (fun w => setItW w kw v) env S else .bad
  | .augi p k op e, env, S => (plc p env S).out env fun q S => if ownA q env S then (ev .V k env S).out env fun kw S => match q.get env S with
    | some (.o, w) => match subW w kw with
      | some a => (ev .B e env S).out env fun y S => match binW op a y with
        | some (false, z) => chg q (fun w => setItW w kw z) env S
        | _ => .bad
      | none => .bad
    | _ => .bad else .bad
  | .app p e, env, S => (plc p env S).out env fun q S => if ownL q env S then (ev .V e env S).out env fun v S => chg q (fun w => appW w v) env S else .bad
  | .ext p e, env, S => (plc p env S).out env fun q S => if ownL q env S then (ev .V e env S).out env fun v S => chg q (fun w => extW w v) env S else .bad
  | .rem p e, env, S => (plc p env S).out env fun q S => if ownL q env S then (ev .V e env S).out env fun v S => chg q (fun w => remW w v) env S else .bad
  | .ife c a b, env, S => (evt c env S).out env fun t S => if t then execs a env S else execs b env S
  | .for_ tg k srcs body, env, S => ((evs (srcC k) srcs env S).bind (itemsR k)).out env fun items S => keepX k (forGo tg (fun env S => execs body env S) items env S)
  | .whl c body, env, S => whlGo (fun env S => evt c env S) (fun env S => execs body env S) fuel env S
  | .ret e, env, S => (ev .V e env S).out env fun w S => .ret w env S
  | .retF e, env, S => (ev .F e env S).out env fun w S => .ret w env S
  | .retO i, env, S => match env.at i with
    | some (.o, w) => .ret w env S
    | _ => .bad
  | .retN, env, S => .ret .non env S
  | .raise x es, env, S => (evs .V es env S).out env fun ws S => if ws.length = x.n then .exn x.nm (x.vals ws) env S else .bad
  | .try_ cs body hs, env, S => match execs body env S with
    | .exn c fs env S => if c ∈ cs then hGo c fs hs env S else .bad
    | o => o
  | .frz i, env, S => match env.at i with
    | some (.o, w) => .nx (env.put i (.v, w)) S
    | _ => .bad
  | .callO t f args, env, S => if distinct args = true ∧ f.fresh = false then (ioArgs args f.own env S).out env fun ws S => ioEnd t args (f.sem S ws) env
    else .bad
  | .methO t f o args, env, S => if distinct args = true ∧ f.fresh = false then (ev .V o env S).out env fun x S => if clsOf x S = f.cls ∧ f.cls ≠ none ∧ f.own.headD true = false then (ioArgs args f.own.tail env S).out env fun ws S => ioEnd t args (f.sem S (x :: ws)) env else .bad
    else .bad
  | .never, env, S => .bad
def execs : List S → Env → Store → Out
  | [], env, S => .nx env S
  | s :: r, env, S => (exec s env S).then fun env S => execs r env S
end
def finW : List Bool → Nat → Env → Option (List W)
  | [], _, _ => some []
  | true :: r, i, env => match env.at i with
    | some (.o, w) => (finW r (i + 1) env).map (w :: ·)
    | _ => none
  | false :: r, i, env => finW r (i + 1) env
def env0 (n : Nat) (own : List Bool) (ws : List W) : Env := ((own.zip ws).map fun p => some ((if p.1 then Flag.o else Flag.v), p.2)) ++ List.replicate (n - ws.length) none
def runDef (n : Nat) (own : List Bool) (fresh : Bool) (body : List S) (St : Store) (ws : List W) : R (W × List W) :=
  if own.length = ws.length then
    match execs body (env0 n own ws) St with
    | .nx env S => if fresh then .bad else match finW own 0 env with
      | some fs => .ok (.non, fs) S
      | none => .bad
    | .ret w env S => match finW own 0 env with
      | some fs => .ok (w, fs) S
      | none => .bad
    | .exn c fs _ S => .exn c fs S
    | _ => .bad
  else .bad
end Wb

set_option maxHeartbeats 4000000
namespace Wb
open PySem PySem.Spec PyProof.Rows
open L2 (V Hp HO Rd upd SqL SqT VK Cx Inv RelV Vals CallR MtR)
def rSortedPT (K : PySem.W.Frag) : List V → Hp → VK → Prop := fun vs H Q => ∃ (a : Addr) (xs : List V), vs = [V.ref a] ∧ SqL K H a xs ∧ (∀ x ∈ xs, ∃ t i j, x = V.ref t ∧ SqT K H t [.int i, .int j]) ∧
  ∀ (ys : List V) (p : Addr) (k : V → Int × Int), (∀ t i j, SqT K H t [.int i, .int j] → k (.ref t) = (i, j)) → ys.Perm xs → SrtO.Srtd SrtO.lexB (ys.map k) → H p = none → Q (.ref p) (upd H p (.lst ys))
theorem cr_sortedPT {X : Cx} : CallR X (.builtin "sorted") (rSortedPT X.K) := by
  classical
  intro pins s σ H vs us Q I r h
  obtain ⟨a, xs, rfl, hs, hx, q⟩ := h
  obtain ⟨its, rv, hl, hz⟩ := I.list hs
  obtain ⟨u, rfl, ru⟩ := L2.vals1 r
  obtain rfl : u = Value.ref a := ru
  let k : V → Int × Int := fun v => if h : ∃ t i j, v = V.ref t ∧ SqT X.K H t [.int i, .int j] then (h.choose_spec.choose, h.choose_spec.choose_spec.choose) else (0, 0)
  have hk : ∀ t i j, SqT X.K H t [.int i, .int j] → k (.ref t) = (i, j) := by
    intro t i j ht
    have h : ∃ t' i j, V.ref t = V.ref t' ∧ SqT X.K H t' [.int i, .int j] := ⟨t, i, j, rfl, ht⟩
    have e : k (.ref t) = (h.choose_spec.choose, h.choose_spec.choose_spec.choose) := dif_pos h
    have key : ∀ t' i' j', V.ref t = V.ref t' ∧ SqT X.K H t' [.int i', .int j'] → ((i', j') : Int × Int) = (i, j) := by
      rintro t' i' j' ⟨e1, e2⟩
      cases e1
      have z := I.tuple_inj e2 ht
      injection z with z1 z2
      injection z2 with z2 _
      injection z1 with z1
      injection z2 with z2
      rw [z1, z2]
    rw [e]
    exact key _ _ _ h.choose_spec.choose_spec.choose_spec
  obtain ⟨e1, e2⟩ := L2.refs_back rv fun x m => by
    obtain ⟨t, _, _, e, _⟩ := hx x m
    exact ⟨t, e⟩
  refine SrtO.sorted_pairsO (k := fun u => k (L2.backV u)) hl.isList (by rw [← rv.length]; exact hz) (fun v hv => ?_) fun h' d out h1 h2 kp hd hn => ?_
  · obtain ⟨t, rfl⟩ := e2 v hv
    have hm : V.ref t ∈ xs := by rw [e1]; exact List.mem_map.mpr ⟨_, hv, rfl⟩
    obtain ⟨t', i, j, e, ht⟩ := hx _ hm
    cases e
    have hk' : k (L2.backV (.ref t)) = (i, j) := hk t i j ht
    rw [hk']
    obtain ⟨its2, r2, ⟨o, ho, hc, n, hd⟩, _⟩ := I.tuple ht
    obtain ⟨u1, u2, rfl, ri, rj⟩ := L2.vals2 r2
    obtain ⟨t1, rfl⟩ := ri
    obtain ⟨t2, rfl⟩ := rj
    exact ⟨t, o, t1, t2, n, rfl, ho, hc, hd⟩
  · have h3 : ∀ u ∈ out, ∃ a, u = Value.ref a := fun u hu => e2 u (h2.perm.mem_iff.mp hu)
    obtain ⟨n, hn⟩ := hn
    have hp : (out.map L2.backV).Perm xs := by
      rw [e1]
      exact h2.perm.map L2.backV
    refine ⟨.ref d, upd H d (.lst (out.map L2.backV)), I.laid (t' := s.toks) kp hd ⟨?_, out, n, L2.vals_back h3, hn⟩, rfl, q _ d k hk hp ?_ (I.hok.fresh hd)⟩
    · rw [hp.length_eq]
      exact hz
    · rw [List.map_map]
      exact List.pairwise_map.mpr h1
def eqkS (z : Str) (v : Value) : Bool := match v with
  | .str y _ => y.cps.toList == z.cps.toList
  | _ => false
theorem eqkS_gives {z : Str} {t : Tok} : ∀ {us : List Value} {ns : List Str}, Vals (ns.map V.str) us → ∀ y ∈ us, MeetsSeq.EqGives y (.str z t) (eqkS z y)
  | [], _, _, y, hy => by cases hy
  | u :: us, [], r, y, hy => by cases r
  | u :: us, n :: ns, r, y, hy => by
    cases r with
    | cons r1 r2 =>
      obtain ⟨t', rfl⟩ := r1
      rcases List.mem_cons.mp hy with e | e
      · rw [e]
        exact PySem.SeqRoads2.EqGives.str n z t' t
      · exact eqkS_gives r2 y e
theorem str_cps {a b : Str} (h : a.cps.toList = b.cps.toList) : a = b := by
  cases a; cases b
  simp only [Str.mk.injEq]
  exact Array.ext' h
def rRemS : V → List V → Hp → VK → Prop := fun x xs H Q => ∃ (l : Addr) (ns : List Str) (k : Str) (j : Nat), x = .ref l ∧ xs = [.str k] ∧ H l = some (.lst (ns.map V.str)) ∧ ns[j]? = some k ∧ (∀ m : Nat, m < j → ns[m]? ≠ some k) ∧ Q .non (upd H l (.lst ((ns.map V.str).eraseIdx j)))
theorem mt_removeS {X : Cx} : L2.MtM X "list.remove" rRemS := by
  intro pins s σ H x xs v us Q I rx rxs h
  obtain ⟨l, ns, k, j, rfl, rfl, hH, hj, hno, q⟩ := h
  cases rx
  obtain ⟨u, rfl, ru⟩ := rxs.one
  obtain ⟨t, rfl⟩ := ru
  obtain ⟨z, its, n, r, hl, e⟩ := I.lstM hH
  have at' : ∀ (m : Nat) (hm : m < its.toArray.size), ∃ y t', ns[m]? = some y ∧ its.toArray[m] = Value.str y t' := fun m hm => by
    have hm' : m < ns.length := by
      have := r.length
      rw [List.length_map] at this
      rw [List.size_toArray] at hm
      omega
    obtain ⟨w, hw, t', hw'⟩ := r.get (i := m) (x := .str ns[m]) (by simp [hm'])
    refine ⟨ns[m], t', List.getElem?_eq_getElem hm', ?_⟩
    have e := (List.getElem?_eq_some_iff.mp hw).2
    rw [← hw', ← e]
    simp
  rw [List.length_map] at hl z
  have hjn : j < ns.length := (List.getElem?_eq_some_iff.mp hj).1
  have hjl : j < its.toArray.size := by rw [List.size_toArray]; omega
  refine call_meets PySem.F.slot_list_remove ⟨_, e, rfl⟩ PySem.F.entry_list_remove (PySem.F.args_list_remove_2 _ _)
    (MeetsSeq.list_remove l its.toArray n (.str k t) (eqkS k) (fun y hy => eqkS_gives r y (by simpa using hy)) j hjl ?_ ?_ (by rw [List.size_toArray]; omega)) ⟨e, ?_⟩
  · obtain ⟨y, t', h1, h2⟩ := at' j hjl
    rw [hj] at h1
    cases h1
    rw [h2]
    exact beq_self_eq_true k.cps.toList
  · intro m hm hmj
    obtain ⟨y, t', h1, h2⟩ := at' m hm
    rw [h2]
    refine beq_eq_false_iff_ne.mpr fun e2 => hno m hmj ?_
    rw [h1, str_cps e2]
  · have rr := r.eraseIdx j
    refine ⟨.non, _, I.lset (its' := its.eraseIdx j) (t' := s.toks) hH e ?_ rr ?_, rfl, q⟩
    · show its.toArray.eraseIdxIfInBounds j = (its.eraseIdx j).toArray
      rw [List.eraseIdxIfInBounds_toArray]
    · have z2 := List.length_eraseIdx_le (ns.map V.str) j
      rw [List.length_map] at z2
      omega
end Wb

namespace Wb
open PySem PySem.Spec PyProof.Rows
open L2 (V Hp HO Rd upd upd_same upd_ne SqL SqT VK TE TT TA TS TG TI TO Ends WX XK R2 Cx Inv RelV Vals ne_of_none)

inductive Lab where
  | out | frz | slot (i : Nat) | cell (n : Nat) | fld (n : Nat) (f : Str)
  deriving DecidableEq
structure Gh where
  L : Addr → Lab
  ι : Nat → Addr
/-- of the written part -/
def KT (K : PySem.W.Frag) (a : Addr) (xs : List V) : Prop :=
  ∃ (o : Obj) (its : Array Value) (n : Nat), K.lookup a = some o ∧ o.cls = .type "tuple" ∧ o.data = .seq its n ∧ its.size ≤ sizeLine ∧ Vals xs its.toList
def KL (K : PySem.W.Frag) (a : Addr) (xs : List V) : Prop :=
  ∃ (o : Obj) (its : Array Value) (n : Nat), K.lookup a = some o ∧ o.cls = .type "list" ∧ o.dict = none ∧ o.data = .seq its n ∧ its.size ≤ sizeLine ∧ Vals xs its.toList
/-- what is fixed: the written part, the classes' places -/
structure Tx where
  K : PySem.W.Frag
  ca : Str → Addr
  prog : Program
  w : World
  base : Heap
  mg : Str → Option Value

/-- what the class of an instance must have -/
structure InsK (T : Tx) (c : Str) (names : List Str) : Prop where
  cls : L2.Cls T.K (T.ca c)
  na : ∀ f ∈ names, L2.NoAttr T.K (T.ca c) f
  len : names.length ≤ 64
  nd : names.Nodup
section
variable (T : Tx) (g : Gh) (H : Hp)
def Rep : Nat → V → W → Prop
  | 0, _, _ => False
  | n + 1, x, w => match w with
    | .non => x = .non
    | .bl b => x = .bl b
    | .int i => x = .int i
    | .str s => x = .str s
    | .tup ws => ∃ a xs, x = .ref a ∧ ((g.L a = .frz ∧ Rd H a (.tup xs)) ∨ KT T.K a xs) ∧ Paired (Rep n) xs ws
    | .lst ws => ∃ a xs, x = .ref a ∧ (g.L a = .frz ∧ Rd H a (.lst xs)) ∧ Paired (Rep n) xs ws
    | .ro ws => ∃ a xs, x = .ref a ∧ ((g.L a = .frz ∧ Rd H a (.lst xs)) ∨ KL T.K a xs) ∧ Paired (Rep n) xs ws
    | .dct kvs => ∃ a ks, x = .ref a ∧ g.L a = .frz ∧ Rd H a (.dK ks) ∧ Paired (fun (p : Key × V) (q : Key × W) => p.1 = q.1 ∧ Rep n p.2 q.2) ks kvs
    | .ins c fs => ∃ a dx gs, x = .ref a ∧ g.L a = .frz ∧ (H a = some (.ins (T.ca c) dx gs) ∧ InsK T c (fs.map (·.1))) ∧ Paired (fun (p : Str × V) (q : Str × W) => p.1 = q.1 ∧ Rep n p.2 q.2) gs fs
    | .ref m => x = .ref (g.ι m) ∧ g.L (g.ι m) = .cell m
def RepX (x : V) (w : W) : Prop := ∃ n, Rep T g H n x w
/-- a container (of values) at a -/
def Own (fl : Flag) (a : Addr) : W → Prop
  | .lst ws => ∃ xs, H a = some (.lst xs) ∧ Paired (RepX T g H) xs ws
  | .dct kvs => ∃ ks, (if fl = .k then ∃ od, H a = some (.frz od (.dK ks)) else H a = some (.dK ks)) ∧ Paired (fun (p : Key × V) (q : Key × W) => p.1 = q.1 ∧ RepX T g H p.2 q.2) ks kvs
  | .ins c fs => ∃ dx gs, (H a = some (.ins (T.ca c) dx gs) ∧ InsK T c (fs.map (·.1))) ∧ Paired (fun (p : Str × V) (q : Str × W) => p.1 = q.1 ∧ RepX T g H p.2 q.2) gs fs
  | _ => False
def RdS (x : V) (w : W) : Prop := RepX T g H x w ∨ ∃ a fl, x = .ref a ∧ Own T g H fl a w ∧ (g.L a = .out ∨ ∃ i, g.L a = .slot i) ∧ H a ≠ none
def RdX (x : V) (w : W) : Prop := RepX T g H x w ∨ ∃ a fl, x = .ref a ∧ Own T g H fl a w
def SlotOk (σ : L2.St) (i : Nat) : Flag → W → Prop
  | .v, w => ∃ x, σ[i]? = some (some x) ∧ RepX T g H x w
  | fl, w => ∃ a, σ[i]? = some (some (.ref a)) ∧ g.L a = .slot i ∧ Own T g H fl a w
def FldOk (n : Nat) (f : Str) (x : V) : Flag → W → Prop
  | .v, w => RepX T g H x w
  | fl, w => ∃ a, x = .ref a ∧ g.L a = .fld n f ∧ Own T g H fl a w
def CellOk (n : Nat) (c : Cell) : Prop :=
  g.L (g.ι n) = .cell n ∧ ∃ dx gs, (H (g.ι n) = some (.ins (T.ca c.cls) dx gs) ∧ InsK T c.cls (c.fs.map (·.1))) ∧ Paired (fun (p : Str × V) (q : Str × (Flag × W)) => p.1 = q.1 ∧ FldOk T g H n p.1 p.2 q.2.1 q.2.2) gs c.fs
structure Sim (env : Env) (S : Store) (σ : L2.St) : Prop where
  wf : ∀ a, H a = none → g.L a = .out
  len : env.length = σ.length
  slots : ∀ i fl w, env.at i = some (fl, w) → SlotOk T g H σ i fl w
  cells : ∀ n c, S[n]? = some c → CellOk T g H n c
  fin : ∀ a n, g.L a = .cell n → n < S.length
end

/-- kept: the labels P, objects and labels -/
structure Ext (q : Bool) (g : Gh) (H : Hp) (g' : Gh) (H' : Hp) : Prop where
  keep : ∀ a, H a ≠ none → (q = true ∨ g.L a = .out ∨ g.L a = .frz ∨ ∃ i, g.L a = .slot i) → g'.L a = g.L a ∧ H' a = H a
  cel : ∀ m, g.L (g.ι m) = .cell m → g'.ι m = g.ι m ∧ g'.L (g.ι m) = .cell m
  some : ∀ a, H a ≠ none → H' a ≠ none
  slot : ∀ a i, H a ≠ none → g'.L a = .slot i → ∃ j, g.L a = .slot j
/-- of a statement: the frame's own containers may change -/
structure ExtS (g : Gh) (H : Hp) (g' : Gh) (H' : Hp) : Prop where
  keep : ∀ a, H a ≠ none → (g.L a = .out ∨ g.L a = .frz) → g'.L a = g.L a ∧ H' a = H a
  cel : ∀ m, g.L (g.ι m) = .cell m → g'.ι m = g.ι m ∧ g'.L (g.ι m) = .cell m
  some : ∀ a, H a ≠ none → H' a ≠ none
  slot : ∀ a i, H a ≠ none → g'.L a = .slot i → ∃ j, g.L a = .slot j
theorem Ext.refl {q : Bool} {g : Gh} {H : Hp} : Ext q g H g H := ⟨fun _ _ _ => ⟨rfl, rfl⟩, fun _ h => ⟨rfl, h⟩, fun _ h => h, fun _ i _ h => ⟨i, h⟩⟩
theorem Ext.weak {q q' : Bool} {g g' : Gh} {H H' : Hp} (e : Ext q g H g' H') (h : q' = true → q = true) : Ext q' g H g' H' :=
  ⟨fun a n p => e.keep a n (p.imp_left h), e.cel, e.some, e.slot⟩
theorem Ext.trans {q : Bool} {g g1 g2 : Gh} {H H1 H2 : Hp} (a : Ext q g H g1 H1) (b : Ext q g1 H1 g2 H2) : Ext q g H g2 H2 := by
  refine ⟨fun x n p => ?_, fun m h => ?_, fun x n => b.some x (a.some x n), fun x i n h => ?_⟩
  · obtain ⟨l1, h1⟩ := a.keep x n p
    obtain ⟨l2, h2⟩ := b.keep x (by rw [h1]; exact n) (by rw [l1]; exact p)
    exact ⟨l2.trans l1, h2.trans h1⟩
  · obtain ⟨i1, l1⟩ := a.cel m h
    obtain ⟨i2, l2⟩ := b.cel m (by rw [i1]; exact l1)
    rw [i1] at i2 l2
    exact ⟨i2, l2⟩
  · obtain ⟨j, h2⟩ := b.slot x i (a.some x n) h
    exact a.slot x j n h2
theorem Ext.trans' {q1 q2 : Bool} {g g1 g2 : Gh} {H H1 H2 : Hp} (a : Ext q1 g H g1 H1) (b : Ext q2 g1 H1 g2 H2) : Ext (q1 && q2) g H g2 H2 :=
  (a.weak (by simp; intro h _; exact h)).trans (b.weak (by simp))
theorem ExtS.refl {g : Gh} {H : Hp} : ExtS g H g H := ⟨fun _ _ _ => ⟨rfl, rfl⟩, fun _ h => ⟨rfl, h⟩, fun _ h => h, fun _ i _ h => ⟨i, h⟩⟩
theorem ExtS.trans {g g1 g2 : Gh} {H H1 H2 : Hp} (a : ExtS g H g1 H1) (b : ExtS g1 H1 g2 H2) : ExtS g H g2 H2 := by
  refine ⟨fun x n p => ?_, fun m h => ?_, fun x n => b.some x (a.some x n), fun x i n h => ?_⟩
  · obtain ⟨l1, h1⟩ := a.keep x n p
    obtain ⟨l2, h2⟩ := b.keep x (by rw [h1]; exact n) (by rw [l1]; exact p)
    exact ⟨l2.trans l1, h2.trans h1⟩
  · obtain ⟨i1, l1⟩ := a.cel m h
    obtain ⟨i2, l2⟩ := b.cel m (by rw [i1]; exact l1)
    rw [i1] at i2 l2
    exact ⟨i2, l2⟩
  · obtain ⟨j, h2⟩ := b.slot x i (a.some x n) h
    exact a.slot x j n h2
theorem Ext.toS {q : Bool} {g g' : Gh} {H H' : Hp} (e : Ext q g H g' H') : ExtS g H g' H' :=
  ⟨fun a n p => e.keep a n (by rcases p with p | p <;> simp [p]), e.cel, e.some, e.slot⟩

section
variable {T : Tx} {g g' : Gh} {H H' : Hp} {q : Bool}
theorem rd_some {a : Addr} {u : HO} (h : Rd H a u) : H a ≠ none := by
  rcases h with h | ⟨o, h⟩ <;> rw [h] <;> simp
theorem paired_imp {α β : Type} {F G : α → β → Prop} {l₁ : List α} {l₂ : List β} (h : Paired F l₁ l₂) (f : ∀ a b, F a b → G a b) : Paired G l₁ l₂ := L2.Paired.mapP h f
theorem Rep.up : ∀ {n : Nat} {x : V} {w : W}, Rep T g H n x w → Rep T g H (n + 1) x w
  | 0, _, _, h => h.elim
  | n + 1, x, .non, h => h
  | n + 1, x, .bl _, h => h
  | n + 1, x, .int _, h => h
  | n + 1, x, .str _, h => h
  | n + 1, x, .ref _, h => h
  | n + 1, x, .tup ws, ⟨a, xs, e, l, r⟩ => ⟨a, xs, e, l, paired_imp r fun _ _ => Rep.up⟩
  | n + 1, x, .lst ws, ⟨a, xs, e, l, r⟩ => ⟨a, xs, e, l, paired_imp r fun _ _ => Rep.up⟩
  | n + 1, x, .ro ws, ⟨a, xs, e, l, r⟩ => ⟨a, xs, e, l, paired_imp r fun _ _ => Rep.up⟩
  | n + 1, x, .dct ws, ⟨a, xs, e, l, h, r⟩ => ⟨a, xs, e, l, h, paired_imp r fun _ _ z => ⟨z.1, Rep.up z.2⟩⟩
  | n + 1, x, .ins c ws, ⟨a, dx, xs, e, l, h, r⟩ => ⟨a, dx, xs, e, l, h, paired_imp r fun _ _ z => ⟨z.1, Rep.up z.2⟩⟩
theorem Rep.le {n m : Nat} {x : V} {w : W} (h : Rep T g H n x w) (l : n ≤ m) : Rep T g H m x w := by
  induction l with
  | refl => exact h
  | step _ ih => exact ih.up
/-- a common depth -/
theorem paired_depth {xs : List V} {ws : List W} (h : Paired (RepX T g H) xs ws) : ∃ n, Paired (Rep T g H n) xs ws := by
  induction h with
  | nil => exact ⟨0, .nil⟩
  | cons r _ ih =>
    obtain ⟨n, hn⟩ := r
    obtain ⟨m, hm⟩ := ih
    exact ⟨n + m, .cons (hn.le (Nat.le_add_right _ _)) (paired_imp hm fun _ _ z => z.le (Nat.le_add_left _ _))⟩
theorem paired_depth2 {α : Type} {xs : List (α × V)} {ws : List (α × W)} (h : Paired (fun (p : α × V) (q : α × W) => p.1 = q.1 ∧ RepX T g H p.2 q.2) xs ws) : ∃ n, Paired (fun (p : α × V) (q : α × W) => p.1 = q.1 ∧ Rep T g H n p.2 q.2) xs ws := by
  induction h with
  | nil => exact ⟨0, .nil⟩
  | cons r _ ih =>
    obtain ⟨e, n, hn⟩ := r
    obtain ⟨m, hm⟩ := ih
    exact ⟨n + m, .cons ⟨e, hn.le (Nat.le_add_right _ _)⟩ (paired_imp hm fun _ _ z => ⟨z.1, z.2.le (Nat.le_add_left _ _)⟩)⟩
theorem repX_lst {a : Addr} {xs : List V} {ws : List W} (h : g.L a = .frz ∧ Rd H a (.lst xs)) (r : Paired (RepX T g H) xs ws) : RepX T g H (.ref a) (.lst ws) := by
  obtain ⟨n, hn⟩ := paired_depth r
  exact ⟨n + 1, a, xs, rfl, h, hn⟩
theorem repX_tup {a : Addr} {xs : List V} {ws : List W} (h : (g.L a = .frz ∧ Rd H a (.tup xs)) ∨ KT T.K a xs) (r : Paired (RepX T g H) xs ws) : RepX T g H (.ref a) (.tup ws) := by
  obtain ⟨n, hn⟩ := paired_depth r
  exact ⟨n + 1, a, xs, rfl, h, hn⟩
theorem repX_dct {a : Addr} {ks : List (Key × V)} {ws : List (Key × W)} (l : g.L a = .frz) (h : Rd H a (.dK ks)) (r : Paired (fun (p : Key × V) (q : Key × W) => p.1 = q.1 ∧ RepX T g H p.2 q.2) ks ws) : RepX T g H (.ref a) (.dct ws) := by
  obtain ⟨n, hn⟩ := paired_depth2 r
  exact ⟨n + 1, a, ks, rfl, l, h, hn⟩
theorem repX_ins {a dx : Addr} {c : Str} {ks : List (Str × V)} {ws : List (Str × W)} (l : g.L a = .frz) (h : H a = some (.ins (T.ca c) dx ks) ∧ InsK T c (ws.map (·.1))) (r : Paired (fun (p : Str × V) (q : Str × W) => p.1 = q.1 ∧ RepX T g H p.2 q.2) ks ws) : RepX T g H (.ref a) (.ins c ws) := by
  obtain ⟨n, hn⟩ := paired_depth2 r
  exact ⟨n + 1, a, dx, ks, rfl, l, h, hn⟩
theorem lst_inv {x : V} {ws : List W} (h : RepX T g H x (.lst ws)) : ∃ a xs, x = .ref a ∧ (g.L a = .frz ∧ Rd H a (.lst xs)) ∧ Paired (RepX T g H) xs ws := by
  obtain ⟨n, hn⟩ := h
  cases n with
  | zero => exact hn.elim
  | succ n =>
    obtain ⟨a, xs, e, l, r⟩ := hn
    exact ⟨a, xs, e, l, paired_imp r fun _ _ z => ⟨n, z⟩⟩
theorem tup_inv {x : V} {ws : List W} (h : RepX T g H x (.tup ws)) : ∃ a xs, x = .ref a ∧ ((g.L a = .frz ∧ Rd H a (.tup xs)) ∨ KT T.K a xs) ∧ Paired (RepX T g H) xs ws := by
  obtain ⟨n, hn⟩ := h
  cases n with
  | zero => exact hn.elim
  | succ n =>
    obtain ⟨a, xs, e, l, r⟩ := hn
    exact ⟨a, xs, e, l, paired_imp r fun _ _ z => ⟨n, z⟩⟩
theorem ro_inv {x : V} {ws : List W} (h : RepX T g H x (.ro ws)) : ∃ a xs, x = .ref a ∧ ((g.L a = .frz ∧ Rd H a (.lst xs)) ∨ KL T.K a xs) ∧ Paired (RepX T g H) xs ws := by
  obtain ⟨n, hn⟩ := h
  cases n with
  | zero => exact hn.elim
  | succ n =>
    obtain ⟨a, xs, e, l, r⟩ := hn
    exact ⟨a, xs, e, l, paired_imp r fun _ _ z => ⟨n, z⟩⟩
theorem dct_inv {x : V} {ws : List (Key × W)} (h : RepX T g H x (.dct ws)) : ∃ a ks, x = .ref a ∧ g.L a = .frz ∧ Rd H a (.dK ks) ∧ Paired (fun (p : Key × V) (q : Key × W) => p.1 = q.1 ∧ RepX T g H p.2 q.2) ks ws := by
  obtain ⟨n, hn⟩ := h
  cases n with
  | zero => exact hn.elim
  | succ n =>
    obtain ⟨a, xs, e, l, h, r⟩ := hn
    exact ⟨a, xs, e, l, h, paired_imp r fun _ _ z => ⟨z.1, n, z.2⟩⟩
theorem ins_inv {x : V} {c : Str} {ws : List (Str × W)} (h : RepX T g H x (.ins c ws)) : ∃ a dx gs, x = .ref a ∧ g.L a = .frz ∧ (H a = some (.ins (T.ca c) dx gs) ∧ InsK T c (ws.map (·.1))) ∧ Paired (fun (p : Str × V) (q : Str × W) => p.1 = q.1 ∧ RepX T g H p.2 q.2) gs ws := by
  obtain ⟨n, hn⟩ := h
  cases n with
  | zero => exact hn.elim
  | succ n =>
    obtain ⟨a, dx, xs, e, l, h, r⟩ := hn
    exact ⟨a, dx, xs, e, l, h, paired_imp r fun _ _ z => ⟨z.1, n, z.2⟩⟩
theorem ref_inv {x : V} {m : Nat} (h : RepX T g H x (.ref m)) : x = .ref (g.ι m) ∧ g.L (g.ι m) = .cell m := by
  obtain ⟨n, hn⟩ := h
  cases n with
  | zero => exact hn.elim
  | succ n => exact hn
theorem non_inv {x : V} (h : RepX T g H x .non) : x = .non := by
  obtain ⟨n, hn⟩ := h
  cases n with
  | zero => exact hn.elim
  | succ n => exact hn
theorem bl_inv {x : V} {b : Bool} (h : RepX T g H x (.bl b)) : x = .bl b := by
  obtain ⟨n, hn⟩ := h
  cases n with
  | zero => exact hn.elim
  | succ n => exact hn
theorem int_inv {x : V} {b : Int} (h : RepX T g H x (.int b)) : x = .int b := by
  obtain ⟨n, hn⟩ := h
  cases n with
  | zero => exact hn.elim
  | succ n => exact hn
theorem str_inv {x : V} {b : Str} (h : RepX T g H x (.str b)) : x = .str b := by
  obtain ⟨n, hn⟩ := h
  cases n with
  | zero => exact hn.elim
  | succ n => exact hn
theorem repX_non : RepX T g H .non .non := ⟨1, rfl⟩
theorem repX_bl {b : Bool} : RepX T g H (.bl b) (.bl b) := ⟨1, rfl⟩
theorem repX_int {b : Int} : RepX T g H (.int b) (.int b) := ⟨1, rfl⟩
theorem repX_str {b : Str} : RepX T g H (.str b) (.str b) := ⟨1, rfl⟩

/-- the minimal condition under which values stay -/
def NF : HO → Prop
  | .frz _ _ => False
  | _ => True
structure Stay (g : Gh) (H : Hp) (g' : Gh) (H' : Hp) : Prop where
  frz : ∀ a, g.L a = .frz → H a ≠ none → g'.L a = .frz
  rd : ∀ a u, NF u → g.L a = .frz → Rd H a u → Rd H' a u
  ins : ∀ a C dx fs, g.L a = .frz → H a = some (.ins C dx fs) → H' a = some (.ins C dx fs)
  cel : ∀ m, g.L (g.ι m) = .cell m → g'.ι m = g.ι m ∧ g'.L (g.ι m) = .cell m
theorem Stay.rep (s : Stay g H g' H') : ∀ {n : Nat} {x : V} {w : W}, Rep T g H n x w → Rep T g' H' n x w
  | 0, _, _, h => h.elim
  | n + 1, x, .non, h => h
  | n + 1, x, .bl _, h => h
  | n + 1, x, .int _, h => h
  | n + 1, x, .str _, h => h
  | n + 1, x, .ref m, ⟨h1, h2⟩ => by
    obtain ⟨e1, e2⟩ := s.cel m h2
    exact ⟨by rw [e1]; exact h1, by rw [e1]; exact e2⟩
  | n + 1, x, .tup ws, ⟨a, xs, e, l, r⟩ => ⟨a, xs, e, l.imp_left fun z => ⟨s.frz a z.1 (rd_some z.2), s.rd a _ trivial z.1 z.2⟩, paired_imp r fun _ _ => s.rep⟩
  | n + 1, x, .ro ws, ⟨a, xs, e, l, r⟩ => ⟨a, xs, e, l.imp_left fun z => ⟨s.frz a z.1 (rd_some z.2), s.rd a _ trivial z.1 z.2⟩, paired_imp r fun _ _ => s.rep⟩
  | n + 1, x, .lst ws, ⟨a, xs, e, z, r⟩ => ⟨a, xs, e, ⟨s.frz a z.1 (rd_some z.2), s.rd a _ trivial z.1 z.2⟩, paired_imp r fun _ _ => s.rep⟩
  | n + 1, x, .dct ws, ⟨a, xs, e, l, h, r⟩ => ⟨a, xs, e, s.frz a l (rd_some h), s.rd a _ trivial l h, paired_imp r fun _ _ z => ⟨z.1, s.rep z.2⟩⟩
  | n + 1, x, .ins c ws, ⟨a, dx, xs, e, l, h, r⟩ => ⟨a, dx, xs, e, s.frz a l (by rw [h.1]; simp), ⟨s.ins a _ _ _ l h.1, h.2⟩, paired_imp r fun _ _ z => ⟨z.1, s.rep z.2⟩⟩
theorem Stay.repX (s : Stay g H g' H') {x : V} {w : W} (h : RepX T g H x w) : RepX T g' H' x w := let ⟨n, hn⟩ := h; ⟨n, s.rep hn⟩
theorem ExtS.stay (e : ExtS g H g' H') : Stay g H g' H' where
  frz := fun a l n => by rw [(e.keep a n (.inr l)).1]; exact l
  rd := fun a u _ l r => by
    have h := (e.keep a (rd_some r) (.inr l)).2
    unfold Rd
    rw [h]
    exact r
  ins := fun a C dx fs l h => by rw [(e.keep a (by rw [h]; simp) (.inr l)).2]; exact h
  cel := e.cel
theorem Ext.stay (e : Ext q g H g' H') : Stay g H g' H' := e.toS.stay
theorem Own.stay (s : Stay g H g' H') {fl : Flag} {a : Addr} {w : W} (ha : H' a = H a) (h : Own T g H fl a w) : Own T g' H' fl a w := by
  cases w with
  | lst ws =>
    obtain ⟨xs, e, r⟩ := h
    exact ⟨xs, ha.trans e, paired_imp r fun _ _ => s.repX⟩
  | dct kvs =>
    obtain ⟨xs, e, r⟩ := h
    refine ⟨xs, ?_, paired_imp r fun _ _ z => ⟨z.1, s.repX z.2⟩⟩
    rw [ha]
    exact e
  | ins c fs =>
    obtain ⟨dx, xs, e, r⟩ := h
    exact ⟨dx, xs, ⟨ha.trans e.1, e.2⟩, paired_imp r fun _ _ z => ⟨z.1, s.repX z.2⟩⟩
  | _ => exact h.elim
theorem Own.some {fl : Flag} {a : Addr} {w : W} (h : Own T g H fl a w) : H a ≠ none := by
  cases w with
  | lst ws => obtain ⟨xs, e, r⟩ := h; rw [e]; simp
  | dct kvs =>
    obtain ⟨xs, e, r⟩ := h
    split at e
    · obtain ⟨od, e⟩ := e; rw [e]; simp
    · rw [e]; simp
  | ins c fs => obtain ⟨dx, xs, e, r⟩ := h; rw [e.1]; simp
  | _ => exact h.elim
theorem RdS.ext (e : Ext q g H g' H') {x : V} {w : W} (h : RdS T g H x w) : RdS T g' H' x w := by
  rcases h with h | ⟨a, fl, ex, o, l, n⟩
  · exact .inl (e.stay.repX h)
  · obtain ⟨e1, e2⟩ := e.keep a n (by rcases l with l | ⟨i, l⟩ <;> simp [l])
    exact .inr ⟨a, fl, ex, o.stay e.stay e2, by rw [e1]; exact l, by rw [e2]; exact n⟩
theorem RdX.extQ (e : Ext true g H g' H') {x : V} {w : W} (h : RdX T g H x w) : RdX T g' H' x w := by
  rcases h with h | ⟨a, fl, ex, o⟩
  · exact .inl (e.stay.repX h)
  · exact .inr ⟨a, fl, ex, o.stay e.stay (e.keep a o.some (.inl rfl)).2⟩
theorem RdS.rdX {x : V} {w : W} (h : RdS T g H x w) : RdX T g H x w := by
  rcases h with h | ⟨a, fl, ex, o, _⟩
  · exact .inl h
  · exact .inr ⟨a, fl, ex, o⟩
theorem RepX.rdX {x : V} {w : W} (h : RepX T g H x w) : RdX T g H x w := .inl h

theorem rdx_lst {x : V} {ws : List W} (h : RdX T g H x (.lst ws)) : ∃ a xs, x = .ref a ∧ Rd H a (.lst xs) ∧ Paired (RepX T g H) xs ws := by
  rcases h with h | ⟨a, fl, e, xs, ha, r⟩
  · obtain ⟨a, xs, e, l, r⟩ := lst_inv h
    exact ⟨a, xs, e, l.2, r⟩
  · exact ⟨a, xs, e, .inl ha, r⟩
theorem rdx_tup {x : V} {ws : List W} (h : RdX T g H x (.tup ws)) : ∃ a xs, x = .ref a ∧ SqT T.K H a xs ∧ Paired (RepX T g H) xs ws := by
  rcases h with h | ⟨a, fl, e, h⟩
  · obtain ⟨a, xs, e, l, r⟩ := tup_inv h
    refine ⟨a, xs, e, ?_, r⟩
    rcases l with ⟨_, l⟩ | l
    · exact .inl l
    · exact .inr l
  · exact h.elim
theorem rdx_ro {x : V} {ws : List W} (h : RdX T g H x (.ro ws)) : ∃ a xs, x = .ref a ∧ SqL T.K H a xs ∧ Paired (RepX T g H) xs ws := by
  rcases h with h | ⟨a, fl, e, h⟩
  · obtain ⟨a, xs, e, l, r⟩ := ro_inv h
    refine ⟨a, xs, e, ?_, r⟩
    rcases l with ⟨_, l⟩ | l
    · exact .inl l
    · exact .inr l
  · exact h.elim
theorem rdx_dct {x : V} {kvs : List (Key × W)} (h : RdX T g H x (.dct kvs)) : ∃ a ks, x = .ref a ∧ Rd H a (.dK ks) ∧ Paired (fun (p : Key × V) (q : Key × W) => p.1 = q.1 ∧ RepX T g H p.2 q.2) ks kvs := by
  rcases h with h | ⟨a, fl, e, ks, ha, r⟩
  · obtain ⟨a, ks, e, _, l, r⟩ := dct_inv h
    exact ⟨a, ks, e, l, r⟩
  · refine ⟨a, ks, e, ?_, r⟩
    split at ha
    · obtain ⟨od, ha⟩ := ha; exact .inr ⟨od, ha⟩
    · exact .inl ha
theorem rdx_ins {x : V} {c : Str} {fs : List (Str × W)} (h : RdX T g H x (.ins c fs)) : ∃ a dx gs, x = .ref a ∧ (H a = some (.ins (T.ca c) dx gs) ∧ InsK T c (fs.map (·.1))) ∧ Paired (fun (p : Str × V) (q : Str × W) => p.1 = q.1 ∧ RepX T g H p.2 q.2) gs fs := by
  rcases h with h | ⟨a, fl, e, dx, gs, ha, r⟩
  · obtain ⟨a, dx, gs, e, _, l, r⟩ := ins_inv h
    exact ⟨a, dx, gs, e, l, r⟩
  · exact ⟨a, dx, gs, e, ha, r⟩
theorem rdx_int {x : V} {i : Int} (h : RdX T g H x (.int i)) : x = .int i := by
  rcases h with h | ⟨a, fl, e, h⟩
  · exact int_inv h
  · exact h.elim
theorem rdx_str {x : V} {i : Str} (h : RdX T g H x (.str i)) : x = .str i := by
  rcases h with h | ⟨a, fl, e, h⟩
  · exact str_inv h
  · exact h.elim
theorem rdx_bl {x : V} {i : Bool} (h : RdX T g H x (.bl i)) : x = .bl i := by
  rcases h with h | ⟨a, fl, e, h⟩
  · exact bl_inv h
  · exact h.elim
theorem rdx_non {x : V} (h : RdX T g H x .non) : x = .non := by
  rcases h with h | ⟨a, fl, e, h⟩
  · exact non_inv h
  · exact h.elim
theorem rdx_ref {x : V} {m : Nat} (h : RdX T g H x (.ref m)) : x = .ref (g.ι m) ∧ g.L (g.ι m) = .cell m := by
  rcases h with h | ⟨a, fl, e, h⟩
  · exact ref_inv h
  · exact h.elim
end
end Wb

namespace Wb
open PySem PySem.Spec PyProof.Rows
open L2 (V Hp HO Rd upd upd_same upd_ne SqL SqT VK TE TT TA TS TG TI TO Ends WX XK R2 Cx Inv RelV Vals ne_of_none PE PT PA PS PSs PG PI OpR UnR CallR MtR)

section
variable (T : Tx) (W' : WX)
/-- what an expression hands on, by its context; H: the heap at its start -/
def Res (c : Ctx) (H : Hp) (g' : Gh) (H' : Hp) (x : V) (w : W) : Prop := match c with
  | .V => RepX T g' H' x w
  | .S => RdS T g' H' x w
  | .B => RdX T g' H' x w
  | .F => ∃ a, x = .ref a ∧ H a = none ∧ g'.L a = .out ∧ Own T g' H' .o a w
def ResA (c : Ctx) (H : Hp) (g' : Gh) (H' : Hp) (xs : List V) (ws : List W) : Prop := Paired (Res T c H g' H') xs ws
def ResB (H : Hp) (g' : Gh) (H' : Hp) (x : Bool) (w : Bool) : Prop := x = w
def ExOk (g' : Gh) (H' : Hp) (d : Addr) (fs : List (Str × W)) : Prop := ∃ gs, H' d = some (.xd gs) ∧ Paired (fun (p : Str × V) (q : Str × W) => p.1 = q.1 ∧ RepX T g' H' p.2 q.2) gs fs
def Post {α β : Type} (q : Bool) (Kr : Hp → Gh → Hp → β → α → Prop) (g : Gh) (env : Env) (σ : L2.St) (H : Hp) (r : R α) (Q : β → Hp → Prop) : Prop := match r with
  | .ok a S' => ∀ x g' H', Ext q g H g' H' → Sim T g' H' env S' σ → Kr H g' H' x a → Q x H'
  | .exn c fs S' => ∀ d g' H', Ext false g H g' H' → Sim T g' H' env S' σ → ExOk T g' H' d fs → W' (.ref (T.ca c)) (some d) σ H'
  | .bad => False
def tE (c : Ctx) (e : E) : TE := fun σ H Q => ∃ g env S, Sim T g H env S σ ∧ Post T W' (quiet e) (Res T c) g env σ H (ev c e env S) Q
def tT (e : E) : TT := fun σ H Q => ∃ g env S, Sim T g H env S σ ∧ Post T W' (quiet e) ResB g env σ H (evt e env S) Q
def tA (c : Ctx) (es : List E) : TA := fun σ H Q => ∃ g env S, Sim T g H env S σ ∧ Post T W' (quiets es) (ResA T c) g env σ H (evs c es env S) Q
end
def BaseMono {α β : Type} (Kr : Hp → Gh → Hp → β → α → Prop) : Prop := ∀ H H1 g' H' x a, (∀ p, H p ≠ none → H1 p ≠ none) → Kr H1 g' H' x a → Kr H g' H' x a
theorem bm_res {T : Tx} {c : Ctx} : BaseMono (Res T c) := by
  intro H H1 g' H' x w hs h
  cases c with
  | F =>
    obtain ⟨a, e, n, l, o⟩ := h
    refine ⟨a, e, ?_, l, o⟩
    cases q : H a with
    | none => rfl
    | some u => exact absurd n (hs a (by rw [q]; simp))
  | _ => exact h
theorem bm_resA {T : Tx} {c : Ctx} : BaseMono (ResA T c) := fun H H1 g' H' x w hs h => paired_imp h fun a b => bm_res H H1 g' H' a b hs
theorem bm_resB : BaseMono ResB := fun _ _ _ _ _ _ _ h => h

section
variable {T : Tx} {W' : WX} {g g1 : Gh} {env : Env} {S S1 : Store} {σ : L2.St} {H H1 : Hp} {q qa qb : Bool}
/-- the wish behind a first part -/
theorem Post.rest {α β : Type} {Kr : Hp → Gh → Hp → β → α → Prop} {r : R α} {Q : β → Hp → Prop} (hK : BaseMono Kr) (hq : q = true → (qa && qb) = true) (e : Ext qa g H g1 H1) (h : Post T W' q Kr g env σ H r Q) : Post T W' qb Kr g1 env σ H1 r Q := by
  cases r with
  | bad => exact h
  | ok a S' => exact fun x g' H' e' s k => h x g' H' ((e.trans' e').weak hq) s (hK _ _ _ _ _ _ e.some k)
  | exn c fs S' => exact fun d g' H' e' s k => h d g' H' ((e.weak (q' := false) (by simp)).trans e') s k
theorem Post.bind {α β α' β' : Type} {Ka : Hp → Gh → Hp → β → α → Prop} {Kr : Hp → Gh → Hp → β' → α' → Prop} {ra : R α} {f : α → Store → R α'} {Q' : β' → Hp → Prop} {Q : β → Hp → Prop} (hK : BaseMono Kr)
    (hq : q = true → (qa && qb) = true) (h : Post T W' q Kr g env σ H (ra.bind f) Q')
    (k : ∀ a S1 x g1 H1, ra = .ok a S1 → Ext qa g H g1 H1 → Sim T g1 H1 env S1 σ → Ka H g1 H1 x a → Post T W' qb Kr g1 env σ H1 (f a S1) Q' → Q x H1) : Post T W' qa Ka g env σ H ra Q := by
  cases ra with
  | bad => exact h
  | ok a S' => exact fun x g' H' e' s kk => k a S' x g' H' rfl e' s kk (Post.rest hK hq e' h)
  | exn c fs S' => exact h
theorem Post.imp {α β β' : Type} {Ka : Hp → Gh → Hp → β → α → Prop} {Kb : Hp → Gh → Hp → β' → α → Prop} {r : R α} {Q : β → Hp → Prop} {Q' : β' → Hp → Prop} (h : Post T W' q Ka g env σ H r Q) (hq : q = true → qa = true)
    (k : ∀ a S1 x g1 H1, r = .ok a S1 → Ext qa g H g1 H1 → Sim T g1 H1 env S1 σ → Kb H g1 H1 x a → (∀ y, Ka H g1 H1 y a → Q y H1) → Q' x H1) : Post T W' qa Kb g env σ H r Q' := by
  cases r with
  | bad => exact h
  | ok a S' => exact fun x g' H' e' s kk => k a S' x g' H' rfl e' s kk fun y ky => h y g' H' (e'.weak hq) s ky
  | exn c fs S' => exact h

theorem Sim.ext {H' : Hp} {g' : Gh} (s : Sim T g H env S σ) (e : Ext true g H g' H') (wf : ∀ a, H' a = none → g'.L a = .out) (nc : ∀ a n, g'.L a = .cell n → g.L a = .cell n) : Sim T g' H' env S σ where
  fin := fun a n h => s.fin a n (nc a n h)
  wf := wf
  len := s.len
  slots := fun i fl w h => by
    have z := s.slots i fl w h
    cases fl with
    | v =>
      obtain ⟨x, ex, r⟩ := z
      exact ⟨x, ex, e.stay.repX r⟩
    | o =>
      obtain ⟨a, ex, l, o⟩ := z
      obtain ⟨l1, h1⟩ := e.keep a o.some (.inl rfl)
      exact ⟨a, ex, l1.trans l, o.stay e.stay h1⟩
    | k =>
      obtain ⟨a, ex, l, o⟩ := z
      obtain ⟨l1, h1⟩ := e.keep a o.some (.inl rfl)
      exact ⟨a, ex, l1.trans l, o.stay e.stay h1⟩
  cells := fun n c h => by
    obtain ⟨l, dx, gs, hh, r⟩ := s.cells n c h
    obtain ⟨e1, e2⟩ := e.cel n l
    refine ⟨by rw [e1]; exact e2, dx, gs, ?_, paired_imp r fun p q z => ⟨z.1, ?_⟩⟩
    · rw [e1, (e.keep _ (by rw [hh.1]; simp) (.inl rfl)).2]; exact hh
    · have z2 := z.2
      revert z2
      cases q.2.1 with
      | v => exact fun z2 => e.stay.repX z2
      | o =>
        rintro ⟨a, ex, l, o⟩
        obtain ⟨l1, h1⟩ := e.keep a o.some (.inl rfl)
        exact ⟨a, ex, l1.trans l, o.stay e.stay h1⟩
      | k =>
        rintro ⟨a, ex, l, o⟩
        obtain ⟨l1, h1⟩ := e.keep a o.some (.inl rfl)
        exact ⟨a, ex, l1.trans l, o.stay e.stay h1⟩
def Gh.lab (g : Gh) (p : Addr) (l : Lab) : Gh := ⟨fun a => if a = p then l else g.L a, g.ι⟩
theorem lab_same {p : Addr} {l : Lab} : (g.lab p l).L p = l := if_pos rfl
theorem lab_ne {p a : Addr} {l : Lab} (h : a ≠ p) : (g.lab p l).L a = g.L a := if_neg h
theorem ext_new {p : Addr} {o : HO} {l : Lab} (hp : H p = none) (hl : g.L p = .out) : Ext true g H (g.lab p l) (upd H p o) := by
  refine ⟨fun a n _ => ?_, fun m h => ?_, fun a n => ?_, fun a i n h => ⟨i, by rw [lab_ne fun z => n (by rw [z]; exact hp)] at h; exact h⟩⟩
  · have na : a ≠ p := fun z => n (by rw [z]; exact hp)
    exact ⟨lab_ne na, upd_ne na⟩
  · have na : g.ι m ≠ p := fun z => by rw [z, hl] at h; cases h
    exact ⟨rfl, by show (g.lab p l).L (g.ι m) = _; rw [lab_ne na]; exact h⟩
  · have na : a ≠ p := fun z => n (by rw [z]; exact hp)
    rw [upd_ne na]; exact n
theorem wf_new {p : Addr} {o : HO} {l : Lab} (wf : ∀ a, H a = none → g.L a = .out) : ∀ a, upd H p o a = none → (g.lab p l).L a = .out := by
  intro a h
  have na : a ≠ p := fun z => by rw [z, upd_same] at h; cases h
  rw [upd_ne na] at h
  rw [lab_ne na]
  exact wf a h
theorem lab_cell {p a : Addr} {l : Lab} {n : Nat} (hl : ∀ n, l ≠ .cell n) (h : (g.lab p l).L a = .cell n) : g.L a = .cell n := by
  by_cases e : a = p
  · rw [e, lab_same] at h
    exact absurd h (hl n)
  · rwa [lab_ne e] at h
theorem Sim.new {p : Addr} {o : HO} (l : Lab) (s : Sim T g H env S σ) (hp : H p = none) (hl : ∀ n, l ≠ .cell n := by intro n h; cases h) : Sim T (g.lab p l) (upd H p o) env S σ :=
  s.ext (ext_new hp (s.wf p hp)) (wf_new s.wf) fun _ _ => lab_cell hl
/-- a container's contents as they stay behind a new label -/
theorem own_rep {p : Addr} {w : W} (hl : g.L p = .frz) (o : Own T g H .o p w) : RepX T g H (.ref p) w := by
  cases w with
  | lst ws =>
    obtain ⟨xs, e, r⟩ := o
    exact repX_lst ⟨hl, .inl e⟩ r
  | dct kvs =>
    obtain ⟨xs, e, r⟩ := o
    exact repX_dct hl (.inl (by simpa using e)) r
  | ins c fs =>
    obtain ⟨dx, xs, e, r⟩ := o
    exact repX_ins hl e r
  | _ => exact o.elim
theorem stay_lab {p : Addr} {l : Lab} (hl : g.L p = .out) : Stay g H (g.lab p l) H := by
  refine ⟨fun a e n => ?_, fun a u _ _ r => r, fun a C dx fs _ r => r, fun m e => ⟨rfl, ?_⟩⟩
  · have na : a ≠ p := fun z => by rw [z, hl] at e; cases e
    rw [lab_ne na]; exact e
  · have na : g.ι m ≠ p := fun z => by rw [z, hl] at e; cases e
    show (g.lab p l).L (g.ι m) = _
    rw [lab_ne na]; exact e
theorem Sim.lab {p : Addr} {l : Lab} (s : Sim T g H env S σ) (hl : g.L p = .out) (hp : H p ≠ none) (hc : ∀ n, l ≠ .cell n := by intro n h; cases h) : Sim T (g.lab p l) H env S σ where
  fin := fun a n h => s.fin a n (lab_cell hc h)
  wf := fun a h => by
    have na : a ≠ p := fun z => hp (by rw [← z]; exact h)
    rw [lab_ne na]; exact s.wf a h
  len := s.len
  slots := fun i fl w h => by
    have z := s.slots i fl w h
    have st := stay_lab (g := g) (H := H) (l := l) hl
    cases fl with
    | v =>
      obtain ⟨x, ex, r⟩ := z
      exact ⟨x, ex, st.repX r⟩
    | o =>
      obtain ⟨a, ex, la, o⟩ := z
      have na : a ≠ p := fun z => by rw [z, hl] at la; cases la
      exact ⟨a, ex, (lab_ne na).trans la, o.stay st rfl⟩
    | k =>
      obtain ⟨a, ex, la, o⟩ := z
      have na : a ≠ p := fun z => by rw [z, hl] at la; cases la
      exact ⟨a, ex, (lab_ne na).trans la, o.stay st rfl⟩
  cells := fun n c h => by
    have st := stay_lab (g := g) (H := H) (l := l) hl
    obtain ⟨la, dx, gs, hh, r⟩ := s.cells n c h
    refine ⟨(st.cel n la).2, dx, gs, hh, paired_imp r fun p q z => ⟨z.1, ?_⟩⟩
    have z2 := z.2
    revert z2
    cases q.2.1 with
    | v => exact fun z2 => st.repX z2
    | o =>
      rintro ⟨a, ex, la, o⟩
      have na : a ≠ _ := fun z => by rw [z, hl] at la; cases la
      exact ⟨a, ex, (lab_ne na).trans la, o.stay st rfl⟩
    | k =>
      rintro ⟨a, ex, la, o⟩
      have na : a ≠ _ := fun z => by rw [z, hl] at la; cases la
      exact ⟨a, ex, (lab_ne na).trans la, o.stay st rfl⟩
/-- a fresh container, whatever it is wanted for -/
theorem res_fresh {c : Ctx} {H' : Hp} {g' : Gh} {p : Addr} {w : W} (hp : H p = none) (e : Ext q g H g' H') (s : Sim T g' H' env S σ) (hl : g'.L p = .out) (o : Own T g' H' .o p w) {Q : V → Hp → Prop}
    (h : ∀ x g' H', Ext q g H g' H' → Sim T g' H' env S σ → Res T c H g' H' x w → Q x H') : Q (.ref p) H' := by
  cases c with
  | F => exact h _ _ _ e s ⟨p, rfl, hp, hl, o⟩
  | S => exact h _ _ _ e s (.inr ⟨p, .o, rfl, o, .inl hl, o.some⟩)
  | B => exact h _ _ _ e s (.inr ⟨p, .o, rfl, o⟩)
  | V =>
    have o' : Own T (g'.lab p .frz) H' .o p w := o.stay (stay_lab hl) rfl
    refine h _ (g'.lab p .frz) _ ?_ (s.lab hl o.some) (own_rep lab_same o')
    refine ⟨fun a n pp => ?_, fun m hm => ?_, e.some, fun a i n h => e.slot a i n (by rw [lab_ne fun z => n (by rw [z]; exact hp)] at h; exact h)⟩
    · have na : a ≠ p := fun z => n (by rw [z]; exact hp)
      obtain ⟨l1, h1⟩ := e.keep a n pp
      exact ⟨(lab_ne na).trans l1, h1⟩
    · obtain ⟨i1, l1⟩ := e.cel m hm
      refine ⟨i1, ?_⟩
      have na : g.ι m ≠ p := fun z => by rw [z, hl] at l1; cases l1
      rw [lab_ne na]; exact l1
/-- a value that is no container -/
theorem res_val {c : Ctx} {w : W} {x : V} (hc : c ≠ .F) {H' : Hp} {g' : Gh} (r : RepX T g' H' x w) : Res T c H g' H' x w := by
  cases c with
  | F => exact absurd rfl hc
  | V => exact r
  | S => exact .inl r
  | B => exact .inl r
theorem ofW_ok {c : Ctx} {p : Option W} {S : Store} {Q : V → Hp → Prop} (h : Post T W' q (Res T c) g env σ H (ofW c p S) Q) : ∃ w, p = some w ∧ c ≠ .F ∧ Post T W' q (Res T c) g env σ H (.ok w S) Q := by
  cases p with
  | none => exact h.elim
  | some w =>
    unfold ofW at h
    by_cases hc : c = .F
    · simp only [hc, if_true] at h
      exact h.elim
    · simp only [hc, if_false] at h
      exact ⟨w, rfl, hc, h⟩
theorem ofPV_ok {c : Ctx} {p : PV} {S : Store} {Q : V → Hp → Prop} (h : Post T W' q (Res T c) g env σ H (ofPV c p S) Q) : ∃ fr w, p = some (fr, w) ∧ (fr = false → c ≠ .F) ∧ Post T W' q (Res T c) g env σ H (.ok w S) Q := by
  cases p with
  | none => exact h.elim
  | some y =>
    obtain ⟨fr, w⟩ := y
    unfold ofPV at h
    by_cases hc : c = .F ∧ fr = false
    · simp only [hc, and_self, if_true] at h
      exact h.elim
    · simp only [hc, if_false] at h
      exact ⟨fr, w, rfl, fun e z => hc ⟨z, e⟩, h⟩
/-- the wish of a plain value, at once -/
theorem Post.val {c : Ctx} {w : W} {x : V} {Q : V → Hp → Prop} (hc : c ≠ .F) (s : Sim T g H env S σ) (r : RepX T g H x w) (h : Post T W' q (Res T c) g env σ H (.ok w S) Q) : Q x H :=
  h x g H (Ext.refl) s (res_val hc r)
/-- the wish of a new container, at once -/
theorem Post.new {c : Ctx} {w : W} {p : Addr} {o : HO} {Q : V → Hp → Prop} (h : Post T W' q (Res T c) g env σ H (.ok w S) Q) (s : Sim T g H env S σ) (hp : H p = none) (r : ∀ g', Stay g H g' (upd H p o) → Own T g' (upd H p o) .o p w) : Q (.ref p) (upd H p o) := by
  have e := ext_new (o := o) (l := .out) hp (s.wf p hp)
  exact res_fresh hp (e.weak fun _ => rfl) (s.new .out hp) lab_same (r _ e.stay) h
end

theorem pe_imp {X : Cx} {e : Expr} {t t' : TE} (h : PE X e t) (i : ∀ σ H Q, t' σ H Q → t σ H Q) : PE X e t' := ⟨fun pins s σ H Q I q => h.run pins s σ H Q I (i σ H Q q)⟩
theorem pt_imp {X : Cx} {e : Expr} {t t' : TT} (h : PT X e t) (i : ∀ σ H Q, t' σ H Q → t σ H Q) : PT X e t' := ⟨fun pins s σ H Q I q => h.run pins s σ H Q I (i σ H Q q)⟩
theorem ps_imp {X : Cx} {e : Stmt} {t t' : TS} (h : PS X e t) (i : ∀ D σ H, t' D σ H → t D σ H) : PS X e t' := ⟨fun pins s σ H D I q => h.run pins s σ H D I (i D σ H q)⟩
theorem pss_imp {X : Cx} {e : List Stmt} {t t' : TS} (h : PSs X e t) (i : ∀ D σ H, t' D σ H → t D σ H) : PSs X e t' := ⟨fun pins s σ H D I q => h.run pins s σ H D I (i D σ H q)⟩
theorem pa_imp {X : Cx} {e : List Expr} {t t' : TA} (h : PA X e t) (i : ∀ σ H Q, t' σ H Q → t σ H Q) : PA X e t' := ⟨fun pos pins s σ H Q I q => h.run pos pins s σ H Q I (i σ H Q q)⟩
end Wb

namespace Wb
open PySem PySem.Spec PyProof.Rows
open L2 (V Hp HO Rd upd upd_same upd_ne SqL SqT VK TE TT TA TS TG TI TO Ends WX XK R2 Cx Inv RelV Vals ne_of_none PE PT PA PS PSs PG PI OpR UnR CallR MtR)

theorem sizeL_eq : sizeL = sizeLine := by rw [sizeLine_eq]; rfl
theorem paired_append {α β : Type} {F : α → β → Prop} {a b : List α} {c d : List β} (h : Paired F a c) (k : Paired F b d) : Paired F (a ++ b) (c ++ d) := by
  induction h with
  | nil => exact k
  | cons r _ ih => exact .cons r ih
theorem paired_rep {α β : Type} {F : α → β → Prop} {a : List α} {c : List β} (h : Paired F a c) (k : Nat) : Paired F (List.replicate k a).flatten (List.replicate k c).flatten := by
  induction k with
  | zero => exact .nil
  | succ k ih => rw [List.replicate_succ, List.replicate_succ, List.flatten_cons, List.flatten_cons]; exact paired_append h ih
theorem paired_get {α β : Type} {F : α → β → Prop} {a : List α} {c : List β} (h : Paired F a c) : ∀ {i : Nat} {y : β}, c[i]? = some y → ∃ x, a[i]? = some x ∧ F x y := by
  induction h with
  | nil => intro i y e; simp at e
  | cons r _ ih =>
    intro i y e
    cases i with
    | zero =>
      rw [List.getElem?_cons_zero] at e
      cases e
      exact ⟨_, rfl, r⟩
    | succ i => exact ih (by simpa using e)
theorem paired_take {α β : Type} {F : α → β → Prop} {a : List α} {c : List β} (h : Paired F a c) : ∀ (k : Nat), Paired F (a.take k) (c.take k) := by
  induction h with
  | nil => intro k; rw [List.take_nil, List.take_nil]; exact .nil
  | cons r _ ih =>
    intro k
    cases k with
    | zero => exact .nil
    | succ k => exact .cons r (ih k)
theorem paired_drop {α β : Type} {F : α → β → Prop} {a : List α} {c : List β} (h : Paired F a c) : ∀ (k : Nat), Paired F (a.drop k) (c.drop k) := by
  induction h with
  | nil => intro k; rw [List.drop_nil, List.drop_nil]; exact .nil
  | cons r t ih =>
    intro k
    cases k with
    | zero => exact .cons r t
    | succ k => exact ih k
theorem paired_reverse {α β : Type} {F : α → β → Prop} {a : List α} {c : List β} (h : Paired F a c) : Paired F a.reverse c.reverse := by
  induction h with
  | nil => exact .nil
  | cons r _ ih =>
    rw [List.reverse_cons, List.reverse_cons]
    exact paired_append ih (.cons r .nil)
theorem paired_set {α β : Type} {F : α → β → Prop} {a : List α} {c : List β} (h : Paired F a c) {x : α} {y : β} (r : F x y) : ∀ (k : Nat), Paired F (a.set k x) (c.set k y) := by
  induction h with
  | nil => intro k; exact .nil
  | cons r' t ih =>
    intro k
    cases k with
    | zero => exact .cons r t
    | succ k => exact .cons r' (ih k)
theorem paired_map {α β γ : Type} {F : α → β → Prop} {f : γ → α} {h : γ → β} (r : ∀ x, F (f x) (h x)) : ∀ l : List γ, Paired F (l.map f) (l.map h)
  | [] => .nil
  | x :: l => .cons (r x) (paired_map r l)

section
variable {X : Cx}
theorem rd_list {pins : List (Addr × Obj)} {s : Shared} {σ : L2.St} {H : Hp} {l : Addr} {xs : List V} (I : Inv X pins σ H s) (h : Rd H l (.lst xs)) :
    xs.length ≤ sizeLine ∧ ∃ (its : List Value) (n : Nat), Vals xs its ∧ xs.length = its.length ∧ s.heap.get? l = some { cls := .type "list", data := .seq its.toArray n } := by
  obtain ⟨z, its, n, r, e⟩ := h.ok I.hok
  exact ⟨z, its, n, r, r.length, e⟩
/-- list + list, whatever reads them -/
def rCatR : R2 := fun x y H Q => ∃ l b xs zs, x = .ref l ∧ y = .ref b ∧ Rd H l (.lst xs) ∧ Rd H b (.lst zs) ∧ xs.length + zs.length ≤ sizeLine ∧ ∀ p, H p = none → Q (.ref p) (upd H p (.lst (xs ++ zs)))
theorem opCatR : OpR X (binaryOp .Add) rCatR := by
  intro pins s σ H x y v u Q I rx ry h
  obtain ⟨l, b, xs, zs, rfl, rfl, hl, hb, hz, q⟩ := h
  cases rx; cases ry
  obtain ⟨_, its, n, r, el, e⟩ := rd_list I hl
  obtain ⟨_, its2, n2, r2, el2, e2⟩ := rd_list I hb
  refine PySem.P.add_list e e2 ?_ (by simp only [List.size_toArray]; omega)
  rw [show its.toArray ++ its2.toArray = (its ++ its2).toArray from by simp]
  exact ⟨.ref _, _, I.lnew (t' := s.toks) (r.append r2) (by rw [List.length_append]; exact hz), rfl, q _ I.fresh⟩
def rRepR : R2 := fun x y H Q => ∃ l k xs, x = .ref l ∧ y = .int k ∧ Rd H l (.lst xs) ∧ 0 ≤ k ∧ k < 2 ^ 62 ∧ xs.length * k.toNat ≤ sizeLine ∧ ∀ p, H p = none → Q (.ref p) (upd H p (.lst (List.replicate k.toNat xs).flatten))
theorem opRepR : OpR X (binaryOp .Mult) rRepR := by
  intro pins s σ H x y v u Q I rx ry h
  obtain ⟨l, k, xs, rfl, rfl, hl, h0, h1, hz, q⟩ := h
  cases rx
  obtain ⟨t, rfl⟩ := ry
  obtain ⟨_, its, n, r, el, e⟩ := rd_list I hl
  have hsz : its.toArray.size * k.toNat ≤ sizeLine := by
    rw [List.size_toArray, ← el]
    exact hz
  have c1 : ¬ its.toArray.size * k.toNat > (2 ^ 63 - 1) / 8 := by
    have z : (sizeLine : Nat) ≤ (2 ^ 63 - 1) / 8 := by decide
    omega
  have c2 : ¬ (!Builtin.List.listFitsIndex k) = true := by
    rw [fitsIndex_both (by omega) (by omega)]
    simp
  have c3 : ¬ Builtin.List.listTooLong (its.toArray.size * k.toNat) = true := by
    rw [L2.notLongL hsz]
    simp
  have hn : List.foldl (fun a b => a ++ b) #[] (List.replicate (if its.toArray.isEmpty = true then 0 else k.toNat) its.toArray)
      = (List.replicate k.toNat its).flatten.toArray := by
    have f (m : Nat) : List.foldl (fun a b => a ++ b) #[] (List.replicate m its.toArray) = (List.replicate m its).flatten.toArray := by
      have z := L2.foldl_rep its m []
      rwa [List.nil_append] at z
    rw [f]
    cases its with
    | nil => simp
    | cons a r' => simp
  refine wpAny_binaryOp_repeat_ref (T := "list") (U := "int") (by decide) ⟨_, e, rfl⟩ (fun s' => typeIs_int s' k t)
    noFill_list_mul F.fills_int_mul F.slot_int_rmul repeat_list F.slot_int_index.lookup ?_
  refine call_meets F.slot_int_rmul (typeIs_int s k t) F.entry_int_rmul (F.args_int_rmul_2 _ _)
    (int___rmul___int_list k t l its.toArray n) ⟨e, rfl, ⟨_, e, rfl⟩, ?_⟩
  refine call_meets F.slot_list_mul ⟨_, e, rfl⟩ F.entry_list_mul (F.args_list_mul_2 _ _)
    (AutoListH.list___mul___list_int_3 l its.toArray n k t c2 c1 c3) ⟨e, ?_⟩
  rw [hn]
  exact ⟨.ref _, _, I.lnew (t' := s.toks) (r.rep k.toNat) (by rw [PyProof.Rows.lm_len_rep_flat, Nat.mul_comm]; exact hz), rfl, q _ I.fresh⟩
end
def opOf : Bin → Operator
  | .add => .Add | .sub => .Sub | .mul => .Mult | .fdiv => .FloorDiv | .mod => .Mod
def rStrAdd : R2 := fun x y H Q => ∃ i j, x = .str i ∧ y = .str j ∧ i.length + j.length ≤ sizeLine ∧ Q (.str (i ++ j)) H
def rBin : Bin → R2
  | .add => fun x y H Q => L2.rI0 (fun i j => .int (i + j)) x y H Q ∨ rStrAdd x y H Q ∨ rCatR x y H Q
  | .sub => L2.rI0 fun i j => .int (i - j)
  | .mul => fun x y H Q => L2.rI L2.CMul (fun i j => .int (i * j)) x y H Q ∨ rRepR x y H Q
  | .fdiv => L2.rI L2.CDivN fun i j => .int (i.fdiv j)
  | .mod => L2.rI (fun _ j => j ≠ 0) fun i j => .int (i.fmod j)
theorem binOk {X : Cx} : ∀ o : Bin, OpR X (binaryOp (opOf o)) (rBin o)
  | .add => L2.OpR.or L2.op_add (L2.OpR.or L2.op_add_str opCatR)
  | .sub => L2.op_sub
  | .mul => L2.OpR.or L2.op_mul opRepR
  | .fdiv => L2.op_fdivN
  | .mod => L2.op_modN
section
variable {T : Tx} {W' : WX} {g : Gh} {env : Env} {S : Store} {σ : L2.St} {H : Hp} {q : Bool} {c : Ctx}
theorem mulOk_of {i j : Int} (h : mulOk i j = true) : L2.CMul i j := by
  unfold mulOk at h
  simp only [Bool.or_eq_true, Bool.and_eq_true, decide_eq_true_eq] at h
  exact h
theorem bin_sem {o : Bin} {x y : V} {a b w : W} {fr : Bool} {Q : V → Hp → Prop} (s : Sim T g H env S σ) (hx : RdX T g H x a) (hy : RdX T g H y b) (e : binW o a b = some (fr, w)) (hc : fr = false → c ≠ .F) (h : Post T W' q (Res T c) g env σ H (.ok w S) Q) : rBin o x y H Q := by
  unfold binW at e
  split at e
  · cases e
    exact .inl ⟨_, _, rdx_int hx, rdx_int hy, Post.val (hc rfl) s repX_int h⟩
  · rename_i x y
    split at e
    · rename_i hz
      cases e
      exact .inr (.inl ⟨_, _, rdx_str hx, rdx_str hy, by rw [← sizeL_eq]; exact hz, Post.val (hc rfl) s repX_str h⟩)
    · cases e
  · split at e
    · rename_i xs ys hz
      cases e
      obtain ⟨a, us, e1, h1, r1⟩ := rdx_lst hx
      obtain ⟨b, vs, e2, h2, r2⟩ := rdx_lst hy
      refine .inr (.inr ⟨a, b, us, vs, e1, e2, h1, h2, ?_, fun p hp => ?_⟩)
      · rw [r1.length, r2.length, ← sizeL_eq]; exact hz
      · exact Post.new h s hp fun g' st => ⟨_, upd_same, paired_append (paired_imp r1 fun _ _ => st.repX) (paired_imp r2 fun _ _ => st.repX)⟩
    · cases e
  · cases e
    exact ⟨_, _, rdx_int hx, rdx_int hy, Post.val (hc rfl) s repX_int h⟩
  · split at e
    · rename_i hm
      cases e
      exact .inl ⟨_, _, rdx_int hx, rdx_int hy, mulOk_of hm, Post.val (hc rfl) s repX_int h⟩
    · cases e
  · split at e
    · rename_i xs k hz
      cases e
      obtain ⟨a, us, e1, h1, r1⟩ := rdx_lst hx
      refine .inr ⟨a, k, us, e1, rdx_int hy, h1, hz.1, hz.2.1, ?_, fun p hp => ?_⟩
      · rw [r1.length, ← sizeL_eq]; exact hz.2.2
      · exact Post.new h s hp fun g' st => ⟨_, upd_same, paired_rep (paired_imp r1 fun _ _ => st.repX) _⟩
    · cases e
  · split at e
    · rename_i hm
      cases e
      exact ⟨_, _, rdx_int hx, rdx_int hy, hm, Post.val (hc rfl) s repX_int h⟩
    · cases e
  · split at e
    · rename_i hm
      cases e
      exact ⟨_, _, rdx_int hx, rdx_int hy, hm, Post.val (hc rfl) s repX_int h⟩
    · cases e
  · cases e
end

section
variable {T : Tx} {g : Gh} {H : Hp}
theorem dp_of : ∀ (n : Nat) (x : V) (w : W) (d : PyData), Rep T g H n x w → toPy w = some d → L2.Dp T.K H x d
  | 0, _, _, _, h, _ => h.elim
  | n + 1, x, .non, d, h, e => by
    unfold toPy at e; cases e; obtain rfl : x = .non := h; exact .non
  | n + 1, x, .bl b, d, h, e => by
    unfold toPy at e; cases e; obtain rfl : x = .bl b := h; exact .bl b
  | n + 1, x, .int b, d, h, e => by
    unfold toPy at e; cases e; obtain rfl : x = .int b := h; exact .int b
  | n + 1, x, .str b, d, h, e => by
    unfold toPy at e; cases e; obtain rfl : x = .str b := h; exact .str b
  | n + 1, x, .tup ws, d, h, e => by
    obtain ⟨a, xs, rfl, l, r⟩ := h
    unfold toPy at e
    cases q : toPys ws with
    | none => rw [q] at e; cases e
    | some ds =>
      rw [q] at e; cases e
      refine .tup (xs := xs) (l.imp_left (·.2)) ?_
      clear l
      induction r generalizing ds with
      | nil => unfold toPys at q; cases q; exact .nil
      | @cons y w ys ws r' _ ih =>
        unfold toPys at q
        split at q
        · rename_i d ds' h1 h2
          cases q
          exact .cons (dp_of n y w d r' h1) (ih ds' h2)
        · cases q
  | n + 1, x, .lst ws, d, h, e => by
    obtain ⟨a, xs, rfl, l, r⟩ := h
    unfold toPy at e
    cases q : toPys ws with
    | none => rw [q] at e; cases e
    | some ds =>
      rw [q] at e; cases e
      refine .lst (xs := xs) (.inl l.2) ?_
      clear l
      induction r generalizing ds with
      | nil => unfold toPys at q; cases q; exact .nil
      | @cons y w ys ws r' _ ih =>
        unfold toPys at q
        split at q
        · rename_i d ds' h1 h2
          cases q
          exact .cons (dp_of n y w d r' h1) (ih ds' h2)
        · cases q
  | n + 1, x, .ro _, d, h, e => by unfold toPy at e; cases e
  | n + 1, x, .dct _, d, h, e => by unfold toPy at e; cases e
  | n + 1, x, .ins _ _, d, h, e => by unfold toPy at e; cases e
  | n + 1, x, .ref _, d, h, e => by unfold toPy at e; cases e
theorem dps_of {xs : List V} {ws : List W} (r : Paired (RepX T g H) xs ws) : ∀ {ds : List PyData}, toPys ws = some ds → L2.DpAll T.K H xs ds := by
  induction r with
  | nil => intro ds q; unfold toPys at q; cases q; exact .nil
  | @cons y w ys ws r' _ ih =>
    intro ds q
    unfold toPys at q
    split at q
    · rename_i d ds' h1 h2
      cases q
      obtain ⟨n, r'⟩ := r'
      exact .cons (dp_of n y w d r' h1) (ih h2)
    · cases q
theorem dp_rdx {x : V} {w : W} {d : PyData} (h : RdX T g H x w) (e : toPy w = some d) : L2.Dp T.K H x d := by
  rcases h with ⟨n, h⟩ | ⟨a, fl, rfl, o⟩
  · exact dp_of n x w d h e
  · cases w with
    | lst ws =>
      obtain ⟨xs, ha, r⟩ := o
      unfold toPy at e
      cases q : toPys ws with
      | none => rw [q] at e; cases e
      | some ds =>
        rw [q] at e; cases e
        exact .lst (.inl (.inl ha)) (dps_of r q)
    | dct _ => unfold toPy at e; cases e
    | ins _ _ => unfold toPy at e; cases e
    | _ => exact o.elim
theorem eqW_inv {a b : W} {r : Bool} (h : eqW a b = some r) : ∃ d e, toPy a = some d ∧ toPy b = some e ∧ SeqAt.shaped d = true ∧ SeqAt.shaped e = true ∧ r = PyData.eqv d e := by
  unfold eqW at h
  split at h
  · rename_i d e h1 h2
    split at h
    · rename_i hs
      rw [Bool.and_eq_true] at hs
      cases h
      exact ⟨d, e, h1, h2, hs.1, hs.2, rfl⟩
    · cases h
  · cases h
def toV : W → V
  | .bl b => .bl b
  | .int i => .int i
  | .str s => .str s
  | _ => .non
theorem flat_rdx {x : V} {w : W} (h : RdX T g H x w) (f : flatW w = true) : x = toV w ∧ L2.flatV x = true := by
  cases w with
  | non => have e := rdx_non h; rw [e]; exact ⟨rfl, rfl⟩
  | bl b => have e := rdx_bl h; rw [e]; exact ⟨rfl, rfl⟩
  | int b => have e := rdx_int h; rw [e]; exact ⟨rfl, rfl⟩
  | str b => have e := rdx_str h; rw [e]; exact ⟨rfl, rfl⟩
  | _ => cases f
theorem eqF_V {a b : W} (ha : flatW a = true) (hb : flatW b = true) : L2.eqV (toV a) (toV b) = eqF a b := by
  cases a with
  | non | bl _ | int _ | str _ =>
    cases b with
    | non | bl _ | int _ | str _ => rfl
    | _ => exact absurd hb Bool.false_ne_true
  | _ => exact absurd ha Bool.false_ne_true
theorem flats {xs : List V} {ws : List W} (r : Paired (RepX T g H) xs ws) (f : ws.all flatW = true) : xs.all L2.flatV = true ∧ ∀ x : W, flatW x = true → L2.inV (toV x) xs = ws.any fun y => eqF y x := by
  induction r with
  | nil => exact ⟨rfl, fun _ _ => rfl⟩
  | @cons y w ys ws r' _ ih =>
    rw [List.all_cons, Bool.and_eq_true] at f
    obtain ⟨i1, i2⟩ := ih f.2
    obtain ⟨e1, e2⟩ := flat_rdx r'.rdX f.1
    refine ⟨by rw [List.all_cons, e2, i1]; rfl, fun x fx => ?_⟩
    have z := i2 x fx
    unfold L2.inV at z ⊢
    rw [List.any_cons, List.any_cons, z, e1, eqF_V f.1 fx]
end
def cmpOf : Cmp → CmpOp
  | .eq => .Eq | .ne => .NotEq | .lt => .Lt | .le => .LtE | .gt => .Gt | .ge => .GtE | .isIn => .In | .notIn => .NotIn | .isN => .Is | .notN => .IsNot | .deq => .Eq | .dne => .NotEq
def rOrS (f : Int → Int → Bool) (h : Str → Str → Bool) : R2 := fun x y H Q => L2.rI0 (fun i j => .bl (f i j)) x y H Q ∨ ∃ i j, x = .str i ∧ y = .str j ∧ Q (.bl (h i j)) H
def rInD (neg : Bool) : R2 := fun y x H Q => ∃ a o, x = .ref a ∧ L2.DGet H a y o ∧ Q (.bl (if neg then !o.isSome else o.isSome)) H
def rInS (neg : Bool) : R2 := fun x y H Q => ∃ i j, x = .str i ∧ y = .str j ∧ Q (.bl (if neg then !(!(Builtin.Str.occurrences j i 0 j.length 1).isEmpty) else !(Builtin.Str.occurrences j i 0 j.length 1).isEmpty)) H
def rCmp (K : PySem.W.Frag) : Cmp → R2
  | .eq => L2.rEqD K
  | .ne => L2.rNeD K
  | .deq => Wq.rEqX K
  | .dne => Wq.rNeX K
  | .lt => rOrS (fun i j => decide (i < j)) ltS
  | .le => rOrS (fun i j => decide (i ≤ j)) fun i j => !ltS j i
  | .gt => rOrS (fun i j => decide (j < i)) fun i j => ltS j i
  | .ge => rOrS (fun i j => decide (j ≤ i)) fun i j => !ltS i j
  | .isIn => fun x y H Q => L2.rIn K false x y H Q ∨ rInD false x y H Q ∨ rInS false x y H Q
  | .notIn => fun x y H Q => L2.rIn K true x y H Q ∨ rInD true x y H Q ∨ rInS true x y H Q
  | .isN => fun x y H Q => (y = .non ∧ Q (.bl (decide (x = .non))) H) ∨ ∃ a b, x = .bl a ∧ y = .bl b ∧ Q (.bl (decide (a = b))) H
  | .notN => fun x y H Q => (y = .non ∧ Q (.bl (!decide (x = .non))) H) ∨ ∃ a b, x = .bl a ∧ y = .bl b ∧ Q (.bl (!decide (a = b))) H
section
variable {X : Cx}
theorem op_inD (hu : X.A.units + 1 < cLine) : OpR X (compareOp .In) (rInD false) := by
  intro pins s σ H y x v u Q I ry rx h
  obtain ⟨a, o, rfl, d, q⟩ := h
  cases rx
  exact L2.d_in hu I d ry fun s' I' => ⟨.bl o.isSome, H, I', rfl, q⟩
theorem op_ninD (hu : X.A.units + 1 < cLine) : OpR X (compareOp .NotIn) (rInD true) := by
  intro pins s σ H y x v u Q I ry rx h
  obtain ⟨a, o, rfl, d, q⟩ := h
  cases rx
  exact L2.d_notIn hu I d ry fun s' I' => ⟨.bl (!o.isSome), H, I', rfl, q⟩
theorem cmpOk (hu : X.A.units + 64 < cLine) : ∀ o : Cmp, OpR X (compareOp (cmpOf o)) (rCmp X.K o)
  | .eq => L2.op_eqD hu
  | .ne => L2.op_neD hu
  | .deq => Wq.op_eqX hu
  | .dne => Wq.op_neX hu
  | .lt => L2.OpR.or L2.op_lt L2.op_lt_str
  | .le => L2.OpR.or L2.op_le L2.op_le_str
  | .gt => L2.OpR.or L2.op_gt L2.op_gt_str
  | .ge => L2.OpR.or L2.op_ge L2.op_ge_str
  | .isIn => L2.OpR.or L2.op_in_seq (L2.OpR.or (op_inD (by omega)) L2.op_in_str)
  | .notIn => L2.OpR.or L2.op_notIn_seq (L2.OpR.or (op_ninD (by omega)) L2.op_notIn_str)
  | .isN => L2.OpR.or L2.op_isN L2.op_is_bl
  | .notN => L2.OpR.or L2.op_notN L2.op_isnot_bl
end
section
variable {T : Tx} {g : Gh} {H : Hp}
theorem key_inv {w : W} {k : Key} (h : keyW w = some k) : w = kW k := by
  cases w with
  | int i => cases h; rfl
  | str i => cases h; rfl
  | _ => cases h
theorem key_rdx {x : V} {w : W} {k : Key} (h : RdX T g H x w) (e : keyW w = some k) : x = L2.kV k := by
  have e' := key_inv e
  subst e'
  cases k with
  | inl i => exact rdx_int h
  | inr i => exact rdx_str h
theorem repX_kV {k : Key} : RepX T g H (L2.kV k) (kW k) := by
  cases k with
  | inl i => exact repX_int
  | inr i => exact repX_str
theorem val_paired {ks : List (Key × V)} {kvs : List (Key × W)} (r : Paired (fun (p : Key × V) (q : Key × W) => p.1 = q.1 ∧ RepX T g H p.2 q.2) ks kvs) (k : Key) :
    (valW kvs k = none ∧ L2.valV ks k = none) ∨ ∃ w x, valW kvs k = some w ∧ L2.valV ks k = some x ∧ RepX T g H x w := by
  induction r with
  | nil => exact .inl ⟨rfl, rfl⟩
  | @cons p q ks kvs z _ ih =>
    by_cases h : q.1 = k
    · refine .inr ⟨q.2, p.2, ?_, ?_, z.2⟩
      · simp [valW, List.find?_cons, h]
      · exact L2.valV_pos (z.1.trans h)
    · have e1 : valW (q :: kvs) k = valW kvs k := by simp [valW, List.find?_cons, h]
      have e2 : L2.valV (p :: ks) k = L2.valV ks k := L2.valV_neg fun e => h (z.1.symm.trans e)
      rw [e1, e2]
      exact ih
/-- what a dict holds -/
theorem get_rdx {x y : V} {kvs : List (Key × W)} {i : W} {k : Key} (h : RdX T g H x (.dct kvs)) (hk : RdX T g H y i) (e : keyW i = some k) :
    ∃ a o, x = .ref a ∧ L2.DGet H a y o ∧ ((valW kvs k = none ∧ o = none) ∨ ∃ w v, valW kvs k = some w ∧ o = some v ∧ RepX T g H v w) := by
  obtain ⟨a, ks, ex, hr, r⟩ := rdx_dct h
  refine ⟨a, L2.valV ks k, ex, .inl ⟨ks, k, hr, key_rdx hk e, rfl⟩, ?_⟩
  rcases val_paired r k with ⟨h1, h2⟩ | ⟨w, v, h1, h2, h3⟩
  · exact .inl ⟨h1, h2⟩
  · exact .inr ⟨w, v, h1, h2, h3⟩
theorem in_sem {x y : V} {a b : W} {r neg : Bool} {Q : V → Hp → Prop} (hx : RdX T g H x a) (hy : RdX T g H y b) (e : inW a b = some r) (q : Q (.bl (if neg then !r else r)) H) :
    L2.rIn T.K neg x y H Q ∨ rInD neg x y H Q ∨ rInS neg x y H Q := by
  unfold inW at e
  split at e
  · split at e
    · rename_i ws hf
      rw [Bool.and_eq_true] at hf
      cases e
      obtain ⟨p, xs, e1, h1, r1⟩ := rdx_lst hy
      obtain ⟨f1, f2⟩ := flats r1 hf.2
      obtain ⟨e2, f3⟩ := flat_rdx hx hf.1
      refine .inl ⟨p, xs, e1, .inl (.inl h1), f3, f1, ?_⟩
      rw [e2, f2 _ hf.1]
      exact q
    · cases e
  · split at e
    · rename_i ws hf
      rw [Bool.and_eq_true] at hf
      cases e
      obtain ⟨p, xs, e1, h1, r1⟩ := rdx_tup hy
      obtain ⟨f1, f2⟩ := flats r1 hf.2
      obtain ⟨e2, f3⟩ := flat_rdx hx hf.1
      refine .inl ⟨p, xs, e1, .inr h1, f3, f1, ?_⟩
      rw [e2, f2 _ hf.1]
      exact q
    · cases e
  · rename_i kvs
    cases hk : keyW a with
    | none => rw [hk] at e; cases e
    | some k =>
      rw [hk] at e; cases e
      obtain ⟨p, o, e1, d, ho⟩ := get_rdx hy hx hk
      refine .inr (.inl ⟨p, o, e1, d, ?_⟩)
      rcases ho with ⟨h1, rfl⟩ | ⟨w, v, h1, rfl, _⟩
      · dsimp only at q; rw [h1] at q; exact q
      · dsimp only at q; rw [h1] at q; exact q
  · split at e
    · cases e
      exact .inr (.inr ⟨_, _, rdx_str hx, rdx_str hy, q⟩)
    · cases e
  · cases e
theorem isN_inv {a b : W} {r : Bool} (e : cmpW .isN a b = some r) : (b = .non ∧ r = isNon a) ∨ ∃ p q, a = .bl p ∧ b = .bl q ∧ r = decide (p = q) := by
  unfold cmpW at e
  split at e <;> first | (rename_i h; cases h; done) | skip
  all_goals first | (cases e; done) | skip
  all_goals first | exact .inl ⟨rfl, (Option.some.inj e).symm⟩ | exact .inr ⟨_, _, rfl, rfl, by rw [← Option.some.inj e, Bool.beq_eq_decide_eq]⟩
theorem notN_inv {a b : W} {r : Bool} (e : cmpW .notN a b = some r) : (b = .non ∧ r = !isNon a) ∨ ∃ p q, a = .bl p ∧ b = .bl q ∧ r = !decide (p = q) := by
  unfold cmpW at e
  split at e <;> first | (rename_i h; cases h; done) | skip
  all_goals first | (cases e; done) | skip
  all_goals first | exact .inl ⟨rfl, (Option.some.inj e).symm⟩ | exact .inr ⟨_, _, rfl, rfl, by rw [← Option.some.inj e, Bool.beq_eq_decide_eq]⟩
theorem isN_sem {x : V} {a : W} (hx : RdX T g H x a) : decide (x = .non) = isNon a := by
  cases a with
  | non => rw [rdx_non hx]; rfl
  | bl b => rw [rdx_bl hx]; rfl
  | int b => rw [rdx_int hx]; rfl
  | str b => rw [rdx_str hx]; rfl
  | tup ws => obtain ⟨a, xs, e, _⟩ := rdx_tup hx; rw [e]; rfl
  | lst ws => obtain ⟨a, xs, e, _⟩ := rdx_lst hx; rw [e]; rfl
  | ro ws => obtain ⟨a, xs, e, _⟩ := rdx_ro hx; rw [e]; rfl
  | dct ws => obtain ⟨a, xs, e, _⟩ := rdx_dct hx; rw [e]; rfl
  | ins c ws => obtain ⟨a, xs, ys, e, _⟩ := rdx_ins hx; rw [e]; rfl
  | ref n => rw [(rdx_ref hx).1]; rfl
def Ord (f : Int → Int → Bool) (h : Str → Str → Bool) (a b : W) (r : Bool) : Prop := (∃ i j, a = .int i ∧ b = .int j ∧ r = f i j) ∨ ∃ i j, a = .str i ∧ b = .str j ∧ r = h i j
theorem ord_lt {a b : W} {r : Bool} (e : cmpW .lt a b = some r) : Ord (fun i j => decide (i < j)) ltS a b r := by
  unfold cmpW at e
  split at e <;> first | (rename_i h; cases h; done) | skip
  all_goals first | (cases e; done) | skip
  · exact .inl ⟨_, _, rfl, rfl, (Option.some.inj e).symm⟩
  · exact .inr ⟨_, _, rfl, rfl, (Option.some.inj e).symm⟩
theorem ord_le {a b : W} {r : Bool} (e : cmpW .le a b = some r) : Ord (fun i j => decide (i ≤ j)) (fun i j => !ltS j i) a b r := by
  unfold cmpW at e
  split at e <;> first | (rename_i h; cases h; done) | skip
  all_goals first | (cases e; done) | skip
  · exact .inl ⟨_, _, rfl, rfl, (Option.some.inj e).symm⟩
  · exact .inr ⟨_, _, rfl, rfl, (Option.some.inj e).symm⟩
theorem ord_gt {a b : W} {r : Bool} (e : cmpW .gt a b = some r) : Ord (fun i j => decide (j < i)) (fun i j => ltS j i) a b r := by
  unfold cmpW at e
  split at e <;> first | (rename_i h; cases h; done) | skip
  all_goals first | (cases e; done) | skip
  · exact .inl ⟨_, _, rfl, rfl, (Option.some.inj e).symm⟩
  · exact .inr ⟨_, _, rfl, rfl, (Option.some.inj e).symm⟩
theorem ord_ge {a b : W} {r : Bool} (e : cmpW .ge a b = some r) : Ord (fun i j => decide (j ≤ i)) (fun i j => !ltS i j) a b r := by
  unfold cmpW at e
  split at e <;> first | (rename_i h; cases h; done) | skip
  all_goals first | (cases e; done) | skip
  · exact .inl ⟨_, _, rfl, rfl, (Option.some.inj e).symm⟩
  · exact .inr ⟨_, _, rfl, rfl, (Option.some.inj e).symm⟩
theorem ord_sem {f : Int → Int → Bool} {h : Str → Str → Bool} {x y : V} {a b : W} {r : Bool} {Q : V → Hp → Prop} (hx : RdX T g H x a) (hy : RdX T g H y b) (e : Ord f h a b r) (q : Q (.bl r) H) : rOrS f h x y H Q := by
  rcases e with ⟨i, j, rfl, rfl, rfl⟩ | ⟨i, j, rfl, rfl, rfl⟩
  · exact .inl ⟨i, j, rdx_int hx, rdx_int hy, q⟩
  · exact .inr ⟨i, j, rdx_str hx, rdx_str hy, q⟩
theorem paired_getX {α β : Type} {F : α → β → Prop} {xs : List α} {ys : List β} (h : Paired F xs ys) : ∀ (j : Nat) x, xs[j]? = some x → ∃ y, ys[j]? = some y ∧ F x y := by
  induction h with
  | nil => intro j x e; cases e
  | cons a _ ih =>
    intro j x e
    cases j with
    | zero => cases e; exact ⟨_, rfl, a⟩
    | succ j => exact ih j x e
/-- what the items say -/
def eqAtW (f : W → W → Option Bool) (xs ys : List W) (j : Nat) : Bool := ((xs[j]?).bind fun u => (ys[j]?).bind fun v => f u v).getD true
theorem eqZ_ok {f : W → W → Option Bool} : ∀ {xs ys : List W} {r : Bool}, eqZ f xs ys = some r → (∀ (j : Nat) u v, xs[j]? = some u → ys[j]? = some v → f u v = some (eqAtW f xs ys j)) ∧ r = (List.range (min xs.length ys.length)).all (eqAtW f xs ys)
  | [], ys, r, h => by
    unfold eqZ at h
    cases h
    exact ⟨(fun j u v e _ => by cases e), by simp⟩
  | x :: xs, [], r, h => by
    unfold eqZ at h
    cases h
    exact ⟨(fun j u v _ e => by cases e), by simp⟩
  | x :: xs, y :: ys, r, h => by
    unfold eqZ at h
    split at h
    · rename_i a b ha hb
      cases h
      obtain ⟨i1, i2⟩ := eqZ_ok hb
      have e0 : eqAtW f (x :: xs) (y :: ys) 0 = a := by unfold eqAtW; simp [ha]
      have es : ∀ j, eqAtW f (x :: xs) (y :: ys) (j + 1) = eqAtW f xs ys j := fun j => rfl
      refine ⟨fun j u v e1 e2 => ?_, ?_⟩
      · cases j with
        | zero => cases e1; cases e2; rw [e0, ha]
        | succ j => rw [es]; exact i1 j u v e1 e2
      · have em : min (x :: xs).length (y :: ys).length = min xs.length ys.length + 1 := by simp only [List.length_cons]; omega
        rw [em, List.range_succ_eq_map, List.all_cons, e0, List.all_map, i2]
        rfl
    · cases h
theorem eqKs_ok {f : W → W → Option Bool} {E : V → V → Bool → Prop} (hE : ∀ x y a b r, RepX T g H x a → RepX T g H y b → f a b = some r → E x y r) {ls : List (Key × V)} {lws : List (Key × W)} (pl : Paired (fun (p : Key × V) (q : Key × W) => p.1 = q.1 ∧ RepX T g H p.2 q.2) ls lws) {ks : List (Key × V)} {kws : List (Key × W)} (pk : Paired (fun (p : Key × V) (q : Key × W) => p.1 = q.1 ∧ RepX T g H p.2 q.2) ks kws) : ∀ {r : Bool}, eqKs f lws kws = some r → Wq.Hit E ls ks r := by
  induction pk with
  | nil => intro r h; unfold eqKs at h; cases h; exact .nil
  | @cons p q ps qs a _ ih =>
    intro r h
    obtain ⟨k, v⟩ := p
    obtain ⟨a1, a2⟩ := a
    have a1 : k = q.1 := a1
    unfold eqKs at h
    rcases val_paired pl k with ⟨n1, n2⟩ | ⟨w, x, n1, n2, n3⟩
    · rw [← a1, n1] at h
      cases h
      exact .miss n2
    · rw [← a1, n1] at h
      dsimp only at h
      split at h
      · rename_i b1 b2 h1 h2
        cases h
        exact .hit n2 (hE _ _ _ _ _ a2 n3 h1) (ih h2)
      · cases h
theorem keys_pairedX {ks : List (Key × V)} {kws : List (Key × W)} (pk : Paired (fun (p : Key × V) (q : Key × W) => p.1 = q.1 ∧ RepX T g H p.2 q.2) ks kws) : ks.map (·.1) = kws.map (·.1) := by
  induction pk with
  | nil => rfl
  | cons a _ ih => rw [List.map_cons, List.map_cons, ih, a.1]
theorem eqD_tup {n : Nat} (ih : ∀ x y a b r, RdX T g H x a → RdX T g H y b → eqD n a b = some r → Wq.EqB T.K H n x y r) {x y : V} {xs ys : List W} {r : Bool} (hx : RdX T g H x (.tup xs)) (hy : RdX T g H y (.tup ys)) (h : eqD (n + 1) (.tup xs) (.tup ys) = some r) : Wq.EqC T.K H (Wq.EqB T.K H n) x y r := by
  obtain ⟨p, us, e1, h1, r1⟩ := rdx_tup hx
  obtain ⟨q, vs, e2, h2, r2⟩ := rdx_tup hy
  have h : (eqZ (eqD n) xs ys).map (fun r => r && xs.length == ys.length) = some r := h
  cases hz : eqZ (eqD n) xs ys with
  | none => rw [hz] at h; cases h
  | some z =>
    rw [hz] at h
    cases h
    obtain ⟨i1, i2⟩ := eqZ_ok hz
    refine .inl ⟨p, q, us, vs, eqAtW (eqD n) xs ys, e1, e2, h1, h2, fun j u v eu ev => ?_, ?_⟩
    · obtain ⟨a, ea, ra⟩ := paired_getX r1 j u eu
      obtain ⟨b, eb, rb⟩ := paired_getX r2 j v ev
      exact ih u v a b _ ra.rdX rb.rdX (i1 j a b ea eb)
    · unfold Wq.tb
      rw [i2, Paired.length r1, Paired.length r2]
theorem eqD_dct {n : Nat} (ih : ∀ x y a b r, RdX T g H x a → RdX T g H y b → eqD n a b = some r → Wq.EqB T.K H n x y r) {x y : V} {xs ys : List (Key × W)} {r : Bool} (hx : RdX T g H x (.dct xs)) (hy : RdX T g H y (.dct ys)) (h : eqD (n + 1) (.dct xs) (.dct ys) = some r) : Wq.EqC T.K H (Wq.EqB T.K H n) x y r := by
  obtain ⟨p, us, e1, h1, r1⟩ := rdx_dct hx
  obtain ⟨q, vs, e2, h2, r2⟩ := rdx_dct hy
  have h : (if (xs.map (·.1)).Nodup then (if xs.length = ys.length then eqKs (eqD n) ys xs else some false) else none) = some r := h
  split at h
  · rename_i nd
    rw [← keys_pairedX r1] at nd
    have l1 := Paired.length r1
    have l2 := Paired.length r2
    split at h
    · rename_i hl
      have k := eqKs_ok (f := eqD n) (E := Wq.EqB T.K H n) (fun x y a b r ra rb e => ih x y a b r ra.rdX rb.rdX e) r2 r1 h
      exact .inr ⟨p, q, us, vs, r, e1, e2, h1, h2, nd, fun _ => k, by rw [l1, l2, hl]; simp⟩
    · rename_i hl
      cases h
      exact .inr ⟨p, q, us, vs, true, e1, e2, h1, h2, nd, fun e => absurd (by rw [← l1, ← l2]; exact e) hl, by rw [l1, l2]; simp [hl]⟩
  · cases h
theorem eqD_lst {n : Nat} (ih : ∀ x y a b r, RdX T g H x a → RdX T g H y b → eqD n a b = some r → Wq.EqB T.K H n x y r) {x y : V} {xs ys : List W} {r : Bool} (hx : RdX T g H x (.lst xs)) (hy : RdX T g H y (.lst ys)) (h : eqD (n + 1) (.lst xs) (.lst ys) = some r) : Wq.EqL T.K H (Wq.EqB T.K H n) x y r := by
  obtain ⟨p, us, e1, h1, r1⟩ := rdx_lst hx
  obtain ⟨q, vs, e2, h2, r2⟩ := rdx_lst hy
  have h : (if xs.length = ys.length then eqZ (eqD n) xs ys else none) = some r := h
  split at h
  · rename_i hl
    obtain ⟨i1, i2⟩ := eqZ_ok h
    have l1 := Paired.length r1
    have l2 := Paired.length r2
    refine ⟨p, q, us, vs, eqAtW (eqD n) xs ys, e1, e2, .inl h1, .inl h2, fun j u v eu ev => ?_, by omega, ?_⟩
    · obtain ⟨a, ea, ra⟩ := paired_getX r1 j u eu
      obtain ⟨b, eb, rb⟩ := paired_getX r2 j v ev
      exact ih u v a b _ ra.rdX rb.rdX (i1 j a b ea eb)
    · rw [i2, l1, ← hl, Nat.min_self]
  · cases h
theorem eqD_sem : ∀ (n : Nat) (x y : V) (a b : W) (r : Bool), RdX T g H x a → RdX T g H y b → eqD n a b = some r → Wq.EqB T.K H n x y r
  | 0, _, _, _, _, _, _, _, h => by cases h
  | n + 1, x, y, a, b, r, hx, hy, h => by
    have ih := eqD_sem n
    by_cases ht : ∃ xs ys, a = .tup xs ∧ b = .tup ys
    · obtain ⟨xs, ys, rfl, rfl⟩ := ht
      exact .inr (.inl (eqD_tup ih hx hy h))
    by_cases hd : ∃ xs ys, a = .dct xs ∧ b = .dct ys
    · obtain ⟨xs, ys, rfl, rfl⟩ := hd
      exact .inr (.inl (eqD_dct ih hx hy h))
    by_cases hl : ∃ xs ys, a = .lst xs ∧ b = .lst ys
    · obtain ⟨xs, ys, rfl, rfl⟩ := hl
      exact .inr (.inr (eqD_lst ih hx hy h))
    unfold eqD at h
    split at h
    · rename_i xs ys
      exact absurd ⟨xs, ys, rfl, rfl⟩ ht
    · rename_i xs ys
      exact absurd ⟨xs, ys, rfl, rfl⟩ hl
    · rename_i xs ys
      exact absurd ⟨xs, ys, rfl, rfl⟩ hd
    · split at h
      · rename_i hf
        rw [Bool.and_eq_true] at hf
        cases h
        obtain ⟨e1, f1⟩ := flat_rdx hx hf.1
        obtain ⟨e2, f2⟩ := flat_rdx hy hf.2
        refine .inl ⟨f1, f2, ?_⟩
        rw [e1, e2, eqF_V hf.1 hf.2]
      · cases h
theorem eqTop_sem {l : Bool} {x y : V} {a b : W} {r : Bool} (hx : RdX T g H x a) (hy : RdX T g H y b) (h : eqTop l a b = some r) : Wq.EqC T.K H (Wq.EqB T.K H 7) x y r ∨ (l = true ∧ Wq.EqL T.K H (Wq.EqB T.K H 7) x y r) := by
  unfold eqTop at h
  split at h
  · exact .inl (eqD_tup (eqD_sem 7) hx hy h)
  · exact .inl (eqD_dct (eqD_sem 7) hx hy h)
  · split at h
    · rename_i hl
      exact .inr ⟨hl, eqD_lst (eqD_sem 7) hx hy h⟩
    · cases h
  · cases h
theorem cmp_sem {o : Cmp} {x y : V} {a b : W} {r : Bool} {Q : V → Hp → Prop} (hx : RdX T g H x a) (hy : RdX T g H y b) (e : cmpW o a b = some r) (q : Q (.bl r) H) : rCmp T.K o x y H Q := by
  cases o with
  | eq =>
    obtain ⟨d, e', h1, h2, s1, s2, rfl⟩ := eqW_inv (show eqW a b = some r from e)
    exact ⟨d, e', dp_rdx hx h1, dp_rdx hy h2, s1, s2, q⟩
  | ne =>
    cases hq : eqW a b with
    | none => rw [show cmpW .ne a b = (eqW a b).map (! ·) from rfl, hq] at e; cases e
    | some r' =>
      rw [show cmpW .ne a b = (eqW a b).map (! ·) from rfl, hq] at e; cases e
      obtain ⟨d, e', h1, h2, s1, s2, rfl⟩ := eqW_inv hq
      exact ⟨d, e', dp_rdx hx h1, dp_rdx hy h2, s1, s2, q⟩
  | deq =>
    rcases eqTop_sem hx hy (show eqTop true a b = some r from e) with h | ⟨_, h⟩
    · exact ⟨7, r, by omega, .inl h, q⟩
    · exact ⟨7, r, by omega, .inr h, q⟩
  | dne =>
    cases hq : eqTop false a b with
    | none => rw [show cmpW .dne a b = (eqTop false a b).map (! ·) from rfl, hq] at e; cases e
    | some r' =>
      rw [show cmpW .dne a b = (eqTop false a b).map (! ·) from rfl, hq] at e; cases e
      rcases eqTop_sem hx hy hq with h | ⟨h, _⟩
      · exact ⟨7, r', by omega, h, q⟩
      · cases h
  | lt => exact ord_sem hx hy (f := fun i j => decide (i < j)) (h := ltS) (ord_lt e) q
  | le => exact ord_sem hx hy (f := fun i j => decide (i ≤ j)) (h := fun i j => !ltS j i) (ord_le e) q
  | gt => exact ord_sem hx hy (f := fun i j => decide (j < i)) (h := fun i j => ltS j i) (ord_gt e) q
  | ge => exact ord_sem hx hy (f := fun i j => decide (j ≤ i)) (h := fun i j => !ltS i j) (ord_ge e) q
  | isIn => exact in_sem (neg := false) hx hy (show inW a b = some r from e) q
  | notIn =>
    cases hq : inW a b with
    | none => rw [show cmpW .notIn a b = (inW a b).map (! ·) from rfl, hq] at e; cases e
    | some r' =>
      rw [show cmpW .notIn a b = (inW a b).map (! ·) from rfl, hq] at e; cases e
      exact in_sem (neg := true) hx hy hq q
  | isN =>
    rcases isN_inv e with ⟨rfl, e1⟩ | ⟨p, q', rfl, rfl, e1⟩
    · exact .inl ⟨rdx_non hy, by rw [isN_sem hx, ← e1]; exact q⟩
    · exact .inr ⟨p, q', rdx_bl hx, rdx_bl hy, by rw [← e1]; exact q⟩
  | notN =>
    rcases notN_inv e with ⟨rfl, e1⟩ | ⟨p, q', rfl, rfl, e1⟩
    · exact .inl ⟨rdx_non hy, by rw [isN_sem hx, ← e1]; exact q⟩
    · exact .inr ⟨p, q', rdx_bl hx, rdx_bl hy, by rw [← e1]; exact q⟩
theorem if_some {α : Type} {p : Prop} [Decidable p] {x y : α} (h : (if p then some x else none) = some y) : p ∧ x = y := by
  split at h
  · exact ⟨by assumption, Option.some.inj h⟩
  · cases h
theorem isEmpty_paired {α β : Type} {F : α → β → Prop} {a : List α} {c : List β} (h : Paired F a c) : a.isEmpty = c.isEmpty := by cases h <;> rfl
theorem tru_sem {x : V} {w : W} {r : Bool} (h : RdX T g H x w) (e : truW w = some r) : L2.TruV T.K x H r := by
  cases w with
  | non => rw [rdx_non h]; cases e; exact rfl
  | bl b => rw [rdx_bl h]; cases e; exact rfl
  | int b => rw [rdx_int h]; cases e; exact rfl
  | str b =>
    rw [rdx_str h]
    obtain ⟨hz, e1⟩ := if_some (show (if b.length ≤ sizeL then some ((b.length : Int) != 0) else none) = some r from e)
    exact ⟨by rw [← sizeL_eq]; exact hz, e1.symm⟩
  | lst ws =>
    obtain ⟨a, xs, ex, hr, r⟩ := rdx_lst h
    cases e
    rw [ex]
    exact .inl ⟨xs, .inl hr, by rw [isEmpty_paired r]⟩
  | ro ws =>
    obtain ⟨a, xs, ex, hr, r⟩ := rdx_ro h
    cases e
    rw [ex]
    exact .inl ⟨xs, hr, by rw [isEmpty_paired r]⟩
  | tup ws =>
    obtain ⟨a, xs, ex, hr, r⟩ := rdx_tup h
    cases e
    rw [ex]
    exact .inr (.inl ⟨xs, hr, by rw [isEmpty_paired r]⟩)
  | _ => cases e
theorem at_paired {F : V → W → Prop} {xs : List V} {ws : List W} (r : Paired F xs ws) {i : Int} {w : W} (h : L2.atI ws i = some w) : ∃ x, L2.atI xs i = some x ∧ F x w := by
  unfold L2.atI at h ⊢
  rw [r.length]
  cases q : L2.ixN ws.length i with
  | none => rw [q] at h; cases h
  | some j =>
    rw [q] at h
    exact paired_get r h
theorem sub_sem {x y : V} {a i w : W} {Q : V → Hp → Prop} (hx : RdX T g H x a) (hy : RdX T g H y i) (e : subW a i = some w) (q : ∀ v, RepX T g H v w → Q v H) :
    L2.rIx T.K x y H Q ∨ ∃ p v, x = .ref p ∧ L2.DGet H p y (some v) ∧ Q v H := by
  unfold subW at e
  split at e
  · obtain ⟨p, xs, e1, h1, r1⟩ := rdx_lst hx
    obtain ⟨v, e2, r2⟩ := at_paired r1 e
    exact .inl (.inl ⟨p, xs, _, v, e1, rdx_int hy, .inl h1, e2, q v r2⟩)
  · obtain ⟨p, xs, e1, h1, r1⟩ := rdx_ro hx
    obtain ⟨v, e2, r2⟩ := at_paired r1 e
    exact .inl (.inl ⟨p, xs, _, v, e1, rdx_int hy, h1, e2, q v r2⟩)
  · obtain ⟨p, xs, e1, h1, r1⟩ := rdx_tup hx
    obtain ⟨v, e2, r2⟩ := at_paired r1 e
    exact .inl (.inr (.inl ⟨p, xs, _, v, e1, rdx_int hy, h1, e2, q v r2⟩))
  · split at e
    · rename_i z k hz
      cases hc : L2.atI z.cps.toList k with
      | none => rw [hc] at e; cases e
      | some c =>
        rw [hc] at e; cases e
        exact .inl (.inr (.inr ⟨z, k, c, rdx_str hx, rdx_int hy, by rw [← sizeL_eq]; exact hz, hc, q _ repX_str⟩))
    · cases e
  · cases hk : keyW i with
    | none => rw [hk] at e; cases e
    | some k =>
      rw [hk] at e
      obtain ⟨p, o, e1, d, ho⟩ := get_rdx hx hy hk
      rcases ho with ⟨h1, rfl⟩ | ⟨w', v, h1, rfl, h3⟩
      · rw [Option.bind_some, h1] at e; cases e
      · rw [Option.bind_some, h1] at e; cases e
        exact .inr ⟨p, v, e1, d, q v h3⟩
  · cases e
end
end Wb

namespace Wb
open PySem PySem.Spec PyProof.Rows
open L2 (V Hp HO Rd upd upd_same upd_ne SqL SqT VK TE TT TA TS TG TI TO Ends WX XK R2 Cx Inv RelV Vals ne_of_none PE PT PA PS PSs PG PI OpR UnR CallR MtR Gl Vis Loc)

/-- what a context must have -/
structure XG (X : Cx) (T : Tx) : Prop where
  eK : X.K = T.K
  eP : X.prog = T.prog
  eW : X.w = T.w
  eB : X.base = T.base
  eM : X.mg = T.mg
  nd : X.N.Nodup
  hu : X.A.units + 64 < cLine
  calm : X.calm = true

section
variable {T : Tx} {g g' : Gh} {H H' H0 : Hp} {q : Bool}
theorem held_rdx {x : V} {w : W} (h : Res T (.held q) H0 g H x w) (e : Ext q g H g' H') : RdX T g' H' x w := by
  cases q with
  | true => exact RdX.extQ e h
  | false => exact (RdS.ext e h).rdX
theorem resB_V {x : V} {w : W} (h : Res T .V H0 g H x w) : RdX T g H x w := .inl h
end

def okx : Expr → Bool
  | .Starred _ _ => false
  | .Slice _ _ _ _ => false
  | .Set _ _ _ => false
  | .Call (.Name x _) [] [] _ => x != "super"
  | _ => true
def okxs (es : List Expr) : Bool := es.all okx
theorem star_cons {env : PySem.Env} {e : Expr} (h : okx e = true) (es : List Expr) : starEach (e :: es) env = (false, eval e env) :: starEach es env := by
  cases e <;> first | rfl | exact absurd h Bool.false_ne_true
theorem star_none {env : PySem.Env} : ∀ {es : List Expr}, okxs es = true → ∀ pos : Pos, (backTo pos (starEach es env)).any (·.1) = false
  | [], _, pos => rfl
  | e :: es, h, pos => by
    have h' : (okx e && okxs es) = true := h
    rw [Bool.and_eq_true] at h'
    rw [star_cons h'.1]
    show (false || (backTo pos (starEach es env)).any (·.1)) = false
    rw [star_none h'.2 pos]
    rfl
theorem base_ok {env : PySem.Env} {e : Expr} (h : okx e = true) (f : Str) : attributeBase e f env (eval e env) = eval e env := by
  unfold attributeBase
  split
  · rename_i id p pos
    have hn : (id != "super") = true := h
    simp [hn]
  · rfl
theorem plain_ix {b : Expr} (h : okx b = true) : L2.PlainIx b := by
  intro o i
  cases b <;> first | rfl | exact absurd h Bool.false_ne_true
theorem no_mark {b : Expr} (h : okx b = true) (op : CmpOp) : behindInMarks op b = false := by
  cases b <;> first | rfl | exact absurd h Bool.false_ne_true

section
variable {X : Cx} {T : Tx} {W' : WX} {c : Ctx} {pos : Pos}
theorem se_var {i : Nat} {x : Str} (hN : X.N[i]? = some x) (hv : Vis X.env.scope x) (hd : (x == ("__debug__" : Str)) = false) (hcd : (x == ("__classdict__" : Str)) = false) : PE X (.Name x pos) (tE T W' c (.var i)) := by
  refine pe_imp (L2.pe_var hN hv hd hcd) fun σ H Q ⟨g, env, S, s, p⟩ => ?_
  unfold ev at p
  split at p
  · rename_i w hw
    by_cases hc : c = .F
    · simp only [hc, if_true] at p
      exact p.elim
    · simp only [hc, if_false] at p
      obtain ⟨x, ex, r⟩ := s.slots i _ _ hw
      exact ⟨x, ex, Post.val hc s r p⟩
  · rename_i fl w hfl hw
    by_cases hc : c = .B ∨ c = .S
    · simp only [hc, if_true] at p
      have key : ∃ a, σ[i]? = some (some (.ref a)) ∧ g.L a = .slot i ∧ ∃ fl, Own T g H fl a w := by
        have z := s.slots i _ _ hw
        cases fl with
        | v => exact absurd rfl hfl
        | o => obtain ⟨a, h1, h2, h3⟩ := z; exact ⟨a, h1, h2, _, h3⟩
        | k => obtain ⟨a, h1, h2, h3⟩ := z; exact ⟨a, h1, h2, _, h3⟩
      obtain ⟨a, h1, h2, fl, h3⟩ := key
      refine ⟨.ref a, h1, p _ g H Ext.refl s ?_⟩
      rcases hc with rfl | rfl
      · exact .inr ⟨a, fl, rfl, h3⟩
      · exact .inr ⟨a, fl, rfl, h3, .inr ⟨i, h2⟩, h3.some⟩
    · simp only [hc, if_false] at p
      exact p.elim
  · exact p.elim
/-- a value that is the same in every state -/
def Stable (T : Tx) (v : V) (w : W) : Prop := ∀ g H, RepX T g H v w
theorem se_const {e : Expr} {v : V} {w : W} {ir : E} (h : PE X e (L2.tC v)) (r : Stable T v w) (he : ∀ c env S, ev c ir env S = ofW c (some w) S) : PE X e (tE T W' c ir) := by
  refine pe_imp h fun σ H Q ⟨g, env, S, s, p⟩ => ?_
  rw [he] at p
  obtain ⟨w', e1, hc, p⟩ := ofW_ok p
  cases e1
  exact Post.val hc s (r g H) p
theorem se_bin {a b : Expr} {a' b' : E} {o : Bin} (ha : PE X a (tE T W' (.held (quiet b')) a')) (hb : PE X b (tE T W' .B b')) : PE X (.BinOp a (opOf o) b pos) (tE T W' c (.bin o a' b')) := by
  refine pe_imp (L2.pe_op (binOk o) ha hb) fun σ H Q ⟨g, env, S, s, p⟩ => ?_
  unfold ev at p
  refine ⟨g, env, S, s, Post.bind (qa := quiet a') (qb := quiet b') bm_res (by simp [quiet]) p fun av S1 x g1 H1 _ e1 s1 r1 p1 => ?_⟩
  refine ⟨g1, env, S1, s1, Post.bind (qa := quiet b') (qb := true) bm_res (by simp) p1 fun bv S2 y g2 H2 _ e2 s2 r2 p2 => ?_⟩
  obtain ⟨fr, w, e, hc, p3⟩ := ofPV_ok p2
  exact bin_sem s2 (held_rdx r1 e2) r2 e hc p3
theorem se_neg {a : Expr} {a' : E} (ha : PE X a (tE T W' .B a')) : PE X (.UnaryOp .USub a pos) (tE T W' c (.neg a')) := by
  refine pe_imp (L2.pe_un L2.un_neg ha) fun σ H Q ⟨g, env, S, s, p⟩ => ?_
  unfold ev at p
  refine ⟨g, env, S, s, Post.bind (qa := quiet a') (qb := true) bm_res (by simp [quiet]) p fun av S1 x g1 H1 _ e1 s1 r1 p1 => ?_⟩
  split at p1
  · obtain ⟨w, e, hc, p3⟩ := ofW_ok p1
    cases e
    exact ⟨_, rdx_int r1, Post.val hc s1 repX_int p3⟩
  · exact p1.elim
theorem ofB_ok {T : Tx} {W' : WX} {q : Bool} {g : Gh} {env : Env} {σ : L2.St} {H : Hp} {c : Ctx} {p : Option Bool} {S : Store} {Q : V → Hp → Prop} (h : Post T W' q (Res T c) g env σ H (ofB c p S) Q) : ∃ b, p = some b ∧ c ≠ .F ∧ Post T W' q (Res T c) g env σ H (.ok (.bl b) S) Q := by
  obtain ⟨w, e, hc, h⟩ := ofW_ok h
  cases p with
  | none => cases e
  | some b => cases e; exact ⟨b, rfl, hc, h⟩
theorem se_cmp (G : XG X T) {a b : Expr} {a' b' : E} {o : Cmp} (ha : PE X a (tE T W' (.held (quiet b')) a')) (hb : PE X b (tE T W' .B b')) (ok : okx b = true) : PE X (.Compare a [cmpOf o] [b] pos) (tE T W' c (.cmp o a' b')) := by
  have z := cmpOk G.hu o
  rw [G.eK] at z
  refine pe_imp (L2.pe_cmpR z ha hb (no_mark ok _)) fun σ H Q ⟨g, env, S, s, p⟩ => ?_
  unfold ev at p
  refine ⟨g, env, S, s, Post.bind (qa := quiet a') (qb := quiet b') bm_res (by simp [quiet]) p fun av S1 x g1 H1 _ e1 s1 r1 p1 => ?_⟩
  refine ⟨g1, env, S1, s1, Post.bind (qa := quiet b') (qb := true) bm_res (by simp) p1 fun bv S2 y g2 H2 _ e2 s2 r2 p2 => ?_⟩
  obtain ⟨k, e, hc, p3⟩ := ofB_ok p2
  exact cmp_sem (held_rdx r1 e2) r2 e (Post.val hc s2 repX_bl p3)
theorem st_cmp (G : XG X T) {a b : Expr} {a' b' : E} {o : Cmp} (ha : PE X a (tE T W' (.held (quiet b')) a')) (hb : PE X b (tE T W' .B b')) (ok : okx b = true) : PT X (.Compare a [cmpOf o] [b] pos) (tT T W' (.cmp o a' b')) := by
  have z := cmpOk G.hu o
  rw [G.eK] at z
  refine pt_imp (L2.pt_cmpR z ha hb (no_mark ok _)) fun σ H Q ⟨g, env, S, s, p⟩ => ?_
  unfold evt ev at p
  refine ⟨g, env, S, s, ?_⟩
  revert p
  cases hx : ev (.held (quiet b')) a' env S with
  | bad => exact fun p => p
  | exn cc fs S' => exact fun p => p
  | ok av S1 =>
    rw [R.bind_ok]
    intro p x g1 H1 e1 s1 r1
    refine ⟨g1, env, S1, s1, ?_⟩
    revert p
    cases hy : ev .B b' env S1 with
    | bad => exact fun p => p
    | exn cc fs S' => exact fun p d g' H' e' s' k => p d g' H' ((e1.weak (by simp)).trans e') s' k
    | ok bv S2 =>
      rw [R.bind_ok]
      intro p y g2 H2 e2 s2 r2
      cases hk : cmpW o av bv with
      | none =>
        rw [hk] at p
        exact p.elim
      | some k =>
        rw [hk] at p
        refine cmp_sem (held_rdx r1 e2) r2 hk ⟨k, rfl, ?_⟩
        exact p k g2 H2 ((e1.trans' e2).weak (by simp [quiet])) s2 rfl
theorem chain_sem {a' b' d' : E} {o1 o2 : Cmp} {σ : L2.St} {H : Hp} {Q : VK} (h : tE T W' c (.chain o1 o2 a' b' d') σ H Q) : L2.tChain (rCmp T.K o1) (rCmp T.K o2) (tE T W' .V a') (tE T W' .V b') (tE T W' .V d') σ H Q := by
  obtain ⟨g, env, S, s, p⟩ := h
  unfold ev at p
  refine ⟨g, env, S, s, Post.bind (qa := quiet a') (qb := quiet b' && quiet d') bm_res (by simp [quiet, Bool.and_assoc]) p fun av S1 x g1 H1 _ e1 s1 r1 p1 => ?_⟩
  refine ⟨g1, env, S1, s1, Post.bind (qa := quiet b') (qb := quiet d') bm_res (by simp) p1 fun bv S2 y g2 H2 _ e2 s2 r2 p2 => ?_⟩
  have r1' := e2.stay.repX r1
  split at p2
  · rename_i hk
    refine cmp_sem r1'.rdX (resB_V r2) hk ⟨true, rfl, ?_⟩
    rw [if_pos rfl]
    refine ⟨g2, env, S2, s2, Post.bind (qa := quiet d') (qb := true) bm_res (by simp) p2 fun dv S3 w g3 H3 _ e3 s3 r3 p3 => ?_⟩
    obtain ⟨k, e, hc, p4⟩ := ofB_ok p3
    exact cmp_sem (e3.stay.repX r2).rdX (resB_V r3) e (Post.val hc s3 repX_bl p4)
  · rename_i hk
    refine cmp_sem r1'.rdX (resB_V r2) hk ⟨false, rfl, ?_⟩
    rw [if_neg Bool.false_ne_true]
    obtain ⟨k, e, hc, p4⟩ := ofB_ok p2
    cases e
    exact Post.val hc s2 repX_bl p4
  · exact p2.elim
theorem se_chain (G : XG X T) {a b d : Expr} {a' b' d' : E} {o1 o2 : Cmp} (ha : PE X a (tE T W' .V a')) (hb : PE X b (tE T W' .V b')) (hd : PE X d (tE T W' .V d')) (ok : okx d = true) : PE X (.Compare a [cmpOf o1, cmpOf o2] [b, d] pos) (tE T W' c (.chain o1 o2 a' b' d')) := by
  have z1 := cmpOk G.hu o1
  have z2 := cmpOk G.hu o2
  rw [G.eK] at z1 z2
  exact pe_imp (L2.pe_chain z1 z2 ha hb hd (no_mark ok _)) fun σ H Q h => chain_sem h
theorem ofB_bl {p : Option Bool} {S S' : Store} {w : W} (h : ofB c p S = .ok w S') : ∃ k, w = .bl k := by
  cases p with
  | none => cases h
  | some b =>
    unfold ofB ofW at h
    dsimp only [Option.map] at h
    split at h
    · cases h
    · cases h; exact ⟨b, rfl⟩
theorem R.bind_inv {α β : Type} {r : R α} {f : α → Store → R β} {b : β} {S : Store} (h : r.bind f = .ok b S) : ∃ a S1, r = .ok a S1 ∧ f a S1 = .ok b S := by
  cases r with
  | ok a S1 => exact ⟨a, S1, rfl, h⟩
  | exn _ _ _ => cases h
  | bad => cases h
theorem chain_bl {a' b' d' : E} {o1 o2 : Cmp} {env : Env} {S S' : Store} {w : W} (h : ev c (.chain o1 o2 a' b' d') env S = .ok w S') : ∃ k, w = .bl k := by
  unfold ev at h
  obtain ⟨x, S1, _, h⟩ := R.bind_inv h
  obtain ⟨y, S2, _, h⟩ := R.bind_inv h
  split at h
  · obtain ⟨z, S3, _, h⟩ := R.bind_inv h
    exact ofB_bl h
  · exact ofB_bl h
  · cases h
theorem st_chain (G : XG X T) {a b d : Expr} {a' b' d' : E} {o1 o2 : Cmp} (ha : PE X a (tE T W' .V a')) (hb : PE X b (tE T W' .V b')) (hd : PE X d (tE T W' .V d')) (ok : okx d = true) : PT X (.Compare a [cmpOf o1, cmpOf o2] [b, d] pos) (tT T W' (.chain o1 o2 a' b' d')) := by
  have z1 := cmpOk G.hu o1
  have z2 := cmpOk G.hu o2
  rw [G.eK] at z1 z2
  refine pt_imp (L2.pt_chain z1 z2 ha hb hd (no_mark ok _)) fun σ H Q ⟨g, env, S, s, p⟩ => chain_sem (c := .B) ⟨g, env, S, s, ?_⟩
  unfold evt at p
  refine Post.bind (Ka := Res T .B) (qb := true) bm_resB (by simp) p fun av S1 x g1 H1 ea e1 s1 r1 p1 => ?_
  obtain ⟨k, rfl⟩ := chain_bl ea
  exact ⟨k, rdx_bl r1, p1 k g1 H1 Ext.refl s1 rfl⟩
theorem se_and {a b : Expr} {rest : List Expr} {a' b' : E} (ha : PE X a (tE T W' .B a')) (hb : PE X (.BoolOp .And (b :: rest) pos) (tE T W' c b')) : PE X (.BoolOp .And (a :: b :: rest) pos) (tE T W' c (.and a' b')) := by
  refine pe_imp (L2.pe_and ha hb) fun σ H Q ⟨g, env, S, s, p⟩ => ?_
  unfold ev at p
  refine ⟨g, env, S, s, Post.bind (qa := quiet a') (qb := quiet b') bm_res (by simp [quiet]) p fun av S1 x g1 H1 _ e1 s1 r1 p1 => ?_⟩
  unfold selB at p1
  split at p1
  · refine ⟨true, rdx_bl r1, ?_⟩
    rw [if_pos rfl]
    exact ⟨g1, env, S1, s1, p1⟩
  · refine ⟨false, rdx_bl r1, ?_⟩
    rw [if_neg Bool.false_ne_true]
    obtain ⟨w, e, hc, p4⟩ := ofW_ok p1
    cases e
    exact Post.val hc s1 repX_bl p4
  · exact p1.elim
theorem selO_post {α : Type} {b' : R α} {w : W} {t : W → R α} (P : R α → Prop) (hb : ¬ P .bad) (h : P (selO w t b')) : (truW w = some true ∧ flatW w = true ∧ P (t w)) ∨ (truW w = some false ∧ P b') := by
  unfold selO at h
  split at h
  · exact .inl ⟨rfl, rfl, h⟩
  · exact .inr ⟨rfl, h⟩
  · rename_i i
    by_cases hi : i = 0
    · rw [if_pos hi] at h
      subst hi
      exact .inr ⟨rfl, h⟩
    · rw [if_neg hi] at h
      exact .inl ⟨by show some (i != 0) = _; simp [hi], rfl, h⟩
  · exact .inr ⟨rfl, h⟩
  · exact absurd h hb
theorem rdx_flat {x : V} {w : W} {b : Bool} (h : RdX T g H x w) (hf : flatW w = true) (ht : truW w = some b) (hn : ∀ s, w ≠ .str s) : RepX T g H x w := by
  cases w with
  | non => rw [rdx_non h]; exact repX_non
  | bl b => rw [rdx_bl h]; exact repX_bl
  | int i => rw [rdx_int h]; exact repX_int
  | str s => exact absurd rfl (hn s)
  | _ => cases hf
theorem selO_ns {α : Type} {b' : R α} {w : W} {t : W → R α} (P : R α → Prop) (hb : ¬ P .bad) (h : P (selO w t b')) : ∀ s, w ≠ .str s := by
  intro s e
  rw [e] at h
  exact hb h
theorem se_or (G : XG X T) {a b : Expr} {rest : List Expr} {a' b' : E} (ha : PE X a (tE T W' .B a')) (hb : PE X (.BoolOp .Or (b :: rest) pos) (tE T W' c b')) : PE X (.BoolOp .Or (a :: b :: rest) pos) (tE T W' c (.or a' b')) := by
  refine pe_imp (L2.pe_orT ha hb) fun σ H Q ⟨g, env, S, s, p⟩ => ?_
  unfold ev at p
  refine ⟨g, env, S, s, Post.bind (qa := quiet a') (qb := quiet b') bm_res (by simp [quiet]) p fun av S1 x g1 H1 _ e1 s1 r1 p1 => ?_⟩
  rw [G.eK]
  have hn := selO_ns (fun r => Post T W' (quiet b') (Res T c) g1 env σ H1 r Q) (fun h => h) p1
  rcases selO_post (fun r => Post T W' (quiet b') (Res T c) g1 env σ H1 r Q) (fun h => h) p1 with ⟨ht, hf, p2⟩ | ⟨ht, p2⟩
  · refine ⟨true, tru_sem r1 ht, ?_⟩
    rw [if_pos rfl]
    obtain ⟨w, e, hc, p4⟩ := ofW_ok p2
    cases e
    exact Post.val hc s1 (rdx_flat r1 hf ht hn) p4
  · refine ⟨false, tru_sem r1 ht, ?_⟩
    rw [if_neg Bool.false_ne_true]
    exact ⟨g1, env, S1, s1, p2⟩
/-- a test by its value's truth -/
theorem st_val (G : XG X T) {a : Expr} {a' : E} (ha : PE X a (tE T W' .B a')) (he : ∀ whole, isTrue a X.env whole = (do let v ← whole; standAt a.pos; holding [v] (truthy v))) : PT X a (tT T W' a') := by
  refine pt_imp (L2.pt_truth ha he) fun σ H Q ⟨g, env, S, s, p⟩ => ?_
  unfold evt at p
  refine ⟨g, env, S, s, Post.bind (Ka := Res T .B) (qa := quiet a') (qb := true) bm_resB (by simp) p fun av S1 x g1 H1 _ e1 s1 r1 p1 => ?_⟩
  rw [G.eK]
  unfold tstR at p1
  cases hk : truW av with
  | none => rw [hk] at p1; exact p1.elim
  | some b =>
    rw [hk] at p1
    exact ⟨b, tru_sem r1 hk, p1 b g1 H1 Ext.refl s1 rfl⟩
theorem st_tru {a : Expr} {a' : E} (ha : PT X a (tT T W' a')) : PT X a (tT T W' (.tru a')) := by
  refine pt_imp ha fun σ H Q ⟨g, env, S, s, p⟩ => ?_
  refine ⟨g, env, S, s, ?_⟩
  unfold evt ev at p
  unfold evt
  revert p
  show Post T W' (quiet a') _ _ _ _ _ _ _ → _
  cases hx : ev .B a' env S with
  | bad => exact fun p => p
  | exn cc fs S' => exact fun p => p
  | ok av S1 =>
    rw [R.bind_ok, R.bind_ok]
    unfold tstR
    cases hk : truW av with
    | none => exact fun p => p
    | some b => exact fun p => p
theorem st_not {a : Expr} {a' : E} (ha : PT X a (tT T W' a')) : PT X (.UnaryOp .Not a pos) (tT T W' (.not a')) := by
  refine pt_imp (L2.pt_not ha) fun σ H Q ⟨g, env, S, s, p⟩ => ?_
  refine ⟨g, env, S, s, ?_⟩
  unfold evt ev at p
  unfold evt
  revert p
  show Post T W' (quiet a') _ _ _ _ _ _ _ → _
  cases hx : ev .B a' env S with
  | bad => exact fun p => p
  | exn cc fs S' => exact fun p => p
  | ok av S1 =>
    rw [R.bind_ok, R.bind_ok]
    unfold tstR
    cases hk : truW av with
    | none => exact fun p => p
    | some b =>
      intro p x g' H' e s' k
      cases k
      exact p (!b) g' H' e s' rfl
theorem sw_one {a : Expr} {a' : E} (ha : PT X a (tT T W' a')) : ∀ op : BoolOp, L2.PW X (.BoolOp op [a] pos) (tT T W' a')
  | .And => L2.pw_and1 ha
  | .Or => L2.pw_or1 ha
theorem sw_and {a b : Expr} {rest : List Expr} {a' b' : E} (ha : PT X a (tT T W' a')) (hb : L2.PW X (.BoolOp .And (b :: rest) pos) (tT T W' b')) : L2.PW X (.BoolOp .And (a :: b :: rest) pos) (tT T W' (.and a' b')) := by
  have h := L2.pw_and ha hb
  refine ⟨fun whole pins s σ H Q I ⟨g, env, S, si, p⟩ => h.run whole pins s σ H Q I ⟨g, env, S, si, ?_⟩⟩
  unfold evt ev at p
  unfold evt
  revert p
  cases hx : ev .B a' env S with
  | bad => exact fun p => p
  | exn cc fs S' => exact fun p => p
  | ok av S1 =>
    rw [R.bind_ok, R.bind_ok]
    intro p
    unfold selB at p
    unfold tstR
    split at p
    · intro x g1 H1 e1 s1 k
      cases k
      rw [if_pos rfl]
      exact ⟨g1, env, S1, s1, Post.rest bm_resB (by simp [quiet]) e1 p⟩
    · intro x g1 H1 e1 s1 k
      cases k
      rw [if_neg Bool.false_ne_true]
      exact p false g1 H1 (e1.weak (by simp [quiet]; intro h _; exact h)) s1 rfl
    · exact p.elim
theorem sw_or {a b : Expr} {rest : List Expr} {a' b' : E} (ha : PT X a (tT T W' a')) (hb : L2.PW X (.BoolOp .Or (b :: rest) pos) (tT T W' b')) : L2.PW X (.BoolOp .Or (a :: b :: rest) pos) (tT T W' (.or a' b')) := by
  have h := L2.pw_or ha hb
  refine ⟨fun whole pins s σ H Q I ⟨g, env, S, si, p⟩ => h.run whole pins s σ H Q I ⟨g, env, S, si, ?_⟩⟩
  unfold evt ev at p
  unfold evt
  revert p
  cases hx : ev .B a' env S with
  | bad => exact fun p => p
  | exn cc fs S' => exact fun p => p
  | ok av S1 =>
    rw [R.bind_ok, R.bind_ok]
    intro p
    unfold tstR
    have hq : ∀ y, ev .B a' env S = .ok y S1 → True := fun _ _ => trivial
    rcases selO_post (fun r => Post T W' (quiet a' && quiet b') ResB g env σ H (r.bind tstR) Q) (fun h => h) p with ⟨ht, hf, p2⟩ | ⟨ht, p2⟩
    · rw [ht]
      intro x g1 H1 e1 s1 k
      cases k
      rw [if_pos rfl]
      have p3 : Post T W' (quiet a' && quiet b') ResB g env σ H ((R.ok av S1 : R W).bind tstR) Q := p2
      rw [R.bind_ok] at p3
      unfold tstR at p3
      rw [ht] at p3
      exact p3 true g1 H1 (e1.weak (by simp [quiet]; intro h _; exact h)) s1 rfl
    · rw [ht]
      intro x g1 H1 e1 s1 k
      cases k
      rw [if_neg Bool.false_ne_true]
      exact ⟨g1, env, S1, s1, Post.rest bm_resB (by simp [quiet]) e1 p2⟩
theorem se_not (G : XG X T) {a : Expr} {a' : E} (ha : PE X a (tE T W' .B a')) : PE X (.UnaryOp .Not a pos) (tE T W' c (.not a')) := by
  refine pe_imp (L2.pe_notT ha) fun σ H Q ⟨g, env, S, s, p⟩ => ?_
  unfold ev at p
  refine ⟨g, env, S, s, Post.bind (qa := quiet a') (qb := true) bm_res (by simp [quiet]) p fun av S1 x g1 H1 _ e1 s1 r1 p1 => ?_⟩
  obtain ⟨b, e, hc, p2⟩ := ofB_ok p1
  rw [G.eK]
  cases hk : truW av with
  | none => rw [hk] at e; cases e
  | some k =>
    rw [hk] at e
    cases e
    exact ⟨k, tru_sem r1 hk, Post.val hc s1 repX_bl p2⟩
theorem se_ite {t a b : Expr} {t' a' b' : E} (ht : PT X t (tT T W' t')) (ha : PE X a (tE T W' c a')) (hb : PE X b (tE T W' c b')) : PE X (.IfExp t a b pos) (tE T W' c (.ite t' a' b')) := by
  refine pe_imp (L2.pe_ifExp ht ha hb) fun σ H Q ⟨g, env, S, s, p⟩ => ?_
  refine ⟨g, env, S, s, ?_⟩
  unfold ev at p
  unfold evt
  revert p
  cases hx : ev .B t' env S with
  | bad => exact fun p => p
  | exn cc fs S' => exact fun p => p
  | ok av S1 =>
    rw [R.bind_ok, R.bind_ok]
    unfold tstR
    cases hk : truW av with
    | none => exact fun p => p.elim
    | some k =>
      intro p x g1 H1 e1 s1 kk
      cases kk
      cases k with
      | true =>
        rw [if_pos rfl]
        exact ⟨g1, env, S1, s1, Post.rest bm_res (by simp [quiet]; intro h1 h2 h3; exact ⟨h1, h2⟩) e1 p⟩
      | false =>
        rw [if_neg Bool.false_ne_true]
        exact ⟨g1, env, S1, s1, Post.rest bm_res (by simp [quiet]; intro h1 h2 h3; exact ⟨h1, h3⟩) e1 p⟩
end
end Wb

namespace Wb
open PySem PySem.Spec PyProof.Rows
open L2 (V Hp HO Rd upd upd_same upd_ne SqL SqT VK TE TT TA TS TG TI TO Ends WX XK R2 Cx Inv RelV Vals ne_of_none PE PT PA PS PSs PG PI OpR UnR CallR MtR Gl Vis Loc)

section
variable {X : Cx} {T : Tx} {W' : WX} {c : Ctx} {pos : Pos}
theorem sa_nil : PA X [] (tA T W' c []) := by
  refine pa_imp L2.pa_nil fun σ H Q ⟨g, env, S, s, p⟩ => ?_
  unfold evs at p
  exact p [] g H Ext.refl s .nil
/-- several, as values -/
theorem sa_cons {e : Expr} {es : List Expr} {e' : E} {es' : List E} (he : PE X e (tE T W' .V e')) (hs : PA X es (tA T W' .V es')) (ok : okx e = true) : PA X (e :: es) (tA T W' .V (e' :: es')) := by
  refine pa_imp (L2.pa_cons he hs (star_cons ok es)) fun σ H Q ⟨g, env, S, s, p⟩ => ?_
  unfold evs at p
  refine ⟨g, env, S, s, Post.bind (qa := quiet e') (qb := quiets es') bm_resA (by simp [quiets]) p fun av S1 x g1 H1 _ e1 s1 r1 p1 => ?_⟩
  refine ⟨g1, env, S1, s1, Post.bind (qa := quiets es') (qb := true) bm_resA (by simp) p1 fun bv S2 y g2 H2 _ e2 s2 r2 p2 => ?_⟩
  exact p2 (x :: y) g2 H2 Ext.refl s2 (.cons (e2.stay.repX r1) r2)
theorem resA_V {H0 H : Hp} {g : Gh} {xs : List V} {ws : List W} (h : ResA T .V H0 g H xs ws) : Paired (RepX T g H) xs ws := h
theorem se_tup {es : List Expr} {es' : List E} {k : Nat} (he : PA X es (tA T W' .V es')) : PE X (.Tuple es k pos) (tE T W' c (.tup es')) := by
  refine pe_imp (L2.pe_tup he) fun σ H Q ⟨g, env, S, s, p⟩ => ?_
  unfold ev at p
  refine ⟨g, env, S, s, Post.bind (qa := quiets es') (qb := true) bm_res (by simp [quiet]) p fun av S1 x g1 H1 _ e1 s1 r1 p1 => ?_⟩
  obtain ⟨w, e, hc, p2⟩ := ofW_ok p1
  obtain ⟨hz, rfl⟩ := if_some e
  have r := resA_V r1
  refine ⟨by rw [r.length, ← sizeL_eq]; exact hz, fun q hq => ?_⟩
  have ex := ext_new (g := g1) (o := .tup x) (l := .frz) hq (s1.wf q hq)
  exact p2 _ _ _ (ex.weak fun _ => rfl) (s1.new .frz hq) (res_val hc (repX_tup (.inl ⟨lab_same, .inl upd_same⟩) (paired_imp r fun _ _ => ex.stay.repX)))
theorem se_lst {es : List Expr} {es' : List E} (he : PA X es (tA T W' .V es')) : PE X (.List es pos) (tE T W' c (.lst es')) := by
  refine pe_imp (L2.pe_lst he) fun σ H Q ⟨g, env, S, s, p⟩ => ?_
  unfold ev at p
  refine ⟨g, env, S, s, Post.bind (qa := quiets es') (qb := true) bm_res (by simp [quiet]) p fun av S1 x g1 H1 _ e1 s1 r1 p1 => ?_⟩
  split at p1
  · rename_i hz
    have r := resA_V r1
    refine ⟨by rw [r.length, ← sizeL_eq]; exact hz, fun q hq => ?_⟩
    exact Post.new p1 s1 hq fun g' st => ⟨_, upd_same, paired_imp r fun _ _ => st.repX⟩
  · exact p1.elim
theorem se_dnew : PE X (.Dict [] [] pos) (tE T W' c (.dct [])) := by
  refine pe_imp L2.pe_dnewK fun σ H Q ⟨g, env, S, s, p⟩ => ?_
  intro q hq
  unfold ev evs at p
  exact Post.new p s hq fun g' st => ⟨_, by simp [upd_same], .nil⟩
theorem ix_dict (hu : X.A.units + 1 < cLine) : L2.IxR X (fun x y H Q => ∃ a v, x = .ref a ∧ L2.DGet H a y (some v) ∧ Q v H) := by
  intro value slice pins s σ H x y v u Q I rx ry h hs
  obtain ⟨a, o, rfl, d, q⟩ := h
  obtain rfl : v = Value.ref a := rx
  exact tail_any (L2.dict_typeIs I d) PySem.F.slot_dict_getitem.lookup (L2.d_getItem hu I d ry fun w' s3 I3 rw' => ⟨o, H, I3, rw', q⟩) hs
theorem se_sub (G : XG X T) {a b : Expr} {a' b' : E} (ha : PE X a (tE T W' (.held (quiet b')) a')) (hb : PE X b (tE T W' .V b')) (ok : okx b = true) : PE X (.Subscript a b pos) (tE T W' c (.sub a' b')) := by
  have z1 : PE X (.Subscript a b pos) _ := L2.pe_ix (L2.ix_seq.or (ix_dict (by have := G.hu; omega))) ha hb (plain_ix ok)
  rw [G.eK] at z1
  refine pe_imp z1 fun σ H Q ⟨g, env, S, s, p⟩ => ?_
  unfold ev at p
  refine ⟨g, env, S, s, Post.bind (qa := quiet a') (qb := quiet b') bm_res (by simp [quiet]) p fun av S1 x g1 H1 _ e1 s1 r1 p1 => ?_⟩
  refine ⟨g1, env, S1, s1, Post.bind (qa := quiet b') (qb := true) bm_res (by simp) p1 fun bv S2 y g2 H2 _ e2 s2 r2 p2 => ?_⟩
  obtain ⟨w, e, hc, p3⟩ := ofW_ok p2
  exact sub_sem (Q := Q) (held_rdx r1 e2) (resB_V r2) e (fun v r => Post.val hc s2 r p3)
/-- a slice's part -/
def evo (es : List E) (env : Env) (S : Store) : R (Option Int) := (evs .V es env S).bind optR
def ResO (H : Hp) (g' : Gh) (H' : Hp) (x w : Option Int) : Prop := x = w
def tO (T : Tx) (W' : WX) (es' : List E) : L2.TO := fun σ H Q => ∃ g env S, Sim T g H env S σ ∧ Post T W' (quiets es') ResO g env σ H (evo es' env S) Q
theorem so_none : L2.PO X none (tO T W' []) := by
  refine ⟨fun pins s σ H Q I ⟨g, env, S, si, p⟩ => L2.po_none.run pins s σ H Q I ?_⟩
  unfold evo evs at p
  exact p none g H Ext.refl si rfl
theorem so_some {e : Expr} {e' : E} (he : PE X e (tE T W' .V e')) : L2.PO X (some e) (tO T W' [e']) := by
  refine ⟨fun pins s σ H Q I ⟨g, env, S, si, p⟩ => (L2.po_some he).run pins s σ H Q I ?_⟩
  unfold evo evs at p
  refine ⟨g, env, S, si, ?_⟩
  show Post T W' (quiet e') _ _ _ _ _ _ _
  revert p
  cases hx : ev .V e' env S with
  | bad => exact fun p => p
  | exn cc fs S' => exact fun p => p
  | ok av S1 =>
    unfold evs
    intro p x g1 H1 e1 s1 r1
    cases av with
    | int i => exact ⟨i, int_inv r1, p (some i) g1 H1 (e1.weak (by simp [quiets])) s1 rfl⟩
    | _ => exact p.elim
theorem cut_paired {F : V → W → Prop} {xs : List V} {ws : List W} (r : Paired F xs ws) (l h : Option Int) : Paired F (L2.cutV xs l h) (cutL ws l h) := by
  unfold L2.cutV cutL
  rw [r.length]
  exact paired_take (paired_drop r _) _
theorem se_slice (G : XG X T) {a : Expr} {a' : E} {lo hi : Option Expr} {lo' hi' : List E} {p2 : Pos} (ha : PE X a (tE T W' (.held (quiets lo' && quiets hi')) a')) (hl : L2.PO X lo (tO T W' lo')) (hh : L2.PO X hi (tO T W' hi')) : PE X (.Subscript a (.Slice lo hi none p2) pos) (tE T W' c (.slice a' lo' hi')) := by
  have z := L2.pe_slice (pos := pos) (p2 := p2) (L2.SlR.or L2.sl_list L2.sl_str) ha hl hh
  rw [G.eK] at z
  refine pe_imp z fun σ H Q ⟨g, env, S, s, p⟩ => ?_
  unfold ev at p
  refine ⟨g, env, S, s, Post.bind (qa := quiet a') (qb := quiets lo' && quiets hi') bm_res (by simp [quiet, Bool.and_assoc]) p fun av S1 x g1 H1 _ e1 s1 r1 p1 => ?_⟩
  refine ⟨g1, env, S1, s1, Post.bind (qa := quiets lo') (qb := quiets hi') bm_res (by simp) p1 fun lv S2 l g2 H2 _ e2 s2 r2 p2 => ?_⟩
  refine ⟨g2, env, S2, s2, Post.bind (qa := quiets hi') (qb := true) bm_res (by simp) p2 fun hv S3 h g3 H3 _ e3 s3 r3 p3 => ?_⟩
  cases r2
  cases r3
  obtain ⟨fr, w, e, hc, p4⟩ := ofPV_ok p3
  have rx := held_rdx r1 (e2.trans' e3)
  unfold sliceW at e
  split at e
  · rename_i ws
    cases e
    obtain ⟨d, xs, ed, hr, r⟩ := rdx_lst rx
    refine .inl ⟨d, xs, ed, .inl hr, fun q hq => Post.new p4 s3 hq fun g' st => ⟨_, upd_same, paired_imp (cut_paired r _ _) fun _ _ => st.repX⟩⟩
  · obtain ⟨hz, e⟩ := if_some e
    cases e
    exact .inr ⟨_, rdx_str rx, by rw [← sizeL_eq]; exact hz, Post.val (hc rfl) s3 repX_str p4⟩
  · cases e
theorem se_rev (G : XG X T) {a : Expr} {a' : E} {k : Nat} {p1 p2 p3 : Pos} (ha : PE X a (tE T W' .B a')) : PE X (.Subscript a (.Slice none none (some (.UnaryOp .USub (.Constant (.int 1) k p1) p2)) p3) pos) (tE T W' c (.rev a')) := by
  have z := L2.pe_revL (k := k) (p1 := p1) (p2 := p2) (p3 := p3) (pos := pos) ha
  rw [G.eK] at z
  refine pe_imp z fun σ H Q ⟨g, env, S, s, p⟩ => ?_
  unfold ev at p
  refine ⟨g, env, S, s, Post.bind (qa := quiet a') (qb := true) bm_res (by simp [quiet]) p fun av S1 x g1 H1 _ e1 s1 r1 p1 => ?_⟩
  obtain ⟨fr, w, e, hc, p4⟩ := ofPV_ok p1
  unfold revW at e
  split at e
  · cases e
    obtain ⟨d, xs, ed, hr, r⟩ := rdx_lst r1
    exact ⟨d, xs, ed, .inl hr, fun q hq => Post.new p4 s1 hq fun g' st => ⟨_, upd_same, paired_imp (paired_reverse r) fun _ _ => st.repX⟩⟩
  · cases e
theorem se_fmt {a : Expr} {a' : E} (ha : PE X a (tE T W' .B a')) : PE X (.FormattedValue a (-1) none pos) (tE T W' c (.fmt a')) := by
  refine pe_imp (L2.pe_fmt ha) fun σ H Q ⟨g, env, S, s, p⟩ => ?_
  unfold ev at p
  refine ⟨g, env, S, s, Post.bind (qa := quiet a') (qb := true) bm_res (by simp [quiet]) p fun av S1 x g1 H1 _ e1 s1 r1 p1 => ?_⟩
  obtain ⟨w, e, hc, p2⟩ := ofW_ok p1
  unfold fmtW at e
  split at e
  · rename_i z _
    by_cases hz : z.length ≤ sizeL
    · rw [if_pos hz] at e; cases e
      exact .inl ⟨_, rdx_str r1, by rw [← sizeL_eq]; exact hz, Post.val hc s1 repX_str p2⟩
    · rw [if_neg hz] at e; cases e
  · rename_i i _
    by_cases hz : i.natAbs.log2 < 1920
    · rw [if_pos hz] at e; cases e
      exact .inr ⟨_, rdx_int r1, hz, Post.val hc s1 repX_str p2⟩
    · rw [if_neg hz] at e; cases e
  · cases e
/-- the parts of an f-string, with what stands before -/
inductive PJ (X : Cx) (T : Tx) (W' : WX) : List Expr → List E → Prop where
  | nil : PJ X T W' [] []
  | cons {e : Expr} {e' : E} {es : List Expr} {es' : List E} (h : PE X e (tE T W' .V e')) (r : PJ X T W' es es') : PJ X T W' (e :: es) (e' :: es')
def tsOf (T : Tx) (W' : WX) : List E → List TE
  | [] => []
  | e :: es => tE T W' .V e :: tsOf T W' es
theorem PJ.to {es : List Expr} {es' : List E} (h : PJ X T W' es es') : L2.PJ X es (tsOf T W' es') := by
  induction h with
  | nil => exact .nil
  | cons h _ ih => exact .cons h ih
def ResT (H : Hp) (g' : Gh) (H' : Hp) (x w : Str) : Prop := x = w
theorem bm_resT : BaseMono ResT := fun _ _ _ _ _ _ _ h => h
theorem js_sem : ∀ (es : List E) (acc : Str) (σ : L2.St) (H : Hp) (Q : Str → Hp → Prop) (g : Gh) (env : Env) (S : Store), Sim T g H env S σ → Post T W' (quiets es) ResT g env σ H (evj es acc env S) Q → L2.tJs (tsOf T W' es) acc σ H Q
  | [], acc, σ, H, Q, g, env, S, s, p => p acc g H Ext.refl s rfl
  | e :: es, acc, σ, H, Q, g, env, S, s, p => by
    unfold evj at p
    refine ⟨g, env, S, s, Post.bind (Kr := ResT) (qa := quiet e) (qb := quiets es) bm_resT (by simp [quiets]) p fun av S1 x g1 H1 _ e1 s1 r1 p1 => ?_⟩
    split at p1
    · rename_i z
      split at p1
      · rename_i hz
        exact ⟨_, str_inv r1, by rw [← sizeL_eq]; exact hz, js_sem es _ σ H1 Q g1 env S1 s1 p1⟩
      · exact p1.elim
    · exact p1.elim
theorem se_fstr {e1 e2 : Expr} {es : List Expr} {es' : List E} (h : PJ X T W' (e1 :: e2 :: es) es') : PE X (.JoinedStr (e1 :: e2 :: es) pos) (tE T W' c (.fstr es')) := by
  refine pe_imp (L2.pe_joined h.to) fun σ H Q ⟨g, env, S, s, p⟩ => ?_
  unfold ev at p
  refine js_sem es' Str.empty σ H _ g env S s (Post.bind (qa := quiets es') (qb := true) bm_res (by simp [quiet]) p fun av S1 x g1 H1 _ e1 s1 r1 p1 => ?_)
  cases r1
  obtain ⟨w, e, hc, p2⟩ := ofW_ok p1
  cases e
  exact Post.val hc s1 repX_str p2
theorem empty_add (s : Str) : Str.empty ++ s = s := by
  show Str.append Str.empty s = s
  unfold Str.append Str.empty
  simp
theorem se_fstr1 {e : Expr} {e' : E} (h : PE X e (tE T W' .V e')) : PE X (.JoinedStr [e] pos) (tE T W' c (.fstr [e'])) := by
  refine pe_imp (L2.pe_joined1 h) fun σ H Q ⟨g, env, S, s, p⟩ => ?_
  unfold ev evj at p
  refine ⟨g, env, S, s, ?_⟩
  show Post T W' (quiet e') _ _ _ _ _ _ _
  revert p
  cases hx : ev .V e' env S with
  | bad => exact fun p => p
  | exn cc fs S' => exact fun p => p
  | ok av S1 =>
    rw [R.bind_ok]
    intro p x g1 H1 e1 s1 r1
    split at p
    · split at p
      · unfold evj at p
        rw [R.bind_ok] at p
        obtain ⟨w, e, hc, p2⟩ := ofW_ok p
        cases e
        rw [empty_add] at p2
        exact p2 x g1 H1 (e1.weak (by simp [quiet, quiets])) s1 (res_val hc r1)
      · exact p.elim
    · exact p.elim
def biTy : BI → Bool
  | .int => true | .str => true | .list => true | .tuple => true | .dict => true
  | _ => false
def biNm : BI → String
  | .len => "len" | .int => "int" | .str => "str" | .abs => "abs" | .min2 => "min" | .max2 => "max" | .min1 => "min" | .max1 => "max" | .sum => "sum" | .sorted => "sorted" | .list => "list" | .tuple => "tuple" | .dict => "dict" | .divmod => "divmod"
end
end Wb

namespace Wb
open PySem PySem.Spec PyProof.Rows
open L2 (V Hp HO Rd upd upd_same upd_ne SqL SqT VK TE TT TA TS TG TI TO Ends WX XK R2 Cx Inv RelV Vals ne_of_none PE PT PA PS PSs PG PI OpR UnR CallR MtR Gl Vis Loc)

theorem CallR.or {X : Cx} {f : Value} {r r' : List V → Hp → VK → Prop} (h : CallR X f r) (h' : CallR X f r') : CallR X f (fun xs H Q => r xs H Q ∨ r' xs H Q) := by
  intro pins s σ H xs us Q I rx q
  rcases q with q | q
  · exact h pins s σ H xs us Q I rx q
  · exact h' pins s σ H xs us Q I rx q
def rLen (K : PySem.W.Frag) : List V → Hp → VK → Prop := fun xs H Q => ∃ x n, xs = [x] ∧ L2.LenV K x H n ∧ Q (.int n) H
def rLenD : List V → Hp → VK → Prop := fun xs H Q => ∃ p kvs, xs = [.ref p] ∧ Rd H p (.dK kvs) ∧ Q (.int kvs.length) H
theorem call_lenD {X : Cx} : CallR X (.builtin "len") rLenD := by
  intro pins s σ H xs us Q I r h
  obtain ⟨p, kvs, rfl, hd, q⟩ := h
  obtain ⟨u, rfl, rx⟩ := L2.vals1 r
  cases rx
  exact L2.d_len I hd fun t s' I' => ⟨.int kvs.length, H, I', ⟨t, rfl⟩, q⟩
def rInt1 : List V → Hp → VK → Prop := fun xs H Q => (∃ i, xs = [.int i] ∧ Q (.int i) H) ∨ ∃ k, xs = [.bl k] ∧ Q (.int (if k then 1 else 0)) H
def rIntS : List V → Hp → VK → Prop := fun xs H Q => ∃ a n, xs = [.str a] ∧ PySem.intText? a = some n ∧ a.length ≤ 640 ∧ Q (.int n) H
def rStrI : List V → Hp → VK → Prop := fun xs H Q => ∃ i, xs = [.int i] ∧ i.natAbs.log2 < 1920 ∧ Q (.str (toString i)) H
def rStrS : List V → Hp → VK → Prop := fun xs H Q => ∃ a, xs = [.str a] ∧ Q (.str a) H
def rAbs : List V → Hp → VK → Prop := fun xs H Q => ∃ i, xs = [.int i] ∧ Q (.int (if i < 0 then -i else i)) H
def rMax2 : List V → Hp → VK → Prop := fun xs H Q => ∃ i j, xs = [.int i, .int j] ∧ Q (.int (if j > i then j else i)) H
def rMin2 : List V → Hp → VK → Prop := fun xs H Q => ∃ i j, xs = [.int i, .int j] ∧ Q (.int (if j < i then j else i)) H
def rListOf (K : PySem.W.Frag) : List V → Hp → VK → Prop := fun xs H Q => ∃ p ys, xs = [.ref p] ∧ (SqL K H p ys ∨ SqT K H p ys) ∧ ∀ l, H l = none → Q (.ref l) (upd H l (.lst ys))
def rListD : List V → Hp → VK → Prop := fun xs H Q => ∃ (a : Addr) (kvs : List (L2.Key × V)), xs = [.ref a] ∧ Rd H a (.dK kvs) ∧ ∀ p, H p = none → Q (.ref p) (upd H p (.lst (kvs.map fun kv => L2.kV kv.1)))
def rDictD : List V → Hp → VK → Prop := fun xs H Q => ∃ (a : Addr) (kvs : List (L2.Key × V)), xs = [.ref a] ∧ Rd H a (.dK kvs) ∧ ∀ p, H p = none → Q (.ref p) (upd H p (.dK kvs))
def rTupOf (K : PySem.W.Frag) : List V → Hp → VK → Prop := fun xs H Q => ∃ p ys, xs = [.ref p] ∧ ((SqL K H p ys ∧ ∀ l, H l = none → Q (.ref l) (upd H l (.tup ys))) ∨ (SqT K H p ys ∧ Q (.ref p) H))
def rDm : List V → Hp → VK → Prop := fun xs H Q => ∃ i j, xs = [.int i, .int j] ∧ L2.CDiv i j ∧ ∀ p, H p = none → Q (.ref p) (upd H p (.tup [.int (i / j), .int (i % j)]))
def rB (K : PySem.W.Frag) : BI → List V → Hp → VK → Prop
  | .len => fun xs H Q => rLen K xs H Q ∨ rLenD xs H Q
  | .int => fun xs H Q => rInt1 xs H Q ∨ rIntS xs H Q
  | .str => fun xs H Q => rStrI xs H Q ∨ rStrS xs H Q
  | .abs => rAbs
  | .min2 => rMin2
  | .max2 => rMax2
  | .min1 => L2.rMin K
  | .max1 => L2.rMax K
  | .sum => L2.rSum K
  | .sorted => fun xs H Q => L2.rSortedI K xs H Q ∨ (L2.rSortedS K xs H Q ∨ rSortedPT K xs H Q)
  | .list => fun xs H Q => rListOf K xs H Q ∨ rListD xs H Q
  | .tuple => rTupOf K
  | .dict => rDictD
  | .divmod => rDm
def vB : BI → Value
  | .len => .builtin "len" | .int => .type "int" | .str => .type "str" | .abs => .builtin "abs" | .min2 => .builtin "min" | .max2 => .builtin "max" | .min1 => .builtin "min" | .max1 => .builtin "max"
  | .sum => .builtin "sum" | .sorted => .builtin "sorted" | .list => .type "list" | .tuple => .type "tuple" | .dict => .type "dict" | .divmod => .builtin "divmod"
def nB : BI → Str
  | .len => "len" | .int => "int" | .str => "str" | .abs => "abs" | .min2 => "min" | .max2 => "max" | .min1 => "min" | .max1 => "max" | .sum => "sum" | .sorted => "sorted" | .list => "list" | .tuple => "tuple" | .dict => "dict" | .divmod => "divmod"
theorem okB {X : Cx} (hc : X.calm = true) : ∀ b, CallR X (vB b) (rB X.K b)
  | .len => CallR.or L2.call_len call_lenD
  | .int => CallR.or L2.call_int1 L2.call_int_str
  | .str => CallR.or L2.call_str_int SkE.call_str_str
  | .abs => L2.call_abs
  | .min2 => L2.call_min2 hc
  | .max2 => L2.call_max2 hc
  | .min1 => L2.cr_min hc
  | .max1 => L2.cr_max hc
  | .sum => L2.cr_sum hc
  | .sorted => CallR.or L2.cr_sortedI (CallR.or L2.cr_sortedS cr_sortedPT)
  | .list => CallR.or L2.call_list_of (L2.call_listD hc)
  | .tuple => L2.call_tuple_of
  | .dict => L2.call_dictD
  | .divmod => L2.call_divmod
theorem bootB : ∀ b, bootBuiltins (nB b) = some (vB b) := by
  intro b
  cases b <;> decide +kernel
theorem nB_name : ∀ b, nB b ≠ "__name__" := by intro b; cases b <;> decide +kernel
theorem nB_debug : ∀ b, (nB b == ("__debug__" : Str)) = false := by intro b; cases b <;> decide +kernel
/-- f(e, ..), a built-in -/
theorem pe_bi {X : Cx} {b : BI} {p pos : Pos} {e : Expr} {es : List Expr} {t : TA} (hc : X.calm = true) (hg : Gl X (nB b)) (hm : X.mg (nB b) = none) (ha : PA X (e :: es) t) (ok : okx e = true) (oks : okxs es = true) :
    PE X (.Call (.Name (nB b) p) (e :: es) [] pos) (L2.tCB (rB X.K b) t) := by
  have h := okB hc b
  have hv := bootB b
  cases hb : vB b with
  | type n =>
    rw [hb] at h hv
    exact L2.pe_callTy h hg hm hv ha (nB_name b) (nB_debug b) (star_cons ok es) (star_none oks pos)
  | builtin n =>
    rw [hb] at h hv
    exact L2.pe_callB h hg hm hv ha (nB_name b) (nB_debug b) (star_cons ok es) (star_none oks pos)
  | _ => exfalso; cases b <;> cases hb

theorem intsW_paired {F : V → W → Prop} (hF : ∀ x i, F x (.int i) → x = .int i) {xs : List V} {ws : List W} (r : Paired F xs ws) : ∀ {ns : List Int}, intsW ws = some ns → xs = ns.map V.int := by
  induction r with
  | nil => intro ns e; cases e; rfl
  | @cons y w ys ws r' _ ih =>
    intro ns e
    cases w with
    | int i =>
      unfold intsW at e
      cases q : intsW ws with
      | none => rw [q] at e; cases e
      | some ms =>
        rw [q] at e; cases e
        rw [ih q, hF _ _ r']
        rfl
    | _ => cases e
theorem strsW_paired {F : V → W → Prop} (hF : ∀ x i, F x (.str i) → x = .str i) {xs : List V} {ws : List W} (r : Paired F xs ws) : ∀ {ns : List Str}, strsW ws = some ns → xs = ns.map V.str := by
  induction r with
  | nil => intro ns e; cases e; rfl
  | @cons y w ys ws r' _ ih =>
    intro ns e
    cases w with
    | str i =>
      unfold strsW at e
      cases q : strsW ws with
      | none => rw [q] at e; cases e
      | some ms =>
        rw [q] at e; cases e
        rw [ih q, hF _ _ r']
        rfl
    | _ => cases e
theorem maxI_ok : ∀ (r : List Int) (i : Int), (maxI i r = i ∨ maxI i r ∈ r) ∧ i ≤ maxI i r ∧ ∀ y ∈ r, y ≤ maxI i r
  | [], i => ⟨.inl rfl, Int.le_refl _, fun _ h => nomatch h⟩
  | j :: r, i => by
    obtain ⟨h1, h2, h3⟩ := maxI_ok r (if j > i then j else i)
    show (maxI (if j > i then j else i) r = i ∨ maxI (if j > i then j else i) r ∈ j :: r) ∧ i ≤ maxI (if j > i then j else i) r ∧ ∀ y ∈ j :: r, y ≤ maxI (if j > i then j else i) r
    refine ⟨?_, ?_, fun y hy => ?_⟩
    · rcases h1 with h1 | h1
      · by_cases hj : j > i
        · rw [if_pos hj] at h1; rw [if_pos hj, h1]; exact .inr (by simp)
        · rw [if_neg hj] at h1; rw [if_neg hj, h1]; exact .inl rfl
      · exact .inr (List.mem_cons_of_mem _ h1)
    · refine Int.le_trans ?_ h2
      split <;> omega
    · rcases List.mem_cons.mp hy with rfl | hy
      · refine Int.le_trans ?_ h2
        split <;> omega
      · exact h3 y hy
theorem minI_ok : ∀ (r : List Int) (i : Int), (minI i r = i ∨ minI i r ∈ r) ∧ minI i r ≤ i ∧ ∀ y ∈ r, minI i r ≤ y
  | [], i => ⟨.inl rfl, Int.le_refl _, fun _ h => nomatch h⟩
  | j :: r, i => by
    obtain ⟨h1, h2, h3⟩ := minI_ok r (if j < i then j else i)
    show (minI (if j < i then j else i) r = i ∨ minI (if j < i then j else i) r ∈ j :: r) ∧ minI (if j < i then j else i) r ≤ i ∧ ∀ y ∈ j :: r, minI (if j < i then j else i) r ≤ y
    refine ⟨?_, ?_, fun y hy => ?_⟩
    · rcases h1 with h1 | h1
      · by_cases hj : j < i
        · rw [if_pos hj] at h1; rw [if_pos hj, h1]; exact .inr (by simp)
        · rw [if_neg hj] at h1; rw [if_neg hj, h1]; exact .inl rfl
      · exact .inr (List.mem_cons_of_mem _ h1)
    · refine Int.le_trans h2 ?_
      split <;> omega
    · rcases List.mem_cons.mp hy with rfl | hy
      · refine Int.le_trans h2 ?_
        split <;> omega
      · exact h3 y hy
theorem insI_perm (i : Int) : ∀ l : List Int, (insI i l).Perm (i :: l)
  | [] => List.Perm.refl _
  | j :: r => by
    unfold insI
    split
    · exact List.Perm.refl _
    · exact ((insI_perm i r).cons j).trans (List.Perm.swap i j r)
theorem sortI_perm : ∀ l : List Int, (sortI l).Perm l
  | [] => List.Perm.refl _
  | i :: r => (insI_perm i _).trans ((sortI_perm r).cons i)
theorem insI_sorted (i : Int) : ∀ l : List Int, l.Pairwise (· ≤ ·) → (insI i l).Pairwise (· ≤ ·)
  | [], _ => List.pairwise_singleton _ _
  | j :: r, h => by
    unfold insI
    obtain ⟨h1, h2⟩ := List.pairwise_cons.mp h
    split
    · rename_i hij
      refine List.pairwise_cons.mpr ⟨fun y hy => ?_, h⟩
      rcases List.mem_cons.mp hy with rfl | hy
      · exact hij
      · exact Int.le_trans hij (h1 y hy)
    · rename_i hij
      refine List.pairwise_cons.mpr ⟨fun y hy => ?_, insI_sorted i r h2⟩
      rcases List.mem_cons.mp ((insI_perm i r).mem_iff.mp hy) with rfl | hy
      · omega
      · exact h1 y hy
theorem sortI_sorted : ∀ l : List Int, (sortI l).Pairwise (· ≤ ·)
  | [] => List.Pairwise.nil
  | i :: r => insI_sorted i _ (sortI_sorted r)
theorem sortI_uniq {a l : List Int} (p : a.Perm l) (s : a.Pairwise (· ≤ ·)) : a = sortI l :=
  List.Perm.eq_of_pairwise (fun x y _ _ h1 h2 => Int.le_antisymm h1 h2) s (sortI_sorted l) (p.trans (sortI_perm l).symm)
theorem ltCps_iff : ∀ {a b : List Nat}, PySem.Spec.ltCps a b = true ↔ a < b
  | [], [] => by simp [PySem.Spec.ltCps]
  | [], _ :: _ => by simp [PySem.Spec.ltCps]
  | _ :: _, [] => by simp [PySem.Spec.ltCps]
  | a :: r, b :: t => by
    unfold PySem.Spec.ltCps
    rw [List.cons_lt_cons_iff, Bool.or_eq_true, Bool.and_eq_true, ltCps_iff]
    simp
theorem ltS_iff {a b : Str} : ltS a b = true ↔ a.cps.toList < b.cps.toList := by unfold ltS; simp
theorem ltS_no {a b : Str} : ltS a b = false ↔ ¬ a.cps.toList < b.cps.toList := by unfold ltS; simp
theorem rising_pw : ∀ (p : Str) (l : List Str), risingS p l = true → (p :: l).Pairwise fun a b => ltS b a = false
  | p, [], _ => List.pairwise_singleton _ _
  | p, x :: r, h => by
    unfold risingS at h
    obtain ⟨h1, h2⟩ := Bool.and_eq_true_iff.mp h
    have ih := rising_pw x r h2
    refine List.pairwise_cons.mpr ⟨fun y hy => ?_, ih⟩
    have hx : ltS x p = false := by
      rw [ltS_no, ← ltCps_iff]
      simpa using h1
    rcases List.mem_cons.mp hy with rfl | hy
    · exact hx
    · have hy2 := (List.pairwise_cons.mp ih).1 y hy
      rw [ltS_no] at hx hy2 ⊢
      exact fun z => by
        by_cases q : y.cps.toList < x.cps.toList
        · exact hy2 q
        · exact hx (Std.lt_of_le_of_lt (Std.not_lt.mp q) z)
theorem insS_perm (i : Str) : ∀ l : List Str, (insS i l).Perm (i :: l)
  | [] => List.Perm.refl _
  | j :: r => by
    unfold insS
    split
    · exact ((insS_perm i r).cons j).trans (List.Perm.swap i j r)
    · exact List.Perm.refl _
theorem sortS_perm : ∀ l : List Str, (sortS l).Perm l
  | [] => List.Perm.refl _
  | i :: r => (insS_perm i _).trans ((sortS_perm r).cons i)
theorem insS_sorted (i : Str) : ∀ l : List Str, (l.Pairwise fun a b => ltS b a = false) → (insS i l).Pairwise fun a b => ltS b a = false
  | [], _ => List.pairwise_singleton _ _
  | j :: r, h => by
    unfold insS
    obtain ⟨h1, h2⟩ := List.pairwise_cons.mp h
    split
    · rename_i hij
      refine List.pairwise_cons.mpr ⟨fun y hy => ?_, insS_sorted i r h2⟩
      rcases List.mem_cons.mp ((insS_perm i r).mem_iff.mp hy) with rfl | hy
      · rw [ltS_no]
        rw [ltS_iff] at hij
        exact fun z => Std.lt_irrefl (Std.lt_trans hij z)
      · exact h1 y hy
    · rename_i hij
      have hij : ltS j i = false := by simpa using hij
      refine List.pairwise_cons.mpr ⟨fun y hy => ?_, h⟩
      rcases List.mem_cons.mp hy with rfl | hy
      · exact hij
      · have q := h1 y hy
        rw [ltS_no] at hij q ⊢
        exact fun z => by
          by_cases p : y.cps.toList < j.cps.toList
          · exact q p
          · exact hij (Std.lt_of_le_of_lt (Std.not_lt.mp p) z)
theorem sortS_sorted : ∀ l : List Str, (sortS l).Pairwise fun a b => ltS b a = false
  | [] => List.Pairwise.nil
  | i :: r => insS_sorted i _ (sortS_sorted r)
theorem sortS_uniq {a l : List Str} (p : a.Perm l) (s : sortedS a = true) : a = sortS l := by
  refine List.Perm.eq_of_pairwise (fun x y _ _ h1 h2 => ?_) (le := fun a b => ltS b a = false) ?_ (sortS_sorted l) (p.trans (sortS_perm l).symm)
  · rw [ltS_no] at h1 h2
    refine str_cps ?_
    exact Std.le_antisymm (Std.not_lt.mp h1) (Std.not_lt.mp h2)
  · cases a with
    | nil => exact List.Pairwise.nil
    | cons x r => exact rising_pw x r s
theorem ltP_iff {p q : Int × Int} : ltP p q = true ↔ p.1 < q.1 ∨ (p.1 = q.1 ∧ p.2 < q.2) := SrtO.lexB_iff
theorem ltP_no {p q : Int × Int} : ltP p q = false ↔ ¬ (p.1 < q.1 ∨ (p.1 = q.1 ∧ p.2 < q.2)) := SrtO.lexB_no
theorem insP_perm (i : Int × Int) : ∀ l : List (Int × Int), (insP i l).Perm (i :: l)
  | [] => List.Perm.refl _
  | j :: r => by
    unfold insP
    split
    · exact ((insP_perm i r).cons j).trans (List.Perm.swap i j r)
    · exact List.Perm.refl _
theorem sortP_perm : ∀ l : List (Int × Int), (sortP l).Perm l
  | [] => List.Perm.refl _
  | i :: r => (insP_perm i _).trans ((sortP_perm r).cons i)
theorem insP_sorted (i : Int × Int) : ∀ l : List (Int × Int), (l.Pairwise fun a b => ltP b a = false) → (insP i l).Pairwise fun a b => ltP b a = false
  | [], _ => List.pairwise_singleton _ _
  | j :: r, h => by
    unfold insP
    obtain ⟨h1, h2⟩ := List.pairwise_cons.mp h
    split
    · rename_i hij
      refine List.pairwise_cons.mpr ⟨fun y hy => ?_, insP_sorted i r h2⟩
      rcases List.mem_cons.mp ((insP_perm i r).mem_iff.mp hy) with rfl | hy
      · rw [ltP_no]
        rw [ltP_iff] at hij
        omega
      · exact h1 y hy
    · rename_i hij
      have hij : ltP j i = false := by simpa using hij
      refine List.pairwise_cons.mpr ⟨fun y hy => ?_, h⟩
      rcases List.mem_cons.mp hy with rfl | hy
      · exact hij
      · have q := h1 y hy
        rw [ltP_no] at hij q ⊢
        omega
theorem sortP_sorted : ∀ l : List (Int × Int), (sortP l).Pairwise fun a b => ltP b a = false
  | [] => List.Pairwise.nil
  | i :: r => insP_sorted i _ (sortP_sorted r)
theorem sortP_uniq {a l : List (Int × Int)} (p : a.Perm l) (s : SrtO.Srtd SrtO.lexB a) : a = sortP l := by
  refine List.Perm.eq_of_pairwise (fun x y _ _ h1 h2 => ?_) (le := fun a b => ltP b a = false) s (sortP_sorted l) (p.trans (sortP_perm l).symm)
  rw [ltP_no] at h1 h2
  refine Prod.ext ?_ ?_ <;> omega
theorem paired_self {F : V → W → Prop} {f : V → W} : ∀ {xs : List V}, (∀ x ∈ xs, F x (f x)) → Paired F xs (xs.map f)
  | [], _ => .nil
  | x :: xs, h => .cons (h x (List.mem_cons_self ..)) (paired_self fun y hy => h y (List.mem_cons_of_mem _ hy))
section
variable {T : Tx} {W' : WX} {g : Gh} {env : Env} {S : Store} {σ : L2.St} {H : Hp} {q : Bool} {c : Ctx}
theorem prsW_paired {xs : List V} {ws : List W} (r : Paired (RepX T g H) xs ws) : ∀ {ps : List (Int × Int)}, prsW ws = some ps →
    (∀ x ∈ xs, ∃ t i j, x = V.ref t ∧ SqT T.K H t [.int i, .int j] ∧ RepX T g H x (prW (i, j))) ∧ ∀ k : V → Int × Int, (∀ t i j, SqT T.K H t [.int i, .int j] → k (.ref t) = (i, j)) → xs.map k = ps := by
  induction r with
  | nil => intro ps e; cases e; exact ⟨fun x hx => (by cases hx), fun k _ => rfl⟩
  | @cons y w ys ws r' _ ih =>
    intro ps e
    unfold prsW at e
    split at e
    · rename_i h0; cases h0
    · rename_i i j r0 h0
      injection h0 with h1 h2
      subst h1 h2
      cases q : prsW ws with
      | none => rw [q] at e; cases e
      | some ms =>
        rw [q] at e; cases e
        obtain ⟨i1, i2⟩ := ih q
        obtain ⟨t, us, rfl, hl, rr⟩ := tup_inv r'
        have hs : SqT T.K H t [.int i, .int j] := by
          have e : us = [.int i, .int j] := by
            cases rr with
            | cons a b =>
              cases b with
              | cons b d =>
                cases d
                rw [int_inv a, int_inv b]
          rw [← e]
          rcases hl with hl | hl
          · exact .inl hl.2
          · exact .inr hl
        refine ⟨fun x hx => ?_, fun k hk => ?_⟩
        · rcases List.mem_cons.mp hx with rfl | hx
          · exact ⟨t, i, j, rfl, hs, r'⟩
          · exact i1 x hx
        · rw [List.map_cons, i2 k hk, hk t i j hs]
    · cases e
theorem len_rdx {x : V} {w : W} {n : Nat} (h : RdX T g H x w) (e : lenW w = some n) {Q : VK} (k : Q (.int n) H) : rB T.K .len [x] H Q := by
  unfold lenW at e
  split at e
  · obtain ⟨hz, e⟩ := if_some e
    cases e
    rw [rdx_str h]
    exact .inl ⟨_, _, rfl, ⟨by rw [← sizeL_eq]; exact hz, rfl⟩, k⟩
  · cases e
    obtain ⟨a, xs, rfl, hr, r⟩ := rdx_lst h
    exact .inl ⟨_, _, rfl, .inl ⟨xs, .inl hr, r.length.symm⟩, k⟩
  · cases e
    obtain ⟨a, xs, rfl, hr, r⟩ := rdx_ro h
    exact .inl ⟨_, _, rfl, .inl ⟨xs, hr, r.length.symm⟩, k⟩
  · cases e
    obtain ⟨a, xs, rfl, hr, r⟩ := rdx_tup h
    exact .inl ⟨_, _, rfl, .inr ⟨xs, hr, r.length.symm⟩, k⟩
  · cases e
    obtain ⟨a, xs, rfl, hr, r⟩ := rdx_dct h
    exact .inr ⟨a, xs, rfl, hr, by rw [r.length]; exact k⟩
  · cases e
theorem keys_paired {g' : Gh} {H' : Hp} {g : Gh} {H : Hp} {xs : List (L2.Key × V)} {kvs : List (L2.Key × W)} (r : Paired (fun p q => p.1 = q.1 ∧ RepX T g' H' p.2 q.2) xs kvs) : Paired (RepX T g H) (xs.map fun kv => L2.kV kv.1) (kvs.map fun kv => kW kv.1) := by
  induction r with
  | nil => exact .nil
  | cons z _ ih => exact .cons (by show RepX T g H (L2.kV _) (kW _); rw [z.1]; exact repX_kV) ih
theorem new_ints {ns : List Int} {Q : VK} (h : Post T W' q (Res T c) g env σ H (.ok (.lst (ns.map W.int)) S) Q) (s : Sim T g H env S σ) {p : Addr} (hp : H p = none) : Q (.ref p) (upd H p (.lst (ns.map V.int))) :=
  Post.new h s hp fun g' st => ⟨_, upd_same, paired_map (fun i => repX_int) ns⟩
theorem new_strs {ns : List Str} {Q : VK} (h : Post T W' q (Res T c) g env σ H (.ok (.lst (ns.map W.str)) S) Q) (s : Sim T g H env S σ) {p : Addr} (hp : H p = none) : Q (.ref p) (upd H p (.lst (ns.map V.str))) :=
  Post.new h s hp fun g' st => ⟨_, upd_same, paired_map (fun i => repX_str) ns⟩
theorem new_tup {x : List V} {ws : List W} {Q : VK} (hc : c ≠ .F) (h : Post T W' q (Res T c) g env σ H (.ok (.tup ws) S) Q) (s : Sim T g H env S σ) (r : Paired (RepX T g H) x ws) {p : Addr} (hp : H p = none) : Q (.ref p) (upd H p (.tup x)) := by
  have ex := ext_new (g := g) (o := .tup x) (l := .frz) hp (s.wf p hp)
  exact h _ _ _ (ex.weak fun _ => rfl) (s.new .frz hp) (res_val hc (repX_tup (.inl ⟨lab_same, .inl upd_same⟩) (paired_imp r fun _ _ => ex.stay.repX)))
theorem bi1_sem {b : BI} {x : V} {a w : W} {fr : Bool} {Q : VK} (s : Sim T g H env S σ) (hx : RdX T g H x a) (e : biW b [a] = some (fr, w)) (hc : fr = false → c ≠ .F) (h : Post T W' q (Res T c) g env σ H (.ok w S) Q) : rB T.K b [x] H Q := by
  cases b with
  | len =>
    cases hl : lenW a with
    | none => simp only [biW, hl] at e; cases e
    | some n =>
      simp only [biW, hl] at e; cases e
      exact len_rdx hx hl (Post.val (hc rfl) s repX_int h)
  | int =>
    cases a with
    | int i => cases e; exact .inl (.inl ⟨i, by rw [rdx_int hx], Post.val (hc rfl) s repX_int h⟩)
    | bl k => cases e; exact .inl (.inr ⟨k, by rw [rdx_bl hx], Post.val (hc rfl) s repX_int h⟩)
    | str z =>
      have e' : (match intText? z with | some n => if z.length ≤ 640 then some (false, W.int n) else none | none => none) = some (fr, w) := e
      cases hn : intText? z with
      | none => rw [hn] at e'; cases e'
      | some n =>
        rw [hn] at e'
        obtain ⟨hz, e2⟩ := if_some e'
        cases e2
        exact .inr ⟨z, n, by rw [rdx_str hx], hn, hz, Post.val (hc rfl) s repX_int h⟩
    | _ => cases e
  | str =>
    cases a with
    | int i =>
      obtain ⟨hz, e2⟩ := if_some (show (if i.natAbs.log2 < 1920 then some (false, W.str (toString i)) else none) = some (fr, w) from e)
      cases e2
      exact .inl ⟨i, by rw [rdx_int hx], hz, Post.val (hc rfl) s repX_str h⟩
    | str z =>
      cases e
      exact .inr ⟨z, by rw [rdx_str hx], Post.val (hc rfl) s repX_str h⟩
    | _ => cases e
  | abs =>
    cases a with
    | int i => cases e; exact ⟨i, by rw [rdx_int hx], Post.val (hc rfl) s repX_int h⟩
    | _ => cases e
  | max1 =>
    cases a with
    | lst ws =>
      cases hn : intsW ws with
      | none => simp only [biW, hn] at e; cases e
      | some ns =>
        cases ns with
        | nil => simp only [biW, hn] at e; cases e
        | cons i r =>
          simp only [biW, hn] at e; cases e
          obtain ⟨d, xs, rfl, hr, rr⟩ := rdx_lst hx
          have ex := intsW_paired (fun _ _ => int_inv) rr hn
          refine ⟨d, i :: r, rfl, by rw [← ex]; exact .inl hr, by simp, fun m hm hmx => ?_⟩
          obtain ⟨h1, h2, h3⟩ := maxI_ok r i
          have e : m = maxI i r := by
            refine Int.le_antisymm ?_ (hmx _ ?_)
            · rcases List.mem_cons.mp hm with rfl | hm
              · exact h2
              · exact h3 m hm
            · rcases h1 with h1 | h1
              · rw [h1]; simp
              · exact List.mem_cons_of_mem _ h1
          rw [e]
          exact Post.val (hc rfl) s repX_int h
    | _ => cases e
  | min1 =>
    cases a with
    | lst ws =>
      cases hn : intsW ws with
      | none => simp only [biW, hn] at e; cases e
      | some ns =>
        cases ns with
        | nil => simp only [biW, hn] at e; cases e
        | cons i r =>
          simp only [biW, hn] at e; cases e
          obtain ⟨d, xs, rfl, hr, rr⟩ := rdx_lst hx
          have ex := intsW_paired (fun _ _ => int_inv) rr hn
          refine ⟨d, i :: r, rfl, by rw [← ex]; exact .inl hr, by simp, fun m hm hmx => ?_⟩
          obtain ⟨h1, h2, h3⟩ := minI_ok r i
          have e : m = minI i r := by
            refine Int.le_antisymm (hmx _ ?_) ?_
            · rcases h1 with h1 | h1
              · rw [h1]; simp
              · exact List.mem_cons_of_mem _ h1
            · rcases List.mem_cons.mp hm with rfl | hm
              · exact h2
              · exact h3 m hm
          rw [e]
          exact Post.val (hc rfl) s repX_int h
    | _ => cases e
  | sum =>
    cases a with
    | lst ws =>
      cases hn : intsW ws with
      | none => simp only [biW, hn] at e; cases e
      | some ns =>
        simp only [biW, hn] at e; cases e
        obtain ⟨d, xs, rfl, hr, rr⟩ := rdx_lst hx
        have ex := intsW_paired (fun _ _ => int_inv) rr hn
        exact ⟨d, ns, rfl, by rw [← ex]; exact .inl hr, Post.val (hc rfl) s repX_int h⟩
    | _ => cases e
  | sorted =>
    cases a with
    | lst ws =>
      obtain ⟨d, xs, rfl, hr, rr⟩ := rdx_lst hx
      have e : sortW ws = some (fr, w) := e
      unfold sortW at e
      cases hn : intsW ws with
      | some ns =>
        rw [hn] at e
        cases e
        have ex := intsW_paired (fun _ _ => int_inv) rr hn
        refine .inl ⟨d, ns, rfl, by rw [← ex]; exact .inl hr, fun ns' p hp hs hpn => ?_⟩
        rw [sortI_uniq hp hs]
        exact new_ints h s hpn
      | none =>
        rw [hn] at e
        dsimp only at e
        cases hm : strsW ws with
        | some ss =>
          rw [hm] at e
          dsimp only at e
          obtain ⟨hz, e⟩ := if_some e
          cases e
          have ex := strsW_paired (fun _ _ => str_inv) rr hm
          refine .inr (.inl ⟨d, ss, rfl, by rw [← ex]; exact .inl hr, hz, fun ys p hp hs hpn => ?_⟩)
          rw [sortS_uniq hp hs]
          exact new_strs h s hpn
        | none =>
          rw [hm] at e
          dsimp only at e
          cases hp : prsW ws with
          | none => rw [hp] at e; cases e
          | some ps =>
            rw [hp] at e
            cases e
            obtain ⟨e1, e2⟩ := prsW_paired rr hp
            refine .inr (.inr ⟨d, xs, rfl, .inl hr, fun x hx => ?_, fun ys p k hk hpm hsr hpn => ?_⟩)
            · obtain ⟨t, i, j, ex, ht, _⟩ := e1 x hx
              exact ⟨t, i, j, ex, ht⟩
            · have hmap : ys.map k = sortP ps := by
                refine sortP_uniq ?_ hsr
                have := hpm.map k
                rwa [e2 k hk] at this
              rw [← hmap, List.map_map] at h
              refine Post.new h s hpn fun g' st => ⟨_, upd_same, ?_⟩
              refine paired_self fun y hy => ?_
              obtain ⟨t, i, j, ex, ht, hrep⟩ := e1 y (hpm.mem_iff.mp hy)
              have hky : k y = (i, j) := by rw [ex]; exact hk t i j ht
              show RepX T g' _ y (prW (k y))
              rw [hky]
              exact st.repX hrep
    | _ => cases e
  | list =>
    cases a with
    | lst ws =>
      cases e
      obtain ⟨d, xs, rfl, hr, rr⟩ := rdx_lst hx
      exact .inl ⟨d, xs, rfl, .inl (.inl hr), fun p hp => Post.new h s hp fun g' st => ⟨_, upd_same, paired_imp rr fun _ _ => st.repX⟩⟩
    | tup ws =>
      cases e
      obtain ⟨d, xs, rfl, hr, rr⟩ := rdx_tup hx
      exact .inl ⟨d, xs, rfl, .inr hr, fun p hp => Post.new h s hp fun g' st => ⟨_, upd_same, paired_imp rr fun _ _ => st.repX⟩⟩
    | dct kvs =>
      cases e
      obtain ⟨d, xs, rfl, hr, rr⟩ := rdx_dct hx
      refine .inr ⟨d, xs, rfl, hr, fun p hp => Post.new h s hp fun g' st => ⟨_, upd_same, keys_paired rr⟩⟩
    | _ => cases e
  | tuple =>
    cases a with
    | lst ws =>
      cases e
      obtain ⟨d, xs, rfl, hr, rr⟩ := rdx_lst hx
      exact ⟨d, xs, rfl, .inl ⟨.inl hr, fun p hp => new_tup (hc rfl) h s rr hp⟩⟩
    | tup ws =>
      cases e
      obtain ⟨d, xs, ed, hr, rr⟩ := rdx_tup hx
      rw [ed]
      refine ⟨d, xs, rfl, .inr ⟨hr, ?_⟩⟩
      refine Post.val (hc rfl) s ?_ h
      rcases hx with hx | ⟨a, fl, _, o⟩
      · rw [← ed]; exact hx
      · exact o.elim
    | _ => cases e
  | dict =>
    cases a with
    | dct kvs =>
      cases e
      obtain ⟨d, xs, rfl, hr, rr⟩ := rdx_dct hx
      exact ⟨d, xs, rfl, hr, fun p hp => Post.new h s hp fun g' st => ⟨_, by simp [upd_same], paired_imp rr fun _ _ z => ⟨z.1, st.repX z.2⟩⟩⟩
    | _ => cases e
  | _ => cases a <;> cases e
theorem bi2_sem {b : BI} {x y : V} {a a2 w : W} {fr : Bool} {Q : VK} (s : Sim T g H env S σ) (hx : RepX T g H x a) (hy : RepX T g H y a2) (e : biW b [a, a2] = some (fr, w)) (hc : fr = false → c ≠ .F) (h : Post T W' q (Res T c) g env σ H (.ok w S) Q) : rB T.K b [x, y] H Q := by
  cases b with
  | max2 =>
    cases a with
    | int i =>
      cases a2 with
      | int j => cases e; exact ⟨i, j, by rw [int_inv hx, int_inv hy], Post.val (hc rfl) s repX_int h⟩
      | _ => cases e
    | _ => cases e
  | min2 =>
    cases a with
    | int i =>
      cases a2 with
      | int j => cases e; exact ⟨i, j, by rw [int_inv hx, int_inv hy], Post.val (hc rfl) s repX_int h⟩
      | _ => cases e
    | _ => cases e
  | divmod =>
    cases a with
    | int i =>
      cases a2 with
      | int j =>
        obtain ⟨hz, e2⟩ := if_some (show (if 0 < j ∧ j < 1073741824 then some (false, W.tup [.int (i / j), .int (i % j)]) else none) = some (fr, w) from e)
        cases e2
        exact ⟨i, j, by rw [int_inv hx, int_inv hy], hz, fun p hp => new_tup (hc rfl) h s (.cons repX_int (.cons repX_int .nil)) hp⟩
      | _ => cases e
    | _ => cases e
  | _ => cases a <;> cases a2 <;> cases e
end
theorem biW_long {b : BI} {x y z : W} {l : List W} : biW b (x :: y :: z :: l) = none := by
  cases b <;> first | rfl | (cases x <;> first | rfl | (cases y <;> rfl))
section
variable {X : Cx} {T : Tx} {W' : WX} {c : Ctx} {pos p : Pos}
theorem se_bi1 (G : XG X T) {b : BI} {e : Expr} {e' : E} (hg : Gl X (nB b)) (hm : X.mg (nB b) = none) (he : PE X e (tE T W' .B e')) (ok : okx e = true) : PE X (.Call (.Name (nB b) p) [e] [] pos) (tE T W' c (.bcall b [e'])) := by
  have z := pe_bi (p := p) (pos := pos) (b := b) G.calm hg hm (L2.pa_cons he L2.pa_nil (star_cons ok [])) ok rfl
  rw [G.eK] at z
  refine pe_imp z fun σ H Q ⟨g, env, S, s, p⟩ => ?_
  unfold ev at p
  refine ⟨g, env, S, s, Post.bind (qa := quiet e') (qb := true) bm_res (by simp [quiet, quiets]) p fun av S1 x g1 H1 _ e1 s1 r1 p1 => ?_⟩
  obtain ⟨fr, w, ew, hc, p4⟩ := ofPV_ok p1
  exact bi1_sem s1 r1 ew hc p4
theorem se_bi2 (G : XG X T) {b : BI} {e e2 : Expr} {e' e2' : E} (hg : Gl X (nB b)) (hm : X.mg (nB b) = none) (he : PA X [e, e2] (tA T W' .V [e', e2'])) (ok : okx e = true) (ok2 : okx e2 = true) : PE X (.Call (.Name (nB b) p) [e, e2] [] pos) (tE T W' c (.bcall b [e', e2'])) := by
  have z := pe_bi (p := p) (pos := pos) (b := b) G.calm hg hm he ok (by simp [okxs, ok2])
  rw [G.eK] at z
  refine pe_imp z fun σ H Q ⟨g, env, S, s, p⟩ => ?_
  unfold ev at p
  refine ⟨g, env, S, s, Post.bind (qa := quiets [e', e2']) (qb := true) bm_res (by simp [quiet, quiets]) p fun av S1 x g1 H1 _ e1 s1 r1 p1 => ?_⟩
  obtain ⟨fr, w, ew, hc, p4⟩ := ofPV_ok p1
  have r := resA_V r1
  cases r with
  | nil => cases b <;> cases ew
  | cons ra rt =>
    cases rt with
    | nil => exact bi1_sem s1 ra.rdX ew hc p4
    | cons rb rt2 =>
      cases rt2 with
      | nil => exact bi2_sem s1 ra rb ew hc p4
      | cons _ _ => rw [biW_long] at ew; cases ew
end
end Wb

namespace Wb
open PySem PySem.Spec PyProof.Rows
open L2 (V Hp HO Rd upd upd_same upd_ne SqL SqT VK TE TT TA TS TG TI TO Ends WX XK R2 Cx Inv RelV Vals ne_of_none PE PT PA PS PSs PG PI OpR UnR CallR MtR Gl Vis Loc)
section
variable {X : Cx} {T : Tx} {W' : WX} {c : Ctx} {pos p apos : Pos}
theorem m1_ok {o e : Expr} {m : Str} {env : PySem.Env} (ho : okx o = true) (he : okx e = true) (hl : (apos.endLine == pos.line) = true) (hE : X.env = env) : L2.M1 X o m apos e pos := by
  subst hE
  refine ⟨base_ok ho m, ?_, hl, ?_⟩
  · rw [star_cons he []]; rfl
  · rw [star_cons he []]; rfl
theorem m2_ok {o e f : Expr} {m : Str} (ho : okx o = true) (he : okx e = true) (hf : okx f = true) (hl : (apos.endLine == pos.line) = true) : L2.M2 X o m apos e f pos := by
  refine ⟨base_ok ho m, ?_, hl, ?_⟩
  · rw [star_cons he [f], star_cons hf []]; rfl
  · rw [star_cons he [f], star_cons hf []]; rfl
theorem isD_rdx {g : Gh} {H : Hp} {x : V} {kvs : List (Key × W)} (h : RdX T g H x (.dct kvs)) : ∃ a, x = .ref a ∧ L2.IsD H a := by
  obtain ⟨d, xs, rfl, hr, rr⟩ := rdx_dct h
  exact ⟨d, rfl, .inl ⟨xs, hr⟩⟩
theorem get_post {g : Gh} {env : Env} {S : Store} {σ : L2.St} {H : Hp} {q : Bool} {x y : V} {kvs : List (Key × W)} {k d w : W} {fr : Bool} {Q : VK} {z : V} (s : Sim T g H env S σ) (hx : RdX T g H x (.dct kvs)) (hy : RepX T g H y k) (hz : RepX T g H z d)
    (e : (keyW k).map (fun k => (false, (valW kvs k).getD d)) = some (fr, w)) (hc : fr = false → c ≠ .F) (h : Post T W' q (Res T c) g env σ H (.ok w S) Q) {a : Addr} (ea : x = .ref a) : ∃ o, L2.DGet H a y o ∧ Q (o.getD z) H := by
  cases hk : keyW k with
  | none => rw [hk] at e; cases e
  | some kk =>
    rw [hk] at e; cases e
    obtain ⟨a', o, e1, dg, ho⟩ := get_rdx hx hy.rdX hk
    rw [ea] at e1
    cases e1
    refine ⟨o, dg, ?_⟩
    rcases ho with ⟨h1, rfl⟩ | ⟨w', v, h1, rfl, h3⟩
    · rw [h1] at h
      exact Post.val (hc rfl) s hz h
    · rw [h1] at h
      exact Post.val (hc rfl) s h3 h
theorem se_get1 (G : XG X T) {o e : Expr} {o' e' : E} (ho : PE X o (tE T W' (.held (quiet e')) o')) (he : PE X e (tE T W' .V e')) (oko : okx o = true) (oke : okx e = true) (hl : (apos.endLine == pos.line) = true) :
    PE X (.Call (.Attribute o "get" apos) [e] [] pos) (tE T W' c (.bmeth .get1 o' [e'])) := by
  refine pe_imp (L2.pe_dget1 (by have := G.hu; omega) ho he (m1_ok oko oke hl rfl)) fun σ H Q ⟨g, env, S, s, p⟩ => ?_
  unfold ev at p
  simp only [quiets, Bool.and_true] at p
  refine ⟨g, env, S, s, Post.bind (qa := quiet o') (qb := quiet e') bm_res (by simp [quiet, quiets]) p fun av S1 x g1 H1 _ e1 s1 r1 p1 => ?_⟩
  split at p1
  · rename_i hr
    have rx := held_rdx r1 (Ext.refl)
    cases av with
    | dct kvs =>
      obtain ⟨a, rfl, hd⟩ := isD_rdx rx
      refine ⟨a, rfl, hd, g1, env, S1, s1, ?_⟩
      unfold evs evs at p1
      simp only [R.bind_assoc, R.bind_ok] at p1
      refine Post.bind (qa := quiet e') (qb := true) bm_res (by simp) p1 fun bv S2 y g2 H2 _ e2 s2 r2 p2 => ?_
      obtain ⟨fr, w, ew, hc, p4⟩ := ofPV_ok p2
      exact get_post s2 (held_rdx r1 e2) r2 repX_non ew hc p4 rfl
    | _ => exact absurd hr Bool.false_ne_true
  · exact p1.elim
theorem se_get2 (G : XG X T) {o e f : Expr} {o' e' f' : E} (ho : PE X o (tE T W' (.held (quiet e' && quiet f')) o')) (he : PE X e (tE T W' .V e')) (hf : PE X f (tE T W' .V f')) (oko : okx o = true) (oke : okx e = true) (okf : okx f = true) (hl : (apos.endLine == pos.line) = true) :
    PE X (.Call (.Attribute o "get" apos) [e, f] [] pos) (tE T W' c (.bmeth .get2 o' [e', f'])) := by
  refine pe_imp (L2.pe_dget2 (by have := G.hu; omega) ho he hf (m2_ok oko oke okf hl)) fun σ H Q ⟨g, env, S, s, p⟩ => ?_
  unfold ev at p
  simp only [quiets, Bool.and_true] at p
  refine ⟨g, env, S, s, Post.bind (qa := quiet o') (qb := quiet e' && quiet f') bm_res (by simp [quiet, quiets]) p fun av S1 x g1 H1 _ e1 s1 r1 p1 => ?_⟩
  split at p1
  · rename_i hr
    have rx := held_rdx r1 (Ext.refl)
    cases av with
    | dct kvs =>
      obtain ⟨a, rfl, hd⟩ := isD_rdx rx
      refine ⟨a, rfl, hd, g1, env, S1, s1, ?_⟩
      unfold evs evs evs at p1
      simp only [R.bind_assoc, R.bind_ok] at p1
      refine Post.bind (qa := quiet e') (qb := quiet f') bm_res (by simp) p1 fun bv S2 y g2 H2 _ e2 s2 r2 p2 => ?_
      refine ⟨g2, env, S2, s2, Post.bind (qa := quiet f') (qb := true) bm_res (by simp) p2 fun dv S3 z g3 H3 _ e3 s3 r3 p3 => ?_⟩
      obtain ⟨fr, w, ew, hc, p4⟩ := ofPV_ok p3
      exact get_post s3 (held_rdx r1 (e2.trans' e3)) (e3.stay.repX r2) r3 ew hc p4 rfl
    | _ => exact absurd hr Bool.false_ne_true
  · exact p1.elim
theorem se_join (G : XG X T) {o e : Expr} {o' e' : E} (ho : PE X o (tE T W' (.held (quiet e')) o')) (he : PE X e (tE T W' .V e')) (oko : okx o = true) (oke : okx e = true) (hl : (apos.endLine == pos.line) = true) :
    PE X (.Call (.Attribute o "join" apos) [e] [] pos) (tE T W' c (.bmeth .join o' [e'])) := by
  have z := L2.pe_join (apos := apos) (pos := pos) ho he (by rw [star_cons oke []]; rfl) (base_ok oko _) hl
  rw [G.eK] at z
  refine pe_imp z fun σ H Q ⟨g, env, S, s, p⟩ => ?_
  unfold ev at p
  simp only [quiets, Bool.and_true] at p
  refine ⟨g, env, S, s, Post.bind (qa := quiet o') (qb := quiet e') bm_res (by simp [quiet, quiets]) p fun av S1 x g1 H1 _ e1 s1 r1 p1 => ?_⟩
  split at p1
  · rename_i hr
    have rx := held_rdx r1 (Ext.refl)
    cases av with
    | str z =>
      refine ⟨⟨z, rdx_str rx⟩, g1, env, S1, s1, ?_⟩
      unfold evs evs at p1
      simp only [R.bind_assoc, R.bind_ok] at p1
      refine Post.bind (qa := quiet e') (qb := true) bm_res (by simp) p1 fun bv S2 y g2 H2 _ e2 s2 r2 p2 => ?_
      obtain ⟨fr, w, ew, hc, p4⟩ := ofPV_ok p2
      cases bv with
      | lst ws =>
        cases hn : strsW ws with
        | none => simp only [bmW, hn] at ew; cases ew
        | some ss =>
          simp only [bmW, hn] at ew
          obtain ⟨hz, ew⟩ := if_some ew
          cases ew
          obtain ⟨d, xs, rfl, hl, rr⟩ := lst_inv r2
          have ex := strsW_paired (fun _ _ => str_inv) rr hn
          exact ⟨z, d, ss, rdx_str rx, rfl, .inl (by rw [← ex]; exact .inl hl.2), hz, Post.val (hc rfl) s2 repX_str p4⟩
      | _ => cases ew
    | _ => exact absurd hr Bool.false_ne_true
  · exact p1.elim
theorem se_split (G : XG X T) {o e : Expr} {o' e' : E} (ho : PE X o (tE T W' (.held (quiet e')) o')) (he : PE X e (tE T W' .V e')) (oko : okx o = true) (oke : okx e = true) (hl : (apos.endLine == pos.line) = true) :
    PE X (.Call (.Attribute o "split" apos) [e] [] pos) (tE T W' c (.bmeth .split o' [e'])) := by
  have z := L2.pe_split (apos := apos) (pos := pos) ho he (by rw [star_cons oke []]; rfl) (base_ok oko _) hl
  refine pe_imp z fun σ H Q ⟨g, env, S, s, p⟩ => ?_
  unfold ev at p
  simp only [quiets, Bool.and_true] at p
  refine ⟨g, env, S, s, Post.bind (qa := quiet o') (qb := quiet e') bm_res (by simp [quiet, quiets]) p fun av S1 x g1 H1 _ e1 s1 r1 p1 => ?_⟩
  split at p1
  · rename_i hr
    have rx := held_rdx r1 (Ext.refl)
    cases av with
    | str z =>
      refine ⟨⟨z, rdx_str rx⟩, g1, env, S1, s1, ?_⟩
      unfold evs evs at p1
      simp only [R.bind_assoc, R.bind_ok] at p1
      refine Post.bind (qa := quiet e') (qb := true) bm_res (by simp) p1 fun bv S2 y g2 H2 _ e2 s2 r2 p2 => ?_
      obtain ⟨fr, w, ew, hc, p4⟩ := ofPV_ok p2
      cases bv with
      | str t =>
        simp only [bmW] at ew
        obtain ⟨hz, ew⟩ := if_some ew
        cases ew
        exact ⟨z, t, rdx_str rx, by rw [str_inv r2], hz.1, by rw [← sizeL_eq]; exact hz.2, fun p hp => new_strs p4 s2 hp⟩
      | _ => cases ew
    | _ => exact absurd hr Bool.false_ne_true
  · exact p1.elim
def tyNm : Ty → String
  | .int => "int" | .bool => "bool" | .str => "str" | .tuple => "tuple" | .list => "list" | .dict => "dict"
def tyNs : Ty → Str
  | .int => "int" | .bool => "bool" | .str => "str" | .tuple => "tuple" | .list => "list" | .dict => "dict"
def tyV (t : Ty) : Value := .type (tyNm t)
def isB (s t : Ty) : Bool := decide (s = t) || (decide (s = .bool) && decide (t = .int))
theorem kit_tt (K : PySem.W.Frag) (s t : Ty) : PySem.W.kitOne K (tyV s) (tyV t) = some (isB s t) := by
  have h : L2.kitB (tyNm s) (tyNm t) = some (isB s t) := by cases s <;> cases t <;> decide +kernel
  exact L2.kit_ty h
theorem kit_none (K : PySem.W.Frag) (t : Ty) : PySem.W.kitOne K (.type "NoneType") (tyV t) = some false := by
  have h : L2.kitB "NoneType" (tyNm t) = some false := by cases t <;> decide +kernel
  exact L2.kit_ty h
theorem ty_rdx {g : Gh} {H : Hp} {x : V} {w : W} {s : Ty} (h : RdX T g H x w) (e : tyW w = some s) : L2.TyX T.K H x (tyV s) := by
  cases w with
  | bl b => cases e; rw [rdx_bl h]; exact .base (.bl b)
  | int b => cases e; rw [rdx_int h]; exact .base (.int b)
  | str b => cases e; rw [rdx_str h]; exact .base (.str b)
  | tup ws =>
    cases e
    obtain ⟨a, xs, rfl, hr, _⟩ := rdx_tup h
    rcases hr with (hr | ⟨o, hr⟩) | ⟨o, its, n, hk, hc, _⟩
    · exact .base (.tup hr)
    · exact .fTuple hr
    · exact .kTuple hk hc
  | lst ws =>
    cases e
    obtain ⟨a, xs, rfl, hr, _⟩ := rdx_lst h
    rcases hr with hr | ⟨o, hr⟩
    · exact .base (.lst hr)
    · exact .base (.frz hr)
  | dct ws =>
    cases e
    obtain ⟨a, xs, rfl, hr, _⟩ := rdx_dct h
    rcases hr with hr | ⟨o, hr⟩
    · exact .base (.dK hr)
    · exact .fDict hr
  | _ => cases e
theorem boot_ty (t : Ty) : bootBuiltins (tyNs t) = some (tyV t) := by cases t <;> decide +kernel
theorem se_isi (G : XG X T) {e : Expr} {e' : E} {t : Ty} {p2 : Pos} (hg : Gl X "isinstance") (hm : X.mg "isinstance" = none) (hgt : Gl X (tyNs t)) (hmt : X.mg (tyNs t) = none) (he : PE X e (tE T W' .B e')) (ok : okx e = true) :
    PE X (.Call (.Name "isinstance" p) [e, .Name (tyNs t) p2] [] pos) (tE T W' c (.isi e' t)) := by
  have ht : PE X (.Name (tyNs t) p2) (L2.tC (.ty (tyNm t))) := L2.pe_bltn hgt hmt (boot_ty t) rfl (by cases t <;> decide +kernel) (by cases t <;> decide +kernel)
  have z := L2.pe_callB (p := p) (pos := pos) L2.call_isi hg hm PyProof.Rows.boot_isinstance (L2.pa_cons he (L2.pa_cons ht L2.pa_nil rfl) (star_cons ok _)) (by decide +kernel) (by decide +kernel) (star_cons ok _) rfl
  rw [G.eK] at z
  refine pe_imp z fun σ H Q ⟨g, env, S, s, p⟩ => ?_
  unfold ev at p
  refine ⟨g, env, S, s, Post.bind (qa := quiet e') (qb := true) bm_res (by simp [quiet, quiets]) p fun av S1 x g1 H1 _ e1 s1 r1 p1 => ?_⟩
  obtain ⟨b, eb, hc, p4⟩ := ofB_ok p1
  refine ⟨x, .ty (tyNm t), ?_⟩
  cases av with
  | non =>
    cases eb
    exact ⟨_, _, _, rfl, .ty _, by rw [rdx_non r1]; exact .base .non, kit_none T.K t, Post.val hc s1 repX_bl p4⟩
  | _ =>
    first
      | (cases eb; done)
      | (cases eb; exact ⟨_, _, _, rfl, .ty _, ty_rdx r1 rfl, kit_tt T.K _ t, Post.val hc s1 repX_bl p4⟩)
end
end Wb

namespace Wb
open PySem PySem.Spec PyProof.Rows
open L2 (V Hp HO Rd upd upd_same upd_ne SqL SqT VK TE TT TA TS TG TI TO Ends WX XK R2 Cx Inv RelV Vals ne_of_none PE PT PA PS PSs PG PI OpR UnR CallR MtR Gl Vis Loc)
section
variable {X : Cx} {T : Tx} {W' : WX} {c : Ctx} {pos p apos : Pos}
theorem idxW_V {g : Gh} {H : Hp} {x : W} (fx : flatW x = true) : ∀ {xs : List V} {ws : List W} {j : Nat}, Paired (RepX T g H) xs ws → ws.all flatW = true → idxW x ws = some j →
    ∃ z, xs[j]? = some z ∧ L2.eqV z (toV x) = true ∧ ∀ (m : Nat) (z' : V), m < j → xs[m]? = some z' → L2.eqV z' (toV x) = false
  | [], _, j, r, _, h => by cases r; cases h
  | y :: xs, [], j, r, f, h => by cases h
  | y :: xs, w :: ws, j, r0, f, h => by
    obtain ⟨r, rr⟩ : RepX T g H y w ∧ Paired (RepX T g H) xs ws := by cases r0; exact ⟨by assumption, by assumption⟩
    rw [List.all_cons, Bool.and_eq_true] at f
    obtain ⟨e1, e2⟩ := flat_rdx r.rdX f.1
    unfold idxW at h
    by_cases hh : eqF w x = true
    · rw [if_pos hh] at h
      cases h
      exact ⟨y, rfl, by rw [e1, eqF_V f.1 fx]; exact hh, fun m z hm => absurd hm (Nat.not_lt_zero _)⟩
    · rw [if_neg hh] at h
      cases q : idxW x ws with
      | none => rw [q] at h; cases h
      | some i =>
        rw [q] at h
        cases h
        obtain ⟨z, h1, h2, h3⟩ := idxW_V fx rr f.2 q
        refine ⟨z, h1, h2, fun m z' hm hz => ?_⟩
        cases m with
        | zero =>
          cases hz
          rw [e1, eqF_V f.1 fx]
          exact Bool.eq_false_iff.mpr hh
        | succ m => exact h3 m z' (Nat.lt_of_succ_lt_succ hm) hz
theorem idxS_at {x : Str} : ∀ {ss : List Str} {j : Nat}, idxS x ss = some j → ss[j]? = some x ∧ ∀ m, m < j → ss[m]? ≠ some x
  | [], _, h => by cases h
  | y :: ss, j, h => by
    unfold idxS at h
    by_cases hh : y = x
    · rw [if_pos hh] at h
      cases h
      exact ⟨by rw [hh]; rfl, fun m hm => absurd hm (Nat.not_lt_zero _)⟩
    · rw [if_neg hh] at h
      cases q : idxS x ss with
      | none => rw [q] at h; cases h
      | some i =>
        rw [q] at h
        cases h
        obtain ⟨h1, h2⟩ := idxS_at q
        refine ⟨h1, fun m hm => ?_⟩
        cases m with
        | zero => intro z; cases z; exact hh rfl
        | succ m => exact h2 m (Nat.lt_of_succ_lt_succ hm)
theorem few1 {e : Expr} {env : PySem.Env} {cpos : Pos} (h : starEach [e] env = [(false, eval e env)]) : ((backTo cpos (starEach [e] env)).all (fun x => !x.1) && (backToKw cpos (keywordEach [] env)).all (fun x => x.1.isSome)
      && decide ([e].length + ([] : List Keyword).length + (if ([] : List Keyword).isEmpty then 0 else 1) < 30)) = true := by
  rw [h]; rfl
theorem se_index (G : XG X T) {o e : Expr} {o' e' : E} (ho : PE X o (tE T W' (.held (quiet e')) o')) (he : PE X e (tE T W' .V e')) (oko : okx o = true) (oke : okx e = true) (hl : (apos.endLine == pos.line) = true) :
    PE X (.Call (.Attribute o "index" apos) [e] [] pos) (tE T W' c (.bmeth .index o' [e'])) := by
  have hs : starEach [e] X.env = [(false, eval e X.env)] := by rw [star_cons oke []]; rfl
  have z := L2.pe_bm (apos := apos) (cpos := pos) (T := "list") PySem.F.plainAttrs_list PySem.F.slot_list_index PySem.F.type_list_index L2.mt_index ho (L2.pa_cons he L2.pa_nil hs) (base_ok oko _) (few1 hs) hl hs rfl
  rw [G.eK] at z
  refine pe_imp z fun σ H Q ⟨g, env, S, s, p⟩ => ?_
  unfold ev at p
  simp only [quiets, Bool.and_true] at p
  refine ⟨g, env, S, s, Post.bind (qa := quiet o') (qb := quiet e') bm_res (by simp [quiet, quiets]) p fun av S1 x g1 H1 _ e1 s1 r1 p1 => ?_⟩
  split at p1
  · rename_i hr
    have rx := held_rdx r1 (Ext.refl)
    cases av with
    | lst ws =>
      obtain ⟨a, xs, rfl, hr1, rr1⟩ := rdx_lst rx
      refine ⟨.inl ⟨rfl, xs, .inl hr1⟩, g1, env, S1, s1, ?_⟩
      unfold evs evs at p1
      simp only [R.bind_assoc, R.bind_ok] at p1
      refine Post.bind (qa := quiet e') (qb := true) bm_res (by simp) p1 fun bv S2 y g2 H2 _ e2 s2 r2 p2 => ?_
      obtain ⟨fr, w, ew, hc, p4⟩ := ofPV_ok p2
      obtain ⟨a2, xs2, ea, hr2, rr2⟩ := rdx_lst (held_rdx r1 e2)
      cases ea
      simp only [bmW] at ew
      by_cases hf : (flatW bv && ws.all flatW) = true
      · rw [if_pos hf] at ew
        rw [Bool.and_eq_true] at hf
        cases hj : idxW bv ws with
        | none => rw [hj] at ew; cases ew
        | some j =>
          rw [hj] at ew
          cases ew
          obtain ⟨z, h1, h2, h3⟩ := idxW_V hf.1 rr2 hf.2 hj
          obtain ⟨ey, fy⟩ := flat_rdx r2.rdX hf.1
          have fl := (flats rr2 hf.2).1
          refine ⟨a, xs2, y, j, z, rfl, rfl, .inl hr2, fy, fl, h1, by rw [ey]; exact h2, fun m z' hm hz => by rw [ey]; exact h3 m z' hm hz, Post.val (hc rfl) s2 (repX_int) p4⟩
      · rw [if_neg hf] at ew; cases ew
    | _ => exact absurd hr Bool.false_ne_true
  · exact p1.elim
theorem se_indexT (G : XG X T) {o e : Expr} {e' : E} {y : Str} {w : W} {q : Addr} {ob : Obj} (ho : PE X o (L2.tC (.ref q))) (st : Stable T (.ref q) w) (hk : T.K.lookup q = some ob) (hc : ob.cls = .type "tuple") (hd : ob.dict = none)
    (he : PE X e (tE T W' .V e')) (oko : okx o = true) (oke : okx e = true) (hl : (apos.endLine == pos.line) = true) : PE X (.Call (.Attribute o "index" apos) [e] [] pos) (tE T W' c (.bmeth .indexT (.glob y w) [e'])) := by
  have hs : starEach [e] X.env = [(false, eval e X.env)] := by rw [star_cons oke []]; rfl
  have z := L2.pe_bm (apos := apos) (cpos := pos) (T := "tuple") PySem.F.plainAttrs_tuple PySem.F.slot_tuple_index PySem.F.type_tuple_index L2.mt_tup_index ho (L2.pa_cons he L2.pa_nil hs) (base_ok oko _) (few1 hs) hl hs rfl
  rw [G.eK] at z
  refine pe_imp z fun σ H Q ⟨g, env, S, s, p⟩ => ?_
  have eg : ev (.held (quiet e')) (.glob y w) env S = .ok w S := by unfold ev; cases quiet e' <;> rfl
  unfold ev at p
  simp only [quiets, Bool.and_true] at p
  rw [eg, R.bind_ok] at p
  refine ⟨.inr (.inl ⟨rfl, ob, hk, hc, hd⟩), g, env, S, s, ?_⟩
  split at p
  · rename_i hr
    cases w with
    | tup ws =>
      obtain ⟨a, xs, ea, l, rr⟩ := tup_inv (st g H)
      unfold evs evs at p
      simp only [R.bind_assoc, R.bind_ok] at p
      refine Post.bind (qa := quiet e') (qb := true) bm_res (by simp [quiet, quiets]) p fun bv S2 y g2 H2 _ e2 s2 r2 p2 => ?_
      obtain ⟨fr, w2, ew, hc2, p4⟩ := ofPV_ok p2
      obtain ⟨a2, xs2, ea2, l2, rr2⟩ := tup_inv (st g2 H2)
      cases ea2
      have hq : SqT T.K H2 q xs2 := by
        rcases l2 with ⟨_, l⟩ | l
        · exact .inl l
        · exact .inr l
      cases bv with
      | str x =>
        simp only [bmW] at ew
        cases hn : strsW ws with
        | none => rw [hn] at ew; cases ew
        | some ss =>
          rw [hn] at ew
          simp only at ew
          cases hj : idxS x ss with
          | none => rw [hj] at ew; cases ew
          | some j =>
            rw [hj] at ew
            cases ew
            have ex := strsW_paired (fun _ _ => str_inv) rr2 hn
            obtain ⟨h1, h2⟩ := idxS_at hj
            exact ⟨q, ss, x, j, rfl, by rw [str_inv r2], by rw [← ex]; exact hq, h1, h2, Post.val (hc2 rfl) s2 repX_int p4⟩
      | _ => cases ew
    | _ => exact absurd hr Bool.false_ne_true
  · exact p.elim
end
end Wb

namespace Wb
open PySem PySem.Spec PyProof.Rows
open L2 (V Hp HO Rd upd upd_same upd_ne SqL SqT VK TE TT TA TS TG TI TO Ends WX XK R2 Cx Inv RelV Vals ne_of_none PE PT PA PS PSs PG PI OpR UnR CallR MtR Gl Vis Loc mixKind)
structure DicK (P : Program) (w : World) (K : PySem.W.Frag) (q : Addr) (kvs : List (Str × Str)) : Prop where
  ns : (q == sysModules) = false
  ex : ∃ ob es ep vs, K.lookup q = some ob ∧ ob.ExactDict ∧ ob.data = .dict es ep ∧ KeysOf (mixKind P w) es ∧ Pairs (mixKind P w) es.toList vs ∧ (vs.map (·.1)).Nodup ∧
    Paired (fun (p : Str × Str) (r : L2.Key × Value) => r.1 = .inr p.1 ∧ ∃ t, r.2 = .str p.2 t) kvs vs
def strV (p : Str × Str) : L2.Key × V := (.inr p.1, .str p.2)
theorem DicK.of {P : Program} {w : World} {K : PySem.W.Frag} {q : Addr} {kvs : List (Str × Str)} (d : DicK P w K q kvs) {h : Heap} (hk : K.In h) : ∃ vs, L2.KV (kvs.map strV) vs ∧ h.DictOf (mixKind P w) q vs := by
  obtain ⟨ob, es, ep, vs, h1, h2, h3, h4, h5, h6, h7⟩ := d.ex
  refine ⟨vs, ?_, ob, es, ep, hk q ob h1, h2, h3, h4, h5, h6⟩
  clear h1 h2 h3 h4 h5 h6 d
  induction h7 with
  | nil => exact .nil
  | cons a b ih =>
    obtain ⟨e, t, f⟩ := a
    exact .cons ⟨e.symm, by rw [f]; exact ⟨t, rfl⟩⟩ ih
section
variable {X : Cx} {o i : Expr} {pos : Pos} {ty : TE} {q : Addr} {kvs : List (Str × Str)}
def findS (kvs : List (Str × Str)) (k : Str) : Option Str := (kvs.find? fun p => decide (p.1 = k)).map (·.2)
theorem valV_str (k : Str) : ∀ kvs : List (Str × Str), L2.valV (kvs.map strV) (.inr k) = (findS kvs k).map V.str
  | [] => rfl
  | p :: r => by
    have ih := valV_str k r
    by_cases e : p.1 = k
    · have e1 : (strV p).1 = .inr k := by show (Sum.inr p.1 : L2.Key) = .inr k; rw [e]
      rw [List.map_cons, L2.valV_pos e1]
      unfold findS
      rw [List.find?_cons_of_pos (by simp [e])]
      rfl
    · have e1 : ¬ (strV p).1 = .inr k := fun z => e (Sum.inr.inj z)
      rw [List.map_cons, L2.valV_neg e1, ih]
      unfold findS
      rw [List.find?_cons_of_neg (by simp [e])]
theorem ix_dictK (dk : DicK X.prog X.w X.K q kvs) : L2.IxR X (fun x y H Q => x = .ref q ∧ ∃ k z, y = .str k ∧ findS kvs k = some z ∧ Q (.str z) H) := by
  intro value slice pins s σ H x y v u Q I rx ry h hs
  obtain ⟨rfl, k, z, rfl, hz, q2⟩ := h
  obtain rfl : v = Value.ref q := rx
  obtain ⟨vs, rel, dd⟩ := dk.of I.kIn
  have l : L2.valV (kvs.map strV) (.inr k) = some (.str z) := by rw [valV_str, hz]; rfl
  obtain ⟨w', hw, rw'⟩ := L2.RelO.some_of (v := .str z) (o := valueAt vs (.inr k)) (by rw [← l]; exact rel.val (.inr k))
  exact tail_any dd.typeIs PySem.F.slot_dict_getitem.lookup (wpAny_getItem_of (L2.kV_is (k := .inr k) ry) dd.mapOf hw ⟨_, H, I.tok _, rw', q2⟩) hs
end
section
variable {prog : Program} {w : World} {A : Around} {E : Value → Shared → Prop} {s : Shared} {r d : Addr} {n : Nat} {T : String} {P : Nat → Value → Prop} {OK : Heap → Prop}
theorem code_tup_src {Q₁ : Value → Shared → Prop} (K : PySem.W.KdlSrc prog w T r d n P OK) (hT : T = "dict") (hh : A.handled = none) (hok : OK s.heap) (hn : n ≤ sizeLine)
    (h : ∀ (h' : Heap) (tk : Nat) (acc : Array Value), (∀ b o, s.heap.get? b = some o → h'.get? b = some o) → ItemsOf P acc n →
      Q₁ (.ref h'.objs.size) { s with heap := h'.push { cls := .type "tuple", data := .seq acc }, toks := tk }) :
    codeAny (model prog w) A (.call (.builtin "tuple.__new__") ⟨[.type "tuple", .ref r], []⟩) (wants Q₁ E) s := by
  refine codeAny_of_tree ?_
  show wpAny _ A.in1 (do checkBuiltinCall "tuple.__new__" ⟨[.type "tuple", .ref r], []⟩; again (.builtin "tuple.__new__" ⟨[.type "tuple", .ref r], []⟩)) _ _ s
  refine wpAny_bind (wpAny_of_eq (PySem.F.newCall_tuple_1 _) (wpAny_pure ⟨plainId_quiet PySem.F.plain_tuple_new _, codeAny_builtin PySem.F.entry_tuple_new ?_⟩))
  rw [Around.under_plainId PySem.F.plain_tuple_new _]
  have hsub := sub_tuple_self
  have hinit := init_tuple_lookup
  have hmh := madeHere_tuple
  have hTI : s.TypeIs (.ref r) "dict" := by rw [← hT]; exact K.type _ hok
  have hh1 : A.in1.handled = none := hh
  wp_walk using wpAny_typeOf hTI, PySem.W.kdu_collect (A := A.in1) K hh1 hok hn
  intro h' tk acc hk hacc
  show wpAny _ _ (Builtin.Tuple.tupleExact acc.toList.toArray >>= fun v => ret v) _ _ _
  unfold Builtin.Tuple.tupleExact
  refine wpAny_bind (wpAny_newObj_type ?_ (by show acc.toList.toArray.size ≤ sizeLine; simp only [Array.toArray_toList]; rw [hacc.1]; exact hn))
  refine wpAny_pure ?_
  have e : acc.toList.toArray = acc := by simp
  rw [e]
  exact h h' tk acc hk hacc
theorem call_tup_src {Q : Value → Shared → Prop} (K : PySem.W.KdlSrc prog w T r d n P OK) (hT : T = "dict") (hh : A.handled = none) (hok : OK s.heap) (hn : n ≤ sizeLine)
    (hQ : ∀ (h' : Heap) (tk : Nat) (acc : Array Value), (∀ b o, s.heap.get? b = some o → h'.get? b = some o) → ItemsOf P acc n →
      Q (.ref h'.objs.size) { s with heap := h'.push { cls := .type "tuple", data := .seq acc }, toks := tk }) :
    wpAny (model prog w) A (call (.type "tuple") [.ref r]) Q E s := by
  refine callType_codes (Q₁ := fun obj s₁ => s₁.TypeIs obj "tuple" ∧ Q obj s₁) PySem.F.called_tuple (PySem.F.typeCall_tuple_1 _) PySem.F.entry_object_init
    (code_tup_src (A := A.in1) K hT hh hok hn fun h' tk acc hk hacc => ⟨⟨_, Heap.get?_push_size _ rfl, rfl⟩, hQ h' tk acc hk hacc⟩) fun obj s₁ h₁ => ?_
  exact ⟨h₁.1, PySem.F.args_object_init_2 obj _, object_init_meets PySem.F.called_tuple.init.lookup PySem.F.called_tuple.made (by decide) prog w A.in1 _ s₁ ⟨h₁.1, rfl, h₁.2⟩⟩
end
theorem call_tupK {X : Cx} {q : Addr} {kvs : List (Str × Str)} (hc : X.calm = true) (dk : DicK X.prog X.w X.K q kvs) (hl : kvs.length ≤ sizeLine) : CallR X (.type "tuple") (fun xs H Q => xs = [.ref q] ∧ ∀ l, H l = none → Q (.ref l) (upd H l (.tup (kvs.map fun p => V.str p.1)))) := by
  intro pins s σ H xs us Q I r h
  obtain ⟨e, qq⟩ := h
  subst e
  obtain ⟨u, eu, rx⟩ := L2.vals1 r
  subst eu
  obtain rfl : u = Value.ref q := rx
  obtain ⟨vs, rk, hd⟩ := dk.of I.kIn
  obtain ⟨ep, hat⟩ := hd.dictAt
  have hlen : (kvs.map strV).length = vs.length := Paired.length rk
  rw [List.length_map] at hlen
  refine call_tup_src (PySem.W.kdl_dict (knd := mixKind X.prog X.w) (kvs := vs) (ep := ep) dk.ns) rfl (I.ok.hd hc) hat (by rw [← hlen]; exact hl) fun h' tk acc' hkeep hacc => ?_
  have I1 : Inv X pins σ H { s with heap := h', toks := tk } := I.kept hkeep
  refine ⟨.ref h'.objs.size, upd H h'.objs.size (.tup (kvs.map fun p => V.str p.1)), I1.laid (fun b o e => Heap.get?_push_of_some _ e) (Nat.le_refl _) (show L2.ObjOk X.prog X.w _ _ _ (.tup (kvs.map fun p => V.str p.1)) from ⟨by rw [List.length_map]; exact hl, acc'.toList, ?_, ?_⟩), rfl, qq _ (I1.hok.fresh (Nat.le_refl _))⟩
  · have el : acc'.toList.length = acc'.size := by simp
    refine L2.vals_of_at (by rw [List.length_map, el, hacc.1, hlen]) fun j x w h1 h2 => ?_
    obtain ⟨k, y, hky, hi⟩ := hacc.2 j w (by rw [← Array.getElem?_toList]; exact h2)
    have e1 : ((kvs.map strV).map (·.1))[j]? = some k := by rw [L2.KV.keys rk, List.getElem?_map, hky]; rfl
    rw [List.map_map, List.getElem?_map] at e1
    rw [List.getElem?_map] at h1
    cases hj : kvs[j]? with
    | none => rw [hj] at h1; cases h1
    | some p =>
      rw [hj] at h1 e1
      cases h1
      cases e1
      exact L2.keyIs_rel (k := .inr p.1) hi
  · rw [Array.toArray_toList]
    exact IsTup.new _ _
def dcW (p : Str × Str) : Key × W := (.inr p.1, .str p.2)
theorem valW_dc (k : Str) : ∀ ss : List (Str × Str), valW (ss.map dcW) (.inr k) = (findS ss k).map W.str
  | [] => rfl
  | p :: r => by
    have ih := valW_dc k r
    unfold valW findS at ih ⊢
    by_cases e : p.1 = k
    · rw [List.map_cons, List.find?_cons_of_pos (by simp [dcW, e]), List.find?_cons_of_pos (by simp [e])]
      rfl
    · have e1 : ¬ ((Sum.inr p.1 : Key) = Sum.inr k) := fun z => e (Sum.inr.inj z)
      rw [List.map_cons, List.find?_cons_of_neg (by simp [dcW, e1, e]), List.find?_cons_of_neg (by simp [e]), ih]
section
variable {X : Cx} {T : Tx} {W' : WX} {c : Ctx} {pos p : Pos}
theorem se_subG (G : XG X T) {o e : Expr} {e' : E} {y : Str} {q : Addr} {ss : List (Str × Str)} (dk : DicK T.prog T.w T.K q ss) (ho : PE X o (L2.tC (.ref q))) (he : PE X e (tE T W' .V e')) (ok : okx e = true) :
    PE X (.Subscript o e pos) (tE T W' c (.bmeth (.subG y) (.cst (.dct (ss.map dcW))) [e'])) := by
  rw [← G.eK, ← G.eP, ← G.eW] at dk
  have z1 : PE X (.Subscript o e pos) _ := L2.pe_ix (ix_dictK dk) ho he (plain_ix ok)
  refine pe_imp z1 fun σ H Q ⟨g, env, S, s, p⟩ => ?_
  have eg : ev (.held (quiet e')) (.cst (.dct (ss.map dcW))) env S = .ok (.dct (ss.map dcW)) S := by unfold ev; cases quiet e' <;> rfl
  unfold ev at p
  simp only [quiets, Bool.and_true] at p
  rw [eg, R.bind_ok, if_pos (show rcvW (.subG y) (.dct (ss.map dcW)) = true from rfl)] at p
  unfold evs evs at p
  simp only [R.bind_assoc, R.bind_ok] at p
  refine ⟨g, env, S, s, Post.bind (qa := quiet e') (qb := true) bm_res (by simp [quiet, quiets]) p fun bv S2 y2 g2 H2 _ e2 s2 r2 p2 => ?_⟩
  obtain ⟨fr, w2, ew, hc2, p4⟩ := ofPV_ok p2
  cases bv with
  | str k =>
    simp only [bmW, valW_dc] at ew
    cases hf : findS ss k with
    | none => rw [hf] at ew; cases ew
    | some z =>
      rw [hf] at ew
      cases ew
      exact ⟨rfl, k, z, str_inv r2, hf, Post.val (hc2 rfl) s2 repX_str p4⟩
  | _ => cases ew
theorem tup_strs {g : Gh} {H : Hp} : ∀ ss : List (Str × Str), Paired (RepX T g H) (ss.map fun p => V.str p.1) (ss.map ((fun p => kW p.1) ∘ dcW))
  | [] => .nil
  | _ :: r => .cons repX_str (tup_strs r)
theorem se_tupG (G : XG X T) {o : Expr} {y : Str} {q : Addr} {ss : List (Str × Str)} (dk : DicK T.prog T.w T.K q ss) (hl : ss.length ≤ sizeLine) (ho : PE X o (L2.tC (.ref q))) (hg : Gl X "tuple") (hm : X.mg "tuple" = none) (ok : okx o = true) :
    PE X (.Call (.Name "tuple" p) [o] [] pos) (tE T W' c (.bmeth (.tupG y) (.cst (.dct (ss.map dcW))) [])) := by
  rw [← G.eK, ← G.eP, ← G.eW] at dk
  have z := L2.pe_callTy (p := p) (pos := pos) (call_tupK G.calm dk hl) hg hm (bootB .tuple) (L2.pa_cons ho L2.pa_nil (star_cons ok [])) (nB_name .tuple) (nB_debug .tuple) (star_cons ok []) (star_none rfl pos)
  refine pe_imp z fun σ H Q ⟨g, env, S, s, p⟩ => ?_
  have eg : ev (.held true) (.cst (.dct (ss.map dcW))) env S = .ok (.dct (ss.map dcW)) S := by unfold ev; rfl
  unfold ev at p
  simp only [quiets] at p
  rw [eg, R.bind_ok, if_pos (show rcvW (.tupG y) (.dct (ss.map dcW)) = true from rfl)] at p
  unfold evs at p
  rw [R.bind_ok] at p
  obtain ⟨fr, w2, ew, hc2, p4⟩ := ofPV_ok p
  cases ew
  refine ⟨rfl, fun l hl => new_tup (hc2 rfl) p4 s ?_ hl⟩
  rw [List.map_map]
  exact tup_strs ss
end
end Wb

namespace Wb
open PySem PySem.Spec PyProof.Rows
open L2 (V Hp HO Rd upd upd_same upd_ne SqL SqT VK TE TT TA TS TG TI TO Ends WX XK R2 Cx Inv RelV Vals ne_of_none PE PT PA PS PSs PG PI OpR UnR CallR MtR Gl Vis Loc)

/-- the cells alone -/
structure SimC (T : Tx) (g : Gh) (H : Hp) (S : Store) : Prop where
  wf : ∀ a, H a = none → g.L a = .out
  cells : ∀ n c, S[n]? = some c → CellOk T g H n c
  fin : ∀ a n, g.L a = .cell n → n < S.length
/-- the own parameters' containers, at the end -/
inductive FinOk (T : Tx) (g' : Gh) (H' : Hp) : Nat → List Bool → List V → List W → Prop where
  | nil (i : Nat) : FinOk T g' H' i [] [] []
  | own {i : Nat} {bs : List Bool} {vs : List V} {fs : List W} {a : Addr} {w : W} (l : g'.L a = .slot i) (o : Own T g' H' .o a w) (r : FinOk T g' H' (i + 1) bs vs fs) : FinOk T g' H' i (true :: bs) (.ref a :: vs) (w :: fs)
  | val {i : Nat} {bs : List Bool} {vs : List V} {fs : List W} {v : V} (r : FinOk T g' H' (i + 1) bs vs fs) : FinOk T g' H' i (false :: bs) (v :: vs) fs
/-- what is handed back -/
def RetOk (T : Tx) (fresh : Bool) (H : Hp) (g' : Gh) (H' : Hp) (x : V) (w : W) : Prop := if fresh then Res T .F H g' H' x w else RepX T g' H' x w
def spF (T : Tx) (f : Fn) : L2.Sp := fun vs H Q E => ∃ g S ws, vs.length = f.own.length ∧ ws.length = f.own.length ∧ Sim T g H (env0 f.own.length f.own ws) S (vs.map some) ∧ (∀ a i, g.L a = .slot i → f.own.getD i false = true) ∧ match f.sem S ws with
  | .ok r S' => ∀ x g' H', ExtS g H g' H' → SimC T g' H' S' → RetOk T f.fresh H g' H' x r.1 → FinOk T g' H' 0 f.own vs r.2 → Q x H'
  | .exn c fs S' => ∀ d g' H', ExtS g H g' H' → SimC T g' H' S' → ExOk T g' H' d fs → E (.ref (T.ca c)) (some d) H'
  | .bad => False
/-- the def at hand: kept -/
structure FOK (T : Tx) (f : Fn) (a : Addr) (fd : FuncData) (ps : List Str) : Prop where
  ok : L2.FnOk T.prog T.w T.K T.mg T.base (L2.CX T.prog T.w) f.lvl a fd ps (spF T f)
  kp : PySem.W.keepIn T.K (.ref a) = true
  dv : ∀ k, k ≤ f.dfl.length → ∃ ds dvs, L2.Binds T.K fd ps ds ∧ Vals dvs ds ∧ Paired (Stable T) dvs (f.dv k)
/-- a def of the module, by its name -/
def FnK (T : Tx) (f : Fn) : Prop := ∃ a fd ps, T.mg f.nm = some (.ref a) ∧ FOK T f a fd ps

def cleanL : Lab → Lab
  | .slot _ => .out
  | l => l
def Gh.clean (g : Gh) : Gh := ⟨fun a => cleanL (g.L a), g.ι⟩
theorem clean_slot {g : Gh} {a : Addr} {i : Nat} (h : g.L a = .slot i) : g.clean.L a = .out := by
  show cleanL (g.L a) = _
  rw [h]
  rfl
theorem clean_ne {g : Gh} {a : Addr} (h : ∀ i, g.L a ≠ .slot i) : g.clean.L a = g.L a := by
  show cleanL (g.L a) = _
  cases q : g.L a with
  | slot i => exact absurd q (h i)
  | _ => rfl
theorem clean_cell {g : Gh} {a : Addr} {n : Nat} (h : g.clean.L a = .cell n) : g.L a = .cell n := by
  have h' : cleanL (g.L a) = .cell n := h
  cases q : g.L a <;> rw [q] at h' <;> first | exact h' | cases h'
theorem clean_out {g : Gh} {a : Addr} (h : g.L a = .out) : g.clean.L a = .out := (clean_ne fun i z => by rw [h] at z; cases z).trans h
section
variable {T : Tx} {g g' : Gh} {env : Env} {S S' : Store} {σ : L2.St} {H H' : Hp}
theorem stay_clean : Stay g H g.clean H := by
  refine ⟨fun a l _ => ?_, fun _ _ _ _ r => r, fun _ _ _ _ _ r => r, fun m l => ⟨rfl, ?_⟩⟩
  · rw [clean_ne fun i z => by rw [l] at z; cases z]; exact l
  · show g.clean.L (g.ι m) = _
    rw [clean_ne fun i z => by rw [l] at z; cases z]; exact l
theorem cell_stay {n : Nat} {c : Cell} (s : Stay g H g' H') (hh : ∀ a, (g.L a = .cell n ∨ ∃ f, g.L a = .fld n f) → H a ≠ none → g'.L a = g.L a ∧ H' a = H a) (h : CellOk T g H n c) : CellOk T g' H' n c := by
  obtain ⟨la, dx, gs, hx, r⟩ := h
  obtain ⟨e1, e2⟩ := s.cel n la
  refine ⟨by rw [e1]; exact e2, dx, gs, by rw [e1, (hh _ (.inl la) (by rw [hx.1]; simp)).2]; exact hx, paired_imp r fun p q z => ⟨z.1, ?_⟩⟩
  have z2 := z.2
  revert z2
  cases q.2.1 with
  | v => exact fun z2 => s.repX z2
  | o =>
    rintro ⟨a, ex, la, o⟩
    obtain ⟨l1, h1⟩ := hh a (.inr ⟨_, la⟩) o.some
    exact ⟨a, ex, l1.trans la, o.stay s h1⟩
  | k =>
    rintro ⟨a, ex, la, o⟩
    obtain ⟨l1, h1⟩ := hh a (.inr ⟨_, la⟩) o.some
    exact ⟨a, ex, l1.trans la, o.stay s h1⟩
theorem Sim.c (s : Sim T g H env S σ) : SimC T g H S := ⟨s.wf, s.cells, s.fin⟩
theorem SimC.clean (s : SimC T g H S) : SimC T g.clean H S := by
  refine ⟨fun a n => clean_out (s.wf a n), fun n c h => cell_stay stay_clean (fun a l _ => ⟨?_, rfl⟩) (s.cells n c h), fun a n h => s.fin a n (clean_cell h)⟩
  refine clean_ne fun i z => ?_
  rcases l with l | ⟨f, l⟩ <;> (rw [l] at z; cases z)
/-- at a callee's entry, all arguments values -/
theorem sim_args (s : SimC T g H S) : ∀ {xs : List V} {ws : List W} {own : List Bool}, Paired (RepX T g H) xs ws → own.length = ws.length → (own.all fun b => !b) = true → Sim T g.clean H (env0 own.length own ws) S (xs.map some) := by
  intro xs ws own r hl ho
  have hz : env0 own.length own ws = ws.map fun w => some (Flag.v, w) := by
    unfold env0
    rw [hl, Nat.sub_self]
    have e : ((own.zip ws).map fun p => some ((if p.1 then Flag.o else Flag.v), p.2)) = ws.map fun w => some (Flag.v, w) := by
      clear r
      induction own generalizing ws with
      | nil =>
        cases ws with
        | nil => rfl
        | cons _ _ => cases hl
      | cons b own ih =>
        cases ws with
        | nil => cases hl
        | cons w ws =>
          rw [List.all_cons, Bool.and_eq_true] at ho
          have hb : b = false := by simpa using ho.1
          subst hb
          rw [List.zip_cons_cons, List.map_cons, List.map_cons, ih (by simpa using hl) ho.2]
          rfl
    rw [e]
    simp
  rw [hz]
  refine ⟨s.clean.wf, by simp [r.length], fun i fl w h => ?_, s.clean.cells, s.clean.fin⟩
  unfold Env.at at h
  rw [List.getElem?_map] at h
  cases q : ws[i]? with
  | none => rw [q] at h; cases h
  | some w' =>
    rw [q] at h
    cases h
    obtain ⟨x, hx, rx⟩ := paired_get r q
    exact ⟨x, by rw [List.getElem?_map, hx]; rfl, stay_clean.repX rx⟩
/-- the labels of the caller's containers again -/
noncomputable def Gh.back (g : Gh) (H : Hp) (g' : Gh) : Gh := by
  classical
  exact ⟨fun a => if ∃ i, g.L a = .slot i ∧ H a ≠ none then g.L a else g'.clean.L a, g'.ι⟩
theorem back_slot {a : Addr} {i : Nat} (h : g.L a = .slot i) (n : H a ≠ none) : (g.back H g').L a = .slot i := by
  classical
  show (if ∃ i, g.L a = .slot i ∧ H a ≠ none then g.L a else g'.clean.L a) = _
  rw [if_pos ⟨i, h, n⟩]; exact h
theorem back_ne {a : Addr} (h : ∀ i, g.L a ≠ .slot i) : (g.back H g').L a = g'.clean.L a := by
  classical
  show (if ∃ i, g.L a = .slot i ∧ H a ≠ none then g.L a else g'.clean.L a) = _
  rw [if_neg fun ⟨i, z, _⟩ => h i z]
theorem back_none {a : Addr} (h : H a = none) : (g.back H g').L a = g'.clean.L a := by
  classical
  show (if ∃ i, g.L a = .slot i ∧ H a ≠ none then g.L a else g'.clean.L a) = _
  rw [if_neg fun ⟨i, _, z⟩ => z h]
/-- where the callee's label is no slot and not out, it stands -/
theorem back_at (e : ExtS g.clean H g' H') {a : Addr} (h : g'.L a ≠ .out) (h2 : ∀ i, g'.L a ≠ .slot i) : (g.back H g').L a = g'.L a := by
  by_cases hs : ∃ i, g.L a = .slot i
  · obtain ⟨i, hs⟩ := hs
    by_cases hn : H a = none
    · rw [back_none hn]; exact clean_ne h2
    · have := (e.keep a hn (.inl (clean_slot hs))).1
      rw [clean_slot hs] at this
      exact absurd this h
  · rw [back_ne fun i z => hs ⟨i, z⟩]; exact clean_ne h2
theorem stay_back (e : ExtS g.clean H g' H') : Stay g' H' (g.back H g') H' := by
  refine ⟨fun a l _ => ?_, fun _ _ _ _ r => r, fun _ _ _ _ _ r => r, fun m l => ⟨rfl, ?_⟩⟩
  · rw [back_at e (by rw [l]; simp) (by rw [l]; simp)]; exact l
  · show (g.back H g').L (g'.ι m) = _
    rw [back_at e (by rw [l]; simp) (by rw [l]; simp)]; exact l
theorem ext_back (wf : ∀ a, H a = none → g.L a = .out) (e : ExtS g.clean H g' H') : Ext false g H (g.back H g') H' := by
  refine ⟨fun a n p => ?_, fun m l => ?_, e.some, fun a i n l => ?_⟩
  rotate_left 2
  · by_cases hs : ∃ j, g.L a = .slot j
    · exact hs
    · rw [back_ne fun i z => hs ⟨i, z⟩] at l
      exfalso
      have z : cleanL (g'.L a) = .slot i := l
      cases q : g'.L a <;> rw [q] at z <;> cases z
  · rcases p with p | p | p | ⟨i, p⟩
    · cases p
    · have k := e.keep a n (.inl (clean_out p))
      refine ⟨?_, k.2⟩
      rw [back_ne fun i z => by rw [p] at z; cases z]
      rw [clean_out (k.1.trans (clean_out p))]; exact p.symm
    · have q : g.clean.L a = .frz := (clean_ne fun i z => by rw [p] at z; cases z).trans p
      have k := e.keep a n (.inr q)
      refine ⟨?_, k.2⟩
      rw [back_at e (by rw [k.1, q]; simp) (by rw [k.1, q]; simp), k.1, q]; exact p.symm
    · have k := e.keep a n (.inl (clean_slot p))
      exact ⟨(back_slot p n).trans p.symm, k.2⟩
  · have q : g.clean.L (g.clean.ι m) = .cell m := (clean_ne fun i z => by rw [show g.clean.ι m = g.ι m from rfl, l] at z; cases z).trans l
    obtain ⟨e1, e2⟩ := e.cel m q
    refine ⟨e1, ?_⟩
    show (g.back H g').L (g.ι m) = _
    have e3 : g'.L (g.ι m) = .cell m := e2
    rw [back_at e (by rw [e3]; simp) (by rw [e3]; simp)]; exact e3
theorem sim_back (s : Sim T g H env S σ) (e : ExtS g.clean H g' H') (c : SimC T g' H' S') : Sim T (g.back H g') H' env S' σ := by
  have x := ext_back s.wf e
  refine ⟨fun a n => ?_, s.len, fun i fl w h => ?_, fun n cl h => ?_, fun a n h => ?_⟩
  · have hn : H a = none := by
      cases q : H a with
      | none => rfl
      | some u => exact absurd n (e.some a (by rw [q]; simp))
    rw [back_none hn]
    exact clean_out (c.wf a n)
  · have z := s.slots i fl w h
    cases fl with
    | v =>
      obtain ⟨v, e1, r⟩ := z
      exact ⟨v, e1, x.stay.repX r⟩
    | o =>
      obtain ⟨a, e1, l, o⟩ := z
      obtain ⟨l2, h2⟩ := x.keep a o.some (.inr (.inr (.inr ⟨i, l⟩)))
      exact ⟨a, e1, l2.trans l, o.stay x.stay h2⟩
    | k =>
      obtain ⟨a, e1, l, o⟩ := z
      obtain ⟨l2, h2⟩ := x.keep a o.some (.inr (.inr (.inr ⟨i, l⟩)))
      exact ⟨a, e1, l2.trans l, o.stay x.stay h2⟩
  · refine cell_stay (stay_back e) (fun a l _ => ⟨?_, rfl⟩) (c.cells n cl h)
    rcases l with l | ⟨f, l⟩
    · exact back_at e (by rw [l]; simp) (by rw [l]; simp)
    · exact back_at e (by rw [l]; simp) (by rw [l]; simp)
  · by_cases hs : ∃ i, g.L a = .slot i
    · obtain ⟨i, hs⟩ := hs
      by_cases hn : H a = none
      · rw [back_none hn] at h
        exact c.fin a n (clean_cell h)
      · rw [back_slot hs hn] at h
        cases h
    · rw [back_ne fun i z => hs ⟨i, z⟩] at h
      exact c.fin a n (clean_cell h)
end
section
variable {X : Cx} {T : Tx} {W' : WX} {c : Ctx} {pos p : Pos}
theorem f_ok (G : XG X T) {f : Fn} {a : Addr} {fd : FuncData} {ps : List Str} (F : FOK T f a fd ps) : L2.FnOk X.prog X.w X.K X.mg X.base (L2.CX X.prog X.w) f.lvl a fd ps (spF T f) := by
  rw [G.eP, G.eW, G.eK, G.eM, G.eB]
  exact F.ok
/-- what the promise gives, for a callee without own parameters -/
theorem spf_call {f : Fn} {g : Gh} {env : Env} {S : Store} {σ : L2.St} {H : Hp} {vs : List V} {ws : List W} {Q : V → Hp → Prop} (hp : f.plain = true) (hc : c = .F → f.fresh = true) (s : Sim T g H env S σ) (r : Paired (RepX T g H) vs ws) (hl : ws.length = f.own.length)
    (p : Post T W' false (Res T c) g env σ H ((f.sem S ws).bind fun r S => .ok r.1 S) Q) : spF T f vs H Q (L2.WE W' σ) := by
  refine ⟨g.clean, S, ws, r.length.trans hl, hl, sim_args s.c r hl.symm hp, fun a i z => ?_, ?_⟩
  · exfalso
    have z' : cleanL (g.L a) = .slot i := z
    cases q : g.L a <;> rw [q] at z' <;> cases z'
  cases hs : f.sem S ws with
  | bad => rw [hs] at p; exact p
  | ok r S' =>
    rw [hs] at p
    intro x g' H' e sc rt fin
    have z : Ext false g H (g.back H g') H' := ext_back s.wf e
    have sb := sim_back s e sc
    unfold RetOk at rt
    cases hf : f.fresh with
    | true =>
      rw [hf, if_pos rfl] at rt
      obtain ⟨a, rfl, hn, hl, o⟩ := rt
      exact res_fresh hn z sb (by rw [back_none hn]; exact clean_out hl) (o.stay (stay_back e) rfl) p
    | false =>
      rw [hf, if_neg Bool.false_ne_true] at rt
      exact p x _ H' z sb (res_val (fun q => by rw [hc q] at hf; cases hf) ((stay_back e).repX rt))
  | exn cc fs S' =>
    rw [hs] at p
    intro d g' H' e sc ex
    refine p d (g.back H g') H' (ext_back s.wf e) (sim_back s e sc) ?_
    obtain ⟨gs, h1, h2⟩ := ex
    exact ⟨gs, h1, paired_imp h2 fun _ _ z => ⟨z.1, (stay_back e).repX z.2⟩⟩
theorem evs_len {c : Ctx} : ∀ {es : List E} {env : Env} {S S' : Store} {ws : List W}, evs c es env S = .ok ws S' → ws.length = es.length
  | [], env, S, S', ws, h => by unfold evs at h; cases h; rfl
  | e :: es, env, S, S', ws, h => by
    unfold evs at h
    cases h1 : ev c e env S with
    | bad => rw [h1] at h; cases h
    | exn _ _ _ => rw [h1] at h; cases h
    | ok a S1 =>
      rw [h1, R.bind_ok] at h
      cases h2 : evs c es env S1 with
      | bad => rw [h2] at h; cases h
      | exn _ _ _ => rw [h2] at h; cases h
      | ok b S2 =>
        rw [h2, R.bind_ok] at h
        cases h
        rw [List.length_cons, List.length_cons, evs_len h2]
theorem dv_len {f : Fn} {k : Nat} (h : k ≤ f.dfl.length) : (f.dv k).length = k := by
  unfold Fn.dv
  rw [List.length_drop]
  omega
/-- f(e, ..) -/
theorem se_call (G : XG X T) (tk : L2.Takes X W') {f : Fn} {a : Addr} {fd : FuncData} {ps : List Str} {k : Nat} {e : Expr} {es : List Expr} {es' : List E} {n : Nat} (F : FOK T f a fd ps) (hr : L2.Room n X.A) (hn : f.lvl ≤ n) (hg : Gl X f.nm) (hm : T.mg f.nm = some (.ref a))
    (hd : (f.nm == ("__debug__" : Str)) = false) (he : PA X (e :: es) (tA T W' .V es')) (ok : okx e = true) (oks : okxs es = true) (hk : k ≤ f.dfl.length) (hl : es'.length + k = f.own.length) :
    PE X (.Call (.Name f.nm p) (e :: es) [] pos) (tE T W' c (.call f es' k)) := by
  obtain ⟨ds, dvs, hb, hv, rv⟩ := F.dv k hk
  have kp := F.kp
  rw [← G.eK] at hb kp
  rw [← G.eM] at hm
  have z := L2.pe_callSD (p := p) (pos := pos) (E := L2.WE W') (f_ok G F) (hr.mono hn) hg hm kp hb hv (L2.passAt tk) he hd (star_cons ok es) (star_none oks pos)
  refine pe_imp z fun σ H Q ⟨g, env, S, s, p⟩ => ?_
  unfold ev at p
  refine ⟨g, env, S, s, Post.bind (qa := quiets es') (qb := false) bm_res (by simp [quiet]) p fun av S1 x g1 H1 ea e1 s1 r1 p1 => ?_⟩
  have r := resA_V r1
  split at p1
  · exact p1.elim
  · rename_i hc
    split at p1
    · rename_i hp
      refine spf_call hp (fun q => by cases hf : f.fresh <;> simp [q, hf] at hc ⊢) s1 (paired_append r (paired_imp rv fun _ _ z => z g1 H1)) ?_ p1
      rw [List.length_append, evs_len ea, dv_len hk]; exact hl
    · exact p1.elim
/-- f() -/
theorem se_call0 (G : XG X T) (tk : L2.Takes X W') {f : Fn} {a : Addr} {fd : FuncData} {ps : List Str} {k : Nat} {n : Nat} (F : FOK T f a fd ps) (hr : L2.Room n X.A) (hn : f.lvl ≤ n) (hg : Gl X f.nm) (hm : T.mg f.nm = some (.ref a))
    (hd : (f.nm == ("__debug__" : Str)) = false) (hk : k ≤ f.dfl.length) (hl : k = f.own.length) :
    PE X (.Call (.Name f.nm p) [] [] pos) (tE T W' c (.call f [] k)) := by
  obtain ⟨ds, dvs, hb, hv, rv⟩ := F.dv k hk
  have kp := F.kp
  rw [← G.eK] at hb kp
  rw [← G.eM] at hm
  refine ⟨fun pins s σ H Q I ⟨g, env, S, si, p⟩ => ?_⟩
  refine wpAny_Call_Name_kw (L2.ld_glob I hg hm ?_ hd)
  refine PySem.W.callWith_K0 I.kIn kp (L2.run_fnSD (us := []) (f_ok G F) (hr.mono hn) hb hv (L2.passAt tk σ) I .nil ?_)
  unfold ev evs at p
  rw [R.bind_ok] at p
  split at p
  · exact p.elim
  · rename_i hc
    split at p
    · rename_i hp
      refine spf_call hp (fun q => by cases hf : f.fresh <;> simp [q, hf] at hc ⊢) si (paired_imp rv fun _ _ z => z g H) ?_ p
      rw [dv_len hk]; exact hl
    · exact p.elim
end
end Wb

namespace Wb
open PySem PySem.Spec PyProof.Rows
open L2 (V Hp HO Rd upd upd_same upd_ne SqL SqT VK TE TT TA TS TG TI TO Ends WX XK R2 Cx Inv RelV Vals ne_of_none PE PT PA PS PSs PG PI OpR UnR CallR MtR Gl Vis Loc)
def pureL : Lab → Lab
  | .frz => .frz
  | _ => .out
def Gh.pur (g : Gh) : Gh := ⟨fun a => pureL (g.L a), g.ι⟩
noncomputable def Gh.rest (g : Gh) (H : Hp) (g' : Gh) : Gh := by
  classical
  exact ⟨fun a => if H a ≠ none then g.L a else pureL (g'.L a), g.ι⟩
theorem pureL_frz {l : Lab} (h : pureL l = .frz) : l = .frz := by cases l <;> first | rfl | cases h
theorem pureL_or (l : Lab) : pureL l = .out ∨ pureL l = .frz := by cases l <;> first | exact .inl rfl | exact .inr rfl
section
variable {T : Tx} {g g' : Gh} {env : Env} {S S' : Store} {σ : L2.St} {H H' : Hp}
theorem rest_some {a : Addr} (n : H a ≠ none) : (g.rest H g').L a = g.L a := by
  classical
  show (if H a ≠ none then g.L a else pureL (g'.L a)) = _
  rw [if_pos n]
theorem rest_none {a : Addr} (n : H a = none) : (g.rest H g').L a = pureL (g'.L a) := by
  classical
  show (if H a ≠ none then g.L a else pureL (g'.L a)) = _
  rw [if_neg fun z => z n]
/-- what holds no object is seen alike, where the frozen stay frozen -/
theorem rep_noref {g1 g2 : Gh} (hf : ∀ a, g1.L a = .frz → H a ≠ none → g2.L a = .frz) : ∀ (m n : Nat) (x : V) (w : W), noref m w = true → Rep T g1 H n x w → Rep T g2 H n x w
  | 0, _, _, _, h, _ => by cases h
  | m + 1, 0, _, _, _, h => h.elim
  | m + 1, n + 1, x, .non, _, h => h
  | m + 1, n + 1, x, .bl _, _, h => h
  | m + 1, n + 1, x, .int _, _, h => h
  | m + 1, n + 1, x, .str _, _, h => h
  | m + 1, n + 1, x, .ref _, h, _ => by cases h
  | m + 1, n + 1, x, .tup ws, hn, h => by
    obtain ⟨a, xs, e, l, r⟩ := h
    replace hn : ws.all (noref m) = true := hn
    refine ⟨a, xs, e, l.imp_left fun z => ⟨hf a z.1 (rd_some z.2), z.2⟩, ?_⟩
    clear l e
    induction r with
    | nil => exact .nil
    | cons a _ ih =>
      rw [List.all_cons, Bool.and_eq_true] at hn
      exact .cons (rep_noref hf m n _ _ hn.1 a) (ih hn.2)
  | m + 1, n + 1, x, .lst ws, hn, h => by
    obtain ⟨a, xs, e, l, r⟩ := h
    replace hn : ws.all (noref m) = true := hn
    refine ⟨a, xs, e, ⟨hf a l.1 (rd_some l.2), l.2⟩, ?_⟩
    clear l e
    induction r with
    | nil => exact .nil
    | cons a _ ih =>
      rw [List.all_cons, Bool.and_eq_true] at hn
      exact .cons (rep_noref hf m n _ _ hn.1 a) (ih hn.2)
  | m + 1, n + 1, x, .ro ws, hn, h => by
    obtain ⟨a, xs, e, l, r⟩ := h
    replace hn : ws.all (noref m) = true := hn
    refine ⟨a, xs, e, l.imp_left fun z => ⟨hf a z.1 (rd_some z.2), z.2⟩, ?_⟩
    clear l e
    induction r with
    | nil => exact .nil
    | cons a _ ih =>
      rw [List.all_cons, Bool.and_eq_true] at hn
      exact .cons (rep_noref hf m n _ _ hn.1 a) (ih hn.2)
  | m + 1, n + 1, x, .dct kvs, hn, h => by
    obtain ⟨a, ks, e, l, hr, r⟩ := h
    replace hn : (kvs.all fun p => noref m p.2) = true := hn
    refine ⟨a, ks, e, hf a l (rd_some hr), hr, ?_⟩
    clear l e hr
    induction r with
    | nil => exact .nil
    | cons a _ ih =>
      rw [List.all_cons, Bool.and_eq_true] at hn
      exact .cons ⟨a.1, rep_noref hf m n _ _ hn.1 a.2⟩ (ih hn.2)
  | m + 1, n + 1, x, .ins c fs, hn, h => by
    obtain ⟨a, dx, gs, e, l, hr, r⟩ := h
    replace hn : (fs.all fun p => noref m p.2) = true := hn
    refine ⟨a, dx, gs, e, hf a l (by rw [hr.1]; simp), hr, ?_⟩
    clear l e hr
    induction r with
    | nil => exact .nil
    | cons a _ ih =>
      rw [List.all_cons, Bool.and_eq_true] at hn
      exact .cons ⟨a.1, rep_noref hf m n _ _ hn.1 a.2⟩ (ih hn.2)
theorem repX_noref {g1 g2 : Gh} (hf : ∀ a, g1.L a = .frz → H a ≠ none → g2.L a = .frz) {m : Nat} {x : V} {w : W} (hn : noref m w = true) (h : RepX T g1 H x w) : RepX T g2 H x w := by
  obtain ⟨n, h⟩ := h
  exact ⟨n, rep_noref hf m n x w hn h⟩
theorem frz_pur {a : Addr} (h : g.L a = .frz) : g.pur.L a = .frz := by
  show pureL (g.L a) = _
  rw [h]
  rfl
theorem paired_noref {g1 g2 : Gh} (hf : ∀ a, g1.L a = .frz → H a ≠ none → g2.L a = .frz) {m : Nat} {xs : List V} {ws : List W} (r : Paired (RepX T g1 H) xs ws) : ws.all (noref m) = true → Paired (RepX T g2 H) xs ws := by
  induction r with
  | nil => intro _; exact .nil
  | cons a _ ih =>
    intro h
    rw [List.all_cons, Bool.and_eq_true] at h
    exact .cons (repX_noref hf h.1 a) (ih h.2)
theorem simC_pur (wf : ∀ a, H a = none → g.L a = .out) : SimC T g.pur H [] := by
  refine ⟨fun a n => ?_, fun n c h => by simp at h, fun a n h => ?_⟩
  · show pureL (g.L a) = _
    rw [wf a n]
    rfl
  · exfalso
    rcases pureL_or (g.L a) with e | e
    · exact Lab.noConfusion (h.symm.trans e)
    · exact Lab.noConfusion (h.symm.trans e)
theorem clean_pur : g.pur.clean = g.pur := by
  show (⟨fun a => cleanL (pureL (g.L a)), g.ι⟩ : Gh) = ⟨fun a => pureL (g.L a), g.ι⟩
  congr 1
  funext a
  cases g.L a <;> rfl
theorem keep_pur (e : ExtS g.pur H g' H') {a : Addr} (n : H a ≠ none) : g'.L a = pureL (g.L a) ∧ H' a = H a := e.keep a n (pureL_or (g.L a))
theorem ext_rest (wf : ∀ a, H a = none → g.L a = .out) (e : ExtS g.pur H g' H') : Ext true g H (g.rest H g') H' := by
  refine ⟨fun a n _ => ⟨rest_some n, (keep_pur e n).2⟩, fun m l => ⟨rfl, ?_⟩, e.some, fun a i n l => ?_⟩
  · have n : H (g.ι m) ≠ none := fun z => by rw [wf _ z] at l; cases l
    exact (rest_some n).trans l
  · rw [rest_some n] at l
    exact ⟨i, l⟩
theorem frz_rest (wf : ∀ a, H' a = none → g'.L a = .out) (e : ExtS g.pur H g' H') (a : Addr) (h : g'.L a = .frz) (_ : H' a ≠ none) : (g.rest H g').L a = .frz := by
  by_cases n : H a = none
  · rw [rest_none n, h]
    rfl
  · rw [rest_some n]
    have := (keep_pur e n).1
    rw [h] at this
    exact pureL_frz this.symm
theorem sim_rest (s : Sim T g H env S σ) (e : ExtS g.pur H g' H') (c : SimC T g' H' S') : Sim T (g.rest H g') H' env S σ := by
  have x := ext_rest s.wf e
  refine ⟨fun a n => ?_, s.len, fun i fl w h => ?_, fun n cl h => ?_, fun a n h => ?_⟩
  · have hn : H a = none := by
      cases q : H a with
      | none => rfl
      | some u => exact absurd n (e.some a (by rw [q]; simp))
    rw [rest_none hn, c.wf a n]
    rfl
  · have z := s.slots i fl w h
    cases fl with
    | v =>
      obtain ⟨v, e1, r⟩ := z
      exact ⟨v, e1, x.stay.repX r⟩
    | o =>
      obtain ⟨a, e1, l, o⟩ := z
      obtain ⟨l2, h2⟩ := x.keep a o.some (.inl rfl)
      exact ⟨a, e1, l2.trans l, o.stay x.stay h2⟩
    | k =>
      obtain ⟨a, e1, l, o⟩ := z
      obtain ⟨l2, h2⟩ := x.keep a o.some (.inl rfl)
      exact ⟨a, e1, l2.trans l, o.stay x.stay h2⟩
  · exact cell_stay x.stay (fun a _ n => ⟨rest_some n, (keep_pur e n).2⟩) (s.cells n cl h)
  · by_cases hn : H a = none
    · rw [rest_none hn] at h
      exfalso
      rcases pureL_or (g'.L a) with e | e
      · exact Lab.noConfusion (h.symm.trans e)
      · exact Lab.noConfusion (h.symm.trans e)
    · rw [rest_some hn] at h
      exact s.fin a n h
end
section
variable {X : Cx} {T : Tx} {W' : WX} {c : Ctx}
theorem spf_pure {f : Fn} {g : Gh} {env : Env} {S : Store} {σ : L2.St} {H : Hp} {vs : List V} {ws : List W} {Q : V → Hp → Prop} (hp : f.plain = true) (hc : c ≠ .F) (hfr : f.fresh = false) (s : Sim T g H env S σ) (r : Paired (RepX T g H) vs ws) (hl : ws.length = f.own.length) (nr : ws.all (noref 20) = true)
    (p : Post T W' true (Res T c) g env σ H (pureR (f.sem [] ws) S) Q) : spF T f vs H Q (L2.WE W' σ) := by
  have rp : Paired (RepX T g.pur H) vs ws := paired_noref (fun a h _ => frz_pur h) r nr
  have sa := sim_args (simC_pur s.wf) rp hl.symm hp
  rw [clean_pur] at sa
  refine ⟨g.pur, [], ws, r.length.trans hl, hl, sa, fun a i z => ?_, ?_⟩
  · exfalso
    rcases pureL_or (g.L a) with e | e
    · exact Lab.noConfusion (z.symm.trans e)
    · exact Lab.noConfusion (z.symm.trans e)
  cases hs : f.sem [] ws with
  | bad => rw [hs] at p; exact p
  | ok r S' =>
    rw [hs] at p
    intro x g' H' e sc rt fin
    unfold RetOk at rt
    rw [hfr, if_neg Bool.false_ne_true] at rt
    replace p : Post T W' true (Res T c) g env σ H (if noref 20 r.1 = true then .ok r.1 S else .bad) Q := p
    by_cases hn : noref 20 r.1 = true
    · rw [if_pos hn] at p
      exact p x _ H' (ext_rest s.wf e) (sim_rest s e sc) (res_val hc (repX_noref (frz_rest sc.wf e) hn rt))
    · rw [if_neg hn] at p
      exact p.elim
  | exn cc fs S' =>
    rw [hs] at p
    intro d g' H' e sc ex
    replace p : Post T W' true (Res T c) g env σ H (if (fs.all fun q => noref 20 q.2) = true then .exn cc fs S else .bad : R W) Q := p
    by_cases hn : (fs.all fun q => noref 20 q.2) = true
    · rw [if_pos hn] at p
      refine p d _ H' ((ext_rest s.wf e).weak (fun z => by cases z)) (sim_rest s e sc) ?_
      obtain ⟨gs, h1, h2⟩ := ex
      refine ⟨gs, h1, ?_⟩
      have hf := frz_rest sc.wf e
      clear p h1 hs
      induction h2 with
      | nil => exact .nil
      | cons a _ ih =>
        rw [List.all_cons, Bool.and_eq_true] at hn
        exact .cons ⟨a.1, repX_noref hf hn.1 a.2⟩ (ih hn.2)
    · rw [if_neg hn] at p
      exact p.elim
end
end Wb

namespace Wb
open PySem PySem.Spec PyProof.Rows
open L2 (V Hp HO Rd upd upd_same upd_ne SqL SqT VK TE TT TA TS TG TI TO Ends WX XK R2 Cx Inv RelV Vals ne_of_none PE PT PA PS PSs PG PI OpR UnR CallR MtR Gl Vis Loc)
/-- all that lies in the heap, as frozen -/
noncomputable def Gh.all (g : Gh) (H : Hp) : Gh := by
  classical
  exact ⟨fun a => if H a ≠ none then .frz else .out, g.ι⟩
section
variable {T : Tx} {g g' : Gh} {env : Env} {S S' : Store} {σ : L2.St} {H H' : Hp}
theorem all_some {a : Addr} (n : H a ≠ none) : (g.all H).L a = .frz := by
  classical
  show (if H a ≠ none then Lab.frz else .out) = _
  rw [if_pos n]
theorem all_none {a : Addr} (n : H a = none) : (g.all H).L a = .out := by
  classical
  show (if H a ≠ none then Lab.frz else .out) = _
  rw [if_neg fun z => z n]
theorem all_or (a : Addr) : (g.all H).L a = .out ∨ (g.all H).L a = .frz := by
  by_cases n : H a = none
  · exact .inl (all_none n)
  · exact .inr (all_some n)
theorem simC_all : SimC T (g.all H) H [] := by
  refine ⟨fun a n => all_none n, fun n c h => by simp at h, fun a n h => ?_⟩
  exfalso
  rcases all_or (g := g) (H := H) a with e | e
  · exact Lab.noConfusion (h.symm.trans e)
  · exact Lab.noConfusion (h.symm.trans e)
theorem clean_all : (g.all H).clean = g.all H := by
  show (⟨fun a => cleanL ((g.all H).L a), g.ι⟩ : Gh) = g.all H
  have : (fun a => cleanL ((g.all H).L a)) = (g.all H).L := by
    funext a
    rcases all_or (g := g) (H := H) a with e | e <;> rw [e] <;> rfl
  rw [this]
  rfl
theorem keep_all (e : ExtS (g.all H) H g' H') {a : Addr} (n : H a ≠ none) : H' a = H a := (e.keep a n (all_or a)).2
theorem ext_all (e : ExtS (g.all H) H g' H') : Ext true g H g H' :=
  ⟨fun a n _ => ⟨rfl, keep_all e n⟩, fun m l => ⟨rfl, l⟩, e.some, fun a i n l => ⟨i, l⟩⟩
theorem sim_all (s : Sim T g H env S σ) (e : ExtS (g.all H) H g' H') : Sim T g H' env S σ := by
  have x := ext_all e
  refine ⟨fun a n => ?_, s.len, fun i fl w h => ?_, fun n cl h => ?_, s.fin⟩
  · refine s.wf a ?_
    cases q : H a with
    | none => rfl
    | some u => exact absurd n (e.some a (by rw [q]; simp))
  · have z := s.slots i fl w h
    cases fl with
    | v =>
      obtain ⟨v, e1, r⟩ := z
      exact ⟨v, e1, x.stay.repX r⟩
    | o =>
      obtain ⟨a, e1, l, o⟩ := z
      obtain ⟨l2, h2⟩ := x.keep a o.some (.inl rfl)
      exact ⟨a, e1, l2.trans l, o.stay x.stay h2⟩
    | k =>
      obtain ⟨a, e1, l, o⟩ := z
      obtain ⟨l2, h2⟩ := x.keep a o.some (.inl rfl)
      exact ⟨a, e1, l2.trans l, o.stay x.stay h2⟩
  · exact cell_stay x.stay (fun a _ n => ⟨rfl, keep_all e n⟩) (s.cells n cl h)
theorem rep_atom {g1 g2 : Gh} {H1 H2 : Hp} {x : V} {w : W} (ha : atomW w = true) (h : RepX T g1 H1 x w) : RepX T g2 H2 x w := by
  obtain ⟨n, h⟩ := h
  refine ⟨n, ?_⟩
  cases n with
  | zero => exact h.elim
  | succ n => cases w <;> first | exact h | cases ha
theorem oweR_none {e : E} {env : Env} {S : Store} {r : R W} (h : oweW e env = none) : oweR e env S r = r := by
  unfold oweR
  rw [h]
theorem oweR_some {e : E} {env : Env} {S : Store} {r : R W} {w : W} (h : oweW e env = some w) : oweR e env S r = .ok w S := by
  unfold oweR
  rw [h]
theorem owe_var (i : Nat) (env : Env) : oweW (.var i) env = match env.at i with
  | some (.o, w) => some w
  | _ => none := rfl
/-- a value, or an own container of the frame -/
def RdQ (T : Tx) (g : Gh) (H : Hp) (x : V) (w : W) : Prop := RepX T g H x w ∨ ∃ a i, x = .ref a ∧ g.L a = .slot i ∧ Own T g H .o a w
theorem RdQ.stay {q : Bool} {g1 : Gh} {H1 : Hp} (e : Ext q g H g1 H1) {x : V} {w : W} (h : RdQ T g H x w) : RdQ T g1 H1 x w := by
  rcases h with h | ⟨a, i, ex, l, o⟩
  · exact .inl (e.stay.repX h)
  · obtain ⟨l2, h2⟩ := e.keep a o.some (.inr (.inr (.inr ⟨i, l⟩)))
    exact .inr ⟨a, i, ex, l2.trans l, o.stay e.stay h2⟩
theorem frz_all (a : Addr) (_ : g.L a = .frz) (n : H a ≠ none) : (g.all H).L a = .frz := all_some n
theorem own_all {a : Addr} : ∀ {m : Nat} {w : W}, noref m w = true → Own T g H .o a w → Own T (g.all H) H .o a w
  | 0, _, h, _ => by cases h
  | m + 1, .lst ws, hn, ⟨xs, e, r⟩ => ⟨xs, e, paired_noref (m := m) frz_all r hn⟩
  | m + 1, .dct kvs, hn, ⟨ks, e, r⟩ => by
    replace hn : (kvs.all fun p => noref m p.2) = true := hn
    refine ⟨ks, e, ?_⟩
    clear e
    induction r with
    | nil => exact .nil
    | cons a _ ih =>
      rw [List.all_cons, Bool.and_eq_true] at hn
      exact .cons ⟨a.1, repX_noref frz_all hn.1 a.2⟩ (ih hn.2)
  | m + 1, .ins c fs, hn, ⟨dx, gs, e, r⟩ => by
    replace hn : (fs.all fun p => noref m p.2) = true := hn
    refine ⟨dx, gs, e, ?_⟩
    clear e
    induction r with
    | nil => exact .nil
    | cons a _ ih =>
      rw [List.all_cons, Bool.and_eq_true] at hn
      exact .cons ⟨a.1, repX_noref frz_all hn.1 a.2⟩ (ih hn.2)
  | m + 1, .non, _, h => h.elim
  | m + 1, .bl _, _, h => h.elim
  | m + 1, .int _, _, h => h.elim
  | m + 1, .str _, _, h => h.elim
  | m + 1, .tup _, _, h => h.elim
  | m + 1, .ro _, _, h => h.elim
  | m + 1, .ref _, _, h => h.elim
theorem rdQ_all {m : Nat} {x : V} {w : W} (hn : noref m w = true) (h : RdQ T g H x w) : RepX T (g.all H) H x w := by
  rcases h with h | ⟨a, i, rfl, l, o⟩
  · exact repX_noref frz_all hn h
  · exact own_rep (all_some o.some) (own_all hn o)
theorem paired_all {m : Nat} {xs : List V} {ws : List W} (r : Paired (RdQ T g H) xs ws) : ws.all (noref m) = true → Paired (RepX T (g.all H) H) xs ws := by
  induction r with
  | nil => intro _; exact .nil
  | cons a _ ih =>
    intro h
    rw [List.all_cons, Bool.and_eq_true] at h
    exact .cons (rdQ_all h.1 a) (ih h.2)
end
def ResQ (T : Tx) (H : Hp) (g' : Gh) (H' : Hp) (xs : List V) (ws : List W) : Prop := Paired (RdQ T g' H') xs ws
def ResQ1 (T : Tx) (H : Hp) (g' : Gh) (H' : Hp) (x : V) (w : W) : Prop := RdQ T g' H' x w
def tQ (T : Tx) (W' : WX) (es : List E) : TA := fun σ H Q => ∃ g env S, Sim T g H env S σ ∧ Post T W' (quiets es) (ResQ T) g env σ H (evq es env S) Q
def tq1 (T : Tx) (W' : WX) (e : E) : TE := fun σ H Q => ∃ g env S, Sim T g H env S σ ∧ Post T W' (quiet e) (ResQ1 T) g env σ H (oweR e env S (ev .V e env S)) Q
theorem bm_resQ {T : Tx} : BaseMono (ResQ T) := fun _ _ _ _ _ _ _ h => h
section
variable {X : Cx} {T : Tx} {W' : WX} {c : Ctx} {pos p : Pos}
theorem spf_all {f : Fn} {g : Gh} {env : Env} {S : Store} {σ : L2.St} {H : Hp} {vs : List V} {ws : List W} {Q : V → Hp → Prop} (hp : f.plain = true) (hc : c ≠ .F) (hfr : f.fresh = false) (s : Sim T g H env S σ) (r : Paired (RdQ T g H) vs ws) (hl : ws.length = f.own.length) (nr : ws.all (noref 20) = true)
    (p : Post T W' true (Res T c) g env σ H (pureA (f.sem [] ws) S) Q) : spF T f vs H Q (L2.WE W' σ) := by
  have rp : Paired (RepX T (g.all H) H) vs ws := paired_all r nr
  have sa := sim_args simC_all rp hl.symm hp
  rw [clean_all] at sa
  refine ⟨g.all H, [], ws, r.length.trans hl, hl, sa, fun a i z => ?_, ?_⟩
  · exfalso
    rcases all_or (g := g) (H := H) a with e | e
    · exact Lab.noConfusion (z.symm.trans e)
    · exact Lab.noConfusion (z.symm.trans e)
  cases hs : f.sem [] ws with
  | bad => rw [hs] at p; exact p
  | ok r S' =>
    rw [hs] at p
    intro x g' H' e sc rt fin
    unfold RetOk at rt
    rw [hfr, if_neg Bool.false_ne_true] at rt
    replace p : Post T W' true (Res T c) g env σ H (if atomW r.1 = true then .ok r.1 S else .bad) Q := p
    by_cases hn : atomW r.1 = true
    · rw [if_pos hn] at p
      exact p x _ H' (ext_all e) (sim_all s e) (res_val hc (rep_atom hn rt))
    · rw [if_neg hn] at p
      exact p.elim
  | exn cc fs S' =>
    rw [hs] at p
    intro d g' H' e sc ex
    replace p : Post T W' true (Res T c) g env σ H (if (fs.all fun q => atomW q.2) = true then .exn cc fs S else .bad : R W) Q := p
    by_cases hn : (fs.all fun q => atomW q.2) = true
    · rw [if_pos hn] at p
      refine p d _ H' ((ext_all e).weak (fun z => by cases z)) (sim_all s e) ?_
      obtain ⟨gs, h1, h2⟩ := ex
      refine ⟨gs, h1, ?_⟩
      clear p h1 hs
      induction h2 with
      | nil => exact .nil
      | cons a _ ih =>
        rw [List.all_cons, Bool.and_eq_true] at hn
        exact .cons ⟨a.1, rep_atom hn.1 a.2⟩ (ih hn.2)
    · rw [if_neg hn] at p
      exact p.elim
/-- an argument that is a value -/
theorem sq_val {e : Expr} {e' : E} (h : PE X e (tE T W' .V e')) (hn : ∀ env, oweW e' env = none) : PE X e (tq1 T W' e') := by
  refine pe_imp h fun σ H Q ⟨g, env, S, s, p⟩ => ⟨g, env, S, s, ?_⟩
  rw [oweR_none (hn _)] at p
  cases q : ev .V e' env S with
  | ok w S' =>
    rw [q] at p
    exact fun x g' H' e s r => p x g' H' e s (.inl r)
  | exn cc fs S' => rw [q] at p; exact p
  | bad => rw [q] at p; exact p
/-- an argument that is a name -/
theorem sq_var {i : Nat} {x : Str} (hN : X.N[i]? = some x) (hv : Vis X.env.scope x) (hd : (x == ("__debug__" : Str)) = false) (hcd : (x == ("__classdict__" : Str)) = false) : PE X (.Name x pos) (tq1 T W' (.var i)) := by
  refine pe_imp (L2.pe_var hN hv hd hcd) fun σ H Q ⟨g, env, S, s, p⟩ => ?_
  have val : ∀ w, env.at i = some (.v, w) → Post T W' (quiet (.var i)) (ResQ1 T) g env σ H (.ok w S) Q → ∃ v, σ[i]? = some (some v) ∧ Q v H := fun w hw p => by
    obtain ⟨x, ex, r⟩ := s.slots i _ _ hw
    exact ⟨x, ex, p x g H Ext.refl s (.inl r)⟩
  cases hw : env.at i with
  | none =>
    have e1 : oweW (.var i) env = none := by rw [owe_var, hw]
    rw [oweR_none e1] at p
    unfold ev at p
    rw [hw] at p
    exact p.elim
  | some q =>
    obtain ⟨fl, w⟩ := q
    cases fl with
    | v =>
      have e1 : oweW (.var i) env = none := by rw [owe_var, hw]
      rw [oweR_none e1] at p
      unfold ev at p
      rw [hw] at p
      exact val w hw p
    | o =>
      have e1 : oweW (.var i) env = some w := by rw [owe_var, hw]
      rw [oweR_some e1] at p
      obtain ⟨a, h1, h2, h3⟩ := s.slots i _ _ hw
      exact ⟨.ref a, h1, p _ g H Ext.refl s (.inr ⟨a, i, rfl, h2, h3⟩)⟩
    | k =>
      have e1 : oweW (.var i) env = none := by rw [owe_var, hw]
      rw [oweR_none e1] at p
      unfold ev at p
      rw [hw] at p
      exact p.elim
theorem sq_nil : PA X [] (tQ T W' []) := by
  refine pa_imp L2.pa_nil fun σ H Q ⟨g, env, S, s, p⟩ => ?_
  unfold evq at p
  exact p [] g H Ext.refl s .nil
theorem sq_cons {e : Expr} {es : List Expr} {e' : E} {es' : List E} (he : PE X e (tq1 T W' e')) (hs : PA X es (tQ T W' es')) (ok : okx e = true) : PA X (e :: es) (tQ T W' (e' :: es')) := by
  refine pa_imp (L2.pa_cons he hs (star_cons ok es)) fun σ H Q ⟨g, env, S, s, p⟩ => ?_
  unfold evq at p
  refine ⟨g, env, S, s, Post.bind (qa := quiet e') (qb := quiets es') bm_resQ (by simp [quiets]) p fun av S1 x g1 H1 _ e1 s1 r1 p1 => ?_⟩
  refine ⟨g1, env, S1, s1, Post.bind (qa := quiets es') (qb := true) bm_resQ (by simp) p1 fun bv S2 y g2 H2 _ e2 s2 r2 p2 => ?_⟩
  exact p2 (x :: y) g2 H2 Ext.refl s2 (.cons (RdQ.stay e2 r1) r2)
theorem evq_len {es : List E} : ∀ {env : Env} {S S' : Store} {ws : List W}, evq es env S = .ok ws S' → ws.length = es.length := by
  induction es with
  | nil =>
    intro env S S' ws h
    unfold evq at h
    cases h
    rfl
  | cons e es ih =>
    intro env S S' ws h
    unfold evq at h
    generalize oweR e env S (ev .V e env S) = r at h
    cases r with
    | ok w S1 =>
      rw [R.bind_ok] at h
      cases q : evq es env S1 with
      | ok w2 S2 =>
        rw [q, R.bind_ok] at h
        cases h
        rw [List.length_cons, List.length_cons, ih q]
      | exn _ _ _ => rw [q] at h; cases h
      | bad => rw [q] at h; cases h
    | exn _ _ _ => cases h
    | bad => cases h
theorem se_pcall (G : XG X T) (tk : L2.Takes X W') {f : Fn} {a : Addr} {fd : FuncData} {ps : List Str} {e : Expr} {es : List Expr} {es' : List E} {n : Nat} (F : FOK T f a fd ps) (hr : L2.Room n X.A) (hn : f.lvl ≤ n) (hg : Gl X f.nm) (hm : T.mg f.nm = some (.ref a))
    (hd : (f.nm == ("__debug__" : Str)) = false) (he : PA X (e :: es) (tQ T W' es')) (ok : okx e = true) (oks : okxs es = true) (hl : es'.length = f.own.length) :
    PE X (.Call (.Name f.nm p) (e :: es) [] pos) (tE T W' c (.pcall f es')) := by
  obtain ⟨ds, dvs, hb, hv, rv⟩ := F.dv 0 (Nat.zero_le _)
  have kp := F.kp
  rw [← G.eK] at hb kp
  rw [← G.eM] at hm
  have z := L2.pe_callSD (p := p) (pos := pos) (E := L2.WE W') (f_ok G F) (hr.mono hn) hg hm kp hb hv (L2.passAt tk) he hd (star_cons ok es) (star_none oks pos)
  refine pe_imp z fun σ H Q ⟨g, env, S, s, p⟩ => ?_
  unfold ev at p
  refine ⟨g, env, S, s, Post.bind (qa := quiets es') (qb := true) bm_res (by simp [quiet]) p fun av S1 x g1 H1 ea e1 s1 r1 p1 => ?_⟩
  split at p1
  · exact p1.elim
  · rename_i hc
    obtain ⟨c1, c2⟩ := not_or.mp hc
    obtain ⟨c2, c3⟩ := not_or.mp c2
    split at p1
    · rename_i hp
      refine spf_all hp c1 (by simpa using c2) s1 (paired_append r1 (paired_imp rv fun _ _ z => .inl (z g1 H1))) ?_ (by simpa using c3) p1
      rw [List.length_append, evq_len ea, dv_len (Nat.zero_le _)]
      exact hl
    · exact p1.elim
end
end Wb

namespace Wb
open PySem PySem.Spec PyProof.Rows
open L2 (V Hp HO Rd upd upd_same upd_ne SqL SqT VK TE TT TA TS TG TI TO Ends WX XK R2 Cx Inv RelV Vals ne_of_none PE PT PA PS PSs PG PI OpR UnR CallR MtR Gl Vis Loc)

theorem p62 : (2 : Int) ^ 62 = 4611686018427387904 := by decide
/-- a new pair, or a thing that is there -/
def Yl (T : Tx) (g : Gh) (H : Hp) (x : V) (H3 : Hp) (w : W) : Prop := (H3 = H ∧ RepX T g H x w) ∨ ∃ p xs us, x = .ref p ∧ H p = none ∧ H3 = upd H p (.tup xs) ∧ w = .tup us ∧ Paired (RepX T g H) xs us
def ItOk (T : Tx) (H0 : Hp) (g : Gh) (H : Hp) (J : L2.It) (ws : List W) : Prop := ∀ g2 H2, Stay g H g2 H2 → (∀ a, g.L a = .frz → H a ≠ none → H2 a = H a) → ∀ i, (ws.length ≤ i → J.stop i H2) ∧ ∀ w, ws[i]? = some w → J.go i H2 ∧ ∀ x H3, J.yld i H2 x H3 → Yl T g2 H2 x H3 w
/-- the same, as long as only expressions run -/
def ItE (T : Tx) (qq : Bool) (g : Gh) (H : Hp) (J : L2.It) (ws : List W) : Prop := ∀ g2 H2, Ext qq g H g2 H2 → ∀ i, (ws.length ≤ i → J.stop i H2) ∧ ∀ w, ws[i]? = some w → J.go i H2 ∧ ∀ x H3, J.yld i H2 x H3 → Yl T g2 H2 x H3 w
theorem ItOk.e {T : Tx} {H0 : Hp} {g : Gh} {H : Hp} {J : L2.It} {ws : List W} {qq : Bool} (h : ItOk T H0 g H J ws) : ItE T qq g H J ws := fun g2 H2 e i => h g2 H2 e.stay (fun a l n => (e.keep a n (.inr (.inr (.inl l)))).2) i
theorem bm_it {T : Tx} : BaseMono (ItOk T) := fun _ _ _ _ _ _ _ h => h
def evi (k : Src) (srcs : List E) (env : Env) (S : Store) : R (List W) := (evs (srcC k) srcs env S).bind (itemsR k)
def tI (T : Tx) (W' : WX) (k : Src) (srcs : List E) : TI := fun σ H R => ∃ g env S, Sim T g H env S σ ∧ Post T W' (quiets srcs) (ItOk T) g env σ H (evi k srcs env S) R
theorem PI.or {X : Cx} {tg e : Expr} {a b : TI} (h : PI X tg e a) (k : PI X tg e b) : PI X tg e (fun σ H R => a σ H R ∨ b σ H R) := ⟨fun pins s σ H R I q => by
  rcases q with q | q
  · exact h.run pins s σ H R I q
  · exact k.run pins s σ H R I q⟩
theorem pi_imp {X : Cx} {tg e : Expr} {a b : TI} (h : PI X tg e a) (i : ∀ σ H R, b σ H R → a σ H R) : PI X tg e b := ⟨fun pins s σ H R I q => h.run pins s σ H R I (i _ _ _ q)⟩
section
variable {T : Tx} {g : Gh} {H H0 : Hp}
theorem it_lst {a : Addr} {xs : List V} {ws : List W} (h : g.L a = .frz ∧ Rd H a (.lst xs)) (r : Paired (RepX T g H) xs ws) : ItOk T H0 g H (L2.Itl T.K a) ws := by
  intro g2 H2 st fz i
  have hr := st.rd a (.lst xs) trivial h.1 h.2
  have r2 := paired_imp r fun _ _ z => st.repX z
  refine ⟨fun hi => ⟨xs, .inl hr, by rw [r.length]; exact hi⟩, fun w hw => ?_⟩
  obtain ⟨x, hx, rx⟩ := paired_get r2 hw
  refine ⟨⟨xs, x, .inl hr, hx⟩, fun y H3 hy => .inl ⟨hy.1, ?_⟩⟩
  have := hy.2 xs (.inl hr)
  rw [hx] at this
  cases this
  exact rx
theorem it_ro {a : Addr} {xs : List V} {ws : List W} (h : (g.L a = .frz ∧ Rd H a (.lst xs)) ∨ KL T.K a xs) (r : Paired (RepX T g H) xs ws) : ItOk T H0 g H (L2.Itl T.K a) ws := by
  intro g2 H2 st fz i
  have hr : SqL T.K H2 a xs := by
    rcases h with h | h
    · exact .inl (st.rd a (.lst xs) trivial h.1 h.2)
    · exact .inr h
  have r2 := paired_imp r fun _ _ z => st.repX z
  refine ⟨fun hi => ⟨xs, hr, by rw [r.length]; exact hi⟩, fun w hw => ?_⟩
  obtain ⟨x, hx, rx⟩ := paired_get r2 hw
  refine ⟨⟨xs, x, hr, hx⟩, fun y H3 hy => .inl ⟨hy.1, ?_⟩⟩
  have := hy.2 xs hr
  rw [hx] at this
  cases this
  exact rx
theorem it_tup {a : Addr} {xs : List V} {ws : List W} (h : (g.L a = .frz ∧ Rd H a (.tup xs)) ∨ KT T.K a xs) (r : Paired (RepX T g H) xs ws) : ItOk T H0 g H (L2.Itt T.K a) ws := by
  intro g2 H2 st fz i
  have hr : SqT T.K H2 a xs := by
    rcases h with h | h
    · exact .inl (st.rd a (.tup xs) trivial h.1 h.2)
    · exact .inr h
  have r2 := paired_imp r fun _ _ z => st.repX z
  refine ⟨fun hi => ⟨xs, hr, by rw [r.length]; exact hi⟩, fun w hw => ?_⟩
  obtain ⟨x, hx, rx⟩ := paired_get r2 hw
  refine ⟨⟨xs, x, hr, hx⟩, fun y H3 hy => .inl ⟨hy.1, ?_⟩⟩
  have := hy.2 xs hr
  rw [hx] at this
  cases this
  exact rx
theorem it_keys {a : Addr} {o : Obj} {ks : List (Key × V)} {kvs : List (Key × W)} (l : g.L a = .frz) (h : H a = some (.frz o (.dK ks))) (r : Paired (fun (p : Key × V) (q : Key × W) => p.1 = q.1 ∧ RepX T g H p.2 q.2) ks kvs) :
    ItOk T H0 g H (L2.Itk a o ks) (kvs.map fun kv => kW kv.1) := by
  intro g2 H2 st fz i
  have hr : H2 a = some (.frz o (.dK ks)) := (fz a l (by rw [h]; simp)).trans h
  have r2 : Paired (RepX T g2 H2) (ks.map fun kv => L2.kV kv.1) (kvs.map fun kv => kW kv.1) := keys_paired r
  refine ⟨fun hi => ⟨hr, by rw [r.length]; simpa using hi⟩, fun w hw => ?_⟩
  obtain ⟨x, hx, rx⟩ := paired_get r2 hw
  rw [List.getElem?_map] at hx
  cases hk : ks[i]? with
  | none => rw [hk] at hx; cases hx
  | some kv =>
    rw [hk] at hx
    cases hx
    refine ⟨⟨hr, (List.getElem?_eq_some_iff.mp hk).1⟩, fun y H3 hy => .inl ⟨hy.1, ?_⟩⟩
    obtain ⟨_, k, v, e1, e2⟩ := hy
    rw [hk] at e1
    cases e1
    rw [e2]
    exact rx
theorem it_str {z : Str} : ItOk T H0 g H (L2.Its z) (z.cps.toList.map fun c => .str ⟨#[c]⟩) := by
  intro g2 H2 st fz i
  refine ⟨fun hi => (by simpa using hi : z.cps.size ≤ i), fun w hw => ?_⟩
  rw [List.getElem?_map, Array.getElem?_toList] at hw
  cases hc : z.cps[i]? with
  | none => rw [hc] at hw; cases hw
  | some c =>
    rw [hc] at hw
    cases hw
    have hi : i < z.cps.size := (Array.getElem?_eq_some_iff.mp hc).1
    refine ⟨hi, fun y H3 hy => .inl ⟨hy.1, ?_⟩⟩
    obtain ⟨_, c', e1, e2⟩ := hy
    rw [hc] at e1
    cases e1
    rw [e2]
    exact repX_str
theorem it_rng {lo : Int} {n : Nat} : ItOk T H0 g H (L2.Itr lo n) ((List.range n).map fun i : Nat => .int (lo + (i : Int))) := by
  intro g2 H2 st fz i
  refine ⟨fun hi => (by simpa using hi : n ≤ i), fun w hw => ?_⟩
  rw [List.getElem?_map] at hw
  cases hc : (List.range n)[i]? with
  | none => rw [hc] at hw; cases hw
  | some c =>
    rw [hc] at hw
    cases hw
    obtain ⟨hi, ei⟩ := List.getElem?_eq_some_iff.mp hc
    rw [List.getElem_range] at ei
    subst ei
    refine ⟨(by simpa using hi : i < n), fun y H3 hy => .inl ⟨hy.1, ?_⟩⟩
    rw [hy.2]
    exact repX_int
theorem it_zip {a b : Addr} {xs ys : List V} {ws vs : List W} (h : g.L a = .frz ∧ Rd H a (.lst xs)) (r : Paired (RepX T g H) xs ws) (h' : g.L b = .frz ∧ Rd H b (.lst ys)) (r' : Paired (RepX T g H) ys vs) :
    ItOk T H0 g H (L2.Itz T.K a b) ((ws.zip vs).map fun p => .tup [p.1, p.2]) := by
  intro g2 H2 st fz i
  have hr : SqL T.K H2 a xs := .inl (st.rd a (.lst xs) trivial h.1 h.2)
  have hr' : SqL T.K H2 b ys := .inl (st.rd b (.lst ys) trivial h'.1 h'.2)
  have r2 := paired_imp r fun _ _ z => st.repX z
  have r2' := paired_imp r' fun _ _ z => st.repX z
  refine ⟨fun hi => ⟨xs, ys, hr, hr', ?_⟩, fun w hw => ?_⟩
  · rw [List.length_map, List.length_zip] at hi
    rw [r.length, r'.length]
    omega
  · rw [List.getElem?_map] at hw
    cases hc : (ws.zip vs)[i]? with
    | none => rw [hc] at hw; cases hw
    | some p =>
      rw [hc] at hw
      cases hw
      obtain ⟨q1, q2⟩ := List.getElem?_zip_eq_some.mp hc
      obtain ⟨x, hx, rx⟩ := paired_get r2 q1
      obtain ⟨y, hy, ry⟩ := paired_get r2' q2
      refine ⟨⟨xs, ys, x, y, hr, hr', hx, hy⟩, fun z H3 hz => .inr ?_⟩
      obtain ⟨t, x', y', e1, e2, e3, e4, e5⟩ := hz
      have f1 := e4 xs hr
      have f2 := e5 ys hr'
      rw [hx] at f1
      rw [hy] at f2
      cases f1
      cases f2
      exact ⟨t, [x, y], [p.1, p.2], e1, e2, e3, rfl, .cons rx (.cons ry .nil)⟩
end
section
variable {X : Cx} {T : Tx} {W' : WX} {tg : Expr} {p pos : Pos}
theorem si_iter (G : XG X T) {e : Expr} {e' : E} (he : PE X e (tE T W' .V e')) : PI X tg e (tI T W' .iter [e']) := by
  have z := PI.or (L2.pi_list (tg := tg) he) (PI.or (L2.pi_tup (tg := tg) he) (L2.pi_str (tg := tg) he))
  rw [G.eK] at z
  refine pi_imp z fun σ H Rr ⟨g, env, S, s, p⟩ => ?_
  unfold evi srcC evs evs at p
  dsimp only at p
  simp only [R.bind_assoc, R.bind_ok] at p
  have hb : BaseMono (ItOk T) := bm_it
  cases hx : ev .V e' env S with
  | bad => rw [hx] at p; exact p.elim
  | exn cc fs S' => rw [hx] at p; exact .inl ⟨g, env, S, s, by rw [hx]; exact p⟩
  | ok av S1 =>
    rw [hx, R.bind_ok] at p
    unfold itemsR at p
    cases av with
    | lst ws =>
      refine .inl ⟨g, env, S, s, ?_⟩
      rw [hx]
      intro x g1 H1 e1 s1 r1
      obtain ⟨a, xs, rfl, hl, rr⟩ := lst_inv r1
      exact ⟨a, rfl, ⟨xs, .inl hl.2⟩, p _ g1 H1 (e1.weak (by simp [quiets])) s1 (it_lst hl rr)⟩
    | ro ws =>
      refine .inl ⟨g, env, S, s, ?_⟩
      rw [hx]
      intro x g1 H1 e1 s1 r1
      obtain ⟨a, xs, rfl, hl, rr⟩ := ro_inv r1
      refine ⟨a, rfl, ⟨xs, ?_⟩, p _ g1 H1 (e1.weak (by simp [quiets])) s1 (it_ro hl rr)⟩
      rcases hl with hl | hl
      · exact .inl hl.2
      · exact .inr hl
    | tup ws =>
      refine .inr (.inl ⟨g, env, S, s, ?_⟩)
      rw [hx]
      intro x g1 H1 e1 s1 r1
      obtain ⟨a, xs, rfl, hl, rr⟩ := tup_inv r1
      refine ⟨a, rfl, ⟨xs, ?_⟩, p _ g1 H1 (e1.weak (by simp [quiets])) s1 (it_tup hl rr)⟩
      rcases hl with hl | hl
      · exact .inl hl.2
      · exact .inr hl
    | str z =>
      refine .inr (.inr ⟨g, env, S, s, ?_⟩)
      rw [hx]
      intro x g1 H1 e1 s1 r1
      exact ⟨z, str_inv r1, p _ g1 H1 (e1.weak (by simp [quiets])) s1 it_str⟩
    | _ => exact p.elim
theorem si_rng1 (G : XG X T) {e : Expr} {e' : E} (hg : Gl X "range") (hm : X.mg "range" = none) (he : PA X [e] (tA T W' .V [e'])) (ok : okx e = true) : PI X tg (.Call (.Name "range" p) [e] [] pos) (tI T W' .range [e']) := by
  refine pi_imp (L2.pi_range1 hg hm he (by rw [star_cons ok []]; rfl)) fun σ H Rr ⟨g, env, S, s, p⟩ => ?_
  unfold evi srcC at p
  dsimp only at p
  refine ⟨g, env, S, s, Post.bind (Kr := ItOk T) (qa := quiets [e']) (qb := true) bm_it (by simp) p fun av S1 x g1 H1 ea e1 s1 r1 p1 => ?_⟩
  have r := resA_V r1
  have hl := evs_len ea
  unfold itemsR at p1
  cases r with
  | nil => exact p1.elim
  | @cons y w ys ws ra rt =>
    cases rt with
    | nil =>
      cases w with
      | int n =>
        by_cases hz : -4611686018427387904 ≤ n ∧ n < 4611686018427387904
        · rw [show itemsW .range [.int n] = some ((List.range n.toNat).map fun i : Nat => .int (i : Int)) from if_pos hz] at p1
          refine ⟨n, by rw [int_inv ra], by rw [p62]; exact hz.1, by rw [p62]; exact hz.2, p1 _ g1 H1 Ext.refl s1 ?_⟩
          have z := it_rng (T := T) (g := g1) (H := H1) (H0 := H1) (lo := 0) (n := n.toNat)
          simp only [Int.zero_add] at z
          exact z
        · rw [show itemsW .range [.int n] = none from if_neg hz] at p1
          exact p1.elim
      | _ => exact p1.elim
    | cons _ _ => cases hl
theorem si_rng2 (G : XG X T) {e e2 : Expr} {e' e2' : E} (hg : Gl X "range") (hm : X.mg "range" = none) (he : PA X [e, e2] (tA T W' .V [e', e2'])) (ok : okx e = true) (ok2 : okx e2 = true) : PI X tg (.Call (.Name "range" p) [e, e2] [] pos) (tI T W' .range [e', e2']) := by
  refine pi_imp (L2.pi_range2 hg hm he (by rw [star_cons ok [e2], star_cons ok2 []]; rfl) (by rw [star_cons ok2 []]; rfl)) fun σ H Rr ⟨g, env, S, s, p⟩ => ?_
  unfold evi srcC at p
  dsimp only at p
  refine ⟨g, env, S, s, Post.bind (Kr := ItOk T) (qa := quiets [e', e2']) (qb := true) bm_it (by simp) p fun av S1 x g1 H1 ea e1 s1 r1 p1 => ?_⟩
  have r := resA_V r1
  have hl := evs_len ea
  unfold itemsR at p1
  cases r with
  | nil => cases hl
  | @cons y w ys ws ra rt =>
    cases rt with
    | nil => cases hl
    | @cons y2 w2 _ ws2 ra2 rt2 =>
      cases rt2 with
      | cons _ _ => cases hl
      | nil =>
        cases w with
        | int i =>
          cases w2 with
          | int j =>
            by_cases hz : -4611686018427387904 ≤ i ∧ i < 4611686018427387904 ∧ -4611686018427387904 ≤ j ∧ j < 4611686018427387904
            · rw [show itemsW .range [.int i, .int j] = some ((List.range (j - i).toNat).map fun k : Nat => .int (i + (k : Int))) from if_pos hz] at p1
              exact ⟨i, j, by rw [int_inv ra, int_inv ra2], by rw [p62]; exact hz, p1 _ g1 H1 Ext.refl s1 it_rng⟩
            · rw [show itemsW .range [.int i, .int j] = none from if_neg hz] at p1
              exact p1.elim
          | _ => exact p1.elim
        | _ => cases w2 <;> exact p1.elim
theorem si_zip (G : XG X T) {e e2 : Expr} {e' e2' : E} {elts : List Expr} {kk : Nat} {tpos : Pos} (hg : Gl X "zip") (hm : X.mg "zip" = none) (he : PA X [e, e2] (tA T W' .V [e', e2'])) (ok : okx e = true) (ok2 : okx e2 = true) : PI X (.Tuple elts kk tpos) (.Call (.Name "zip" p) [e, e2] [] pos) (tI T W' .zip [e', e2']) := by
  have z := L2.pi_zip (p := p) (pos := pos) (elts := elts) (kk := kk) (tpos := tpos) hg hm he (by rw [star_cons ok [e2]]) (by rw [star_cons ok2 []]; rfl)
  rw [G.eK] at z
  refine pi_imp z fun σ H Rr ⟨g, env, S, s, p⟩ => ?_
  unfold evi srcC at p
  dsimp only at p
  refine ⟨g, env, S, s, Post.bind (Kr := ItOk T) (qa := quiets [e', e2']) (qb := true) bm_it (by simp) p fun av S1 x g1 H1 ea e1 s1 r1 p1 => ?_⟩
  have r := resA_V r1
  have hl := evs_len ea
  unfold itemsR at p1
  cases r with
  | nil => cases hl
  | @cons y w ys ws ra rt =>
    cases rt with
    | nil => cases hl
    | @cons y2 w2 _ ws2 ra2 rt2 =>
      cases rt2 with
      | cons _ _ => cases hl
      | nil =>
        cases w with
        | lst us =>
          cases w2 with
          | lst vs =>
            obtain ⟨a, xs, rfl, ha, rr⟩ := lst_inv ra
            obtain ⟨b, zs, rfl, hb, rr2⟩ := lst_inv ra2
            exact ⟨a, b, xs, zs, rfl, .inl ha.2, .inl hb.2, p1 _ g1 H1 Ext.refl s1 (it_zip ha rr hb rr2)⟩
          | _ => exact p1.elim
        | _ => cases w2 <;> exact p1.elim
end
end Wb

namespace Wb
open PySem PySem.Spec PyProof.Rows
open L2 (V Hp HO Rd upd upd_same upd_ne SqL SqT VK TE TT TA TS TG TI TO Ends WX XK R2 Cx Inv RelV Vals ne_of_none PE PT PA PS PSs PG PI OpR UnR CallR MtR Gl Vis Loc)

section
variable {T : Tx} {g g' : Gh} {env env' : Env} {S S' : Store} {σ : L2.St} {H H' : Hp}
theorem at_put {env : Env} {i j : Nat} {x y : Flag × W} (h : (env.put i x).at j = some y) : (j = i ∧ y = x) ∨ (j ≠ i ∧ env.at j = some y) := by
  unfold Env.at Env.put at *
  by_cases e : i = j
  · subst e
    left
    by_cases hi : i < env.length
    · rw [List.getElem?_set_self hi] at h
      exact ⟨rfl, (Option.some.inj h).symm⟩
    · rw [List.getElem?_eq_none (by simpa using hi)] at h
      cases h
  · right
    rw [List.getElem?_set_ne e] at h
    exact ⟨fun z => e z.symm, h⟩
theorem slot_ne {i j : Nat} {v : Option V} {fl : Flag} {w : W} (h : SlotOk T g H σ j fl w) (e : j ≠ i) : SlotOk T g H (σ.set i v) j fl w := by
  cases fl with
  | v => obtain ⟨x, h1, h2⟩ := h; exact ⟨x, by rw [List.getElem?_set_ne (Ne.symm e)]; exact h1, h2⟩
  | o => obtain ⟨x, h1, h2⟩ := h; exact ⟨x, by rw [List.getElem?_set_ne (Ne.symm e)]; exact h1, h2⟩
  | k => obtain ⟨x, h1, h2⟩ := h; exact ⟨x, by rw [List.getElem?_set_ne (Ne.symm e)]; exact h1, h2⟩
/-- a value is stored -/
theorem Sim.put (s : Sim T g H env S σ) {i : Nat} {x : V} {w : W} (r : RepX T g H x w) : Sim T g H (env.put i (.v, w)) S (σ.set i (some x)) where
  fin := s.fin
  wf := s.wf
  len := by unfold Env.put; rw [List.length_set, List.length_set]; exact s.len
  slots := fun j fl u h => by
    rcases at_put h with ⟨rfl, e⟩ | ⟨e, h⟩
    · cases e
      have hj : j < σ.length := by
        rw [← s.len]
        unfold Env.at Env.put at h
        by_cases hj : j < env.length
        · exact hj
        · rw [List.getElem?_eq_none (by simpa using hj)] at h; cases h
      exact ⟨x, List.getElem?_set_self hj, r⟩
    · exact slot_ne (s.slots j fl u h) e
  cells := s.cells
/-- a slot forgotten -/
theorem Sim.drop1 (s : Sim T g H env S σ) (i : Nat) : Sim T g H (env.set i none) S (σ.set i none) where
  fin := s.fin
  wf := s.wf
  len := by rw [List.length_set, List.length_set]; exact s.len
  slots := fun j fl u h => by
    unfold Env.at at h
    by_cases e : i = j
    · subst e
      by_cases hi : i < env.length
      · rw [List.getElem?_set_self hi] at h; cases h
      · rw [List.getElem?_eq_none (by simpa using hi)] at h; cases h
    · rw [List.getElem?_set_ne e] at h
      exact slot_ne (s.slots j fl u h) (Ne.symm e)
  cells := s.cells
theorem Sim.wipe (s : Sim T g H env S σ) : ∀ vs : List Nat, Sim T g H (wipeE env vs) S (L2.wipe σ vs)
  | [] => s
  | v :: vs => (s.wipe vs).drop1 v
/-- the frame, behind what others did -/
theorem Sim.move (s : Sim T g H env S σ) (x : Ext false g H g' H') (c : SimC T g' H' S') : Sim T g' H' env S' σ where
  fin := c.fin
  wf := c.wf
  len := s.len
  slots := fun i fl w h => by
    have z := s.slots i fl w h
    cases fl with
    | v =>
      obtain ⟨v, e1, r⟩ := z
      exact ⟨v, e1, x.stay.repX r⟩
    | o =>
      obtain ⟨a, e1, l, o⟩ := z
      obtain ⟨l2, h2⟩ := x.keep a o.some (.inr (.inr (.inr ⟨i, l⟩)))
      exact ⟨a, e1, l2.trans l, o.stay x.stay h2⟩
    | k =>
      obtain ⟨a, e1, l, o⟩ := z
      obtain ⟨l2, h2⟩ := x.keep a o.some (.inr (.inr (.inr ⟨i, l⟩)))
      exact ⟨a, e1, l2.trans l, o.stay x.stay h2⟩
  cells := c.cells
/-- an object that is in no one's sight is changed -/
theorem stay_out {D : Addr} {o : HO} (l : g.L D = .out) : Stay g H g (upd H D o) := by
  have ne : ∀ a, g.L a = .frz → a ≠ D := fun a h z => by rw [z, l] at h; cases h
  refine ⟨fun a h _ => h, fun a u _ h r => ?_, fun a C dx fs h r => ?_, fun m h => ⟨rfl, h⟩⟩
  · unfold Rd; rw [upd_ne (ne a h)]; exact r
  · rw [upd_ne (ne a h)]; exact r
theorem SimC.out (s : SimC T g H S) {D : Addr} {o : HO} (l : g.L D = .out) : SimC T g (upd H D o) S where
  fin := s.fin
  wf := fun a n => s.wf a (by
    by_cases e : a = D
    · rw [e, upd_same] at n; cases n
    · rw [upd_ne e] at n; exact n)
  cells := fun n c h => cell_stay (stay_out l) (fun a la n => ⟨rfl, upd_ne (fun z => by
    rw [z, l] at la
    rcases la with la | ⟨f, la⟩ <;> cases la)⟩) (s.cells n c h)
theorem Sim.out (s : Sim T g H env S σ) {D : Addr} {o : HO} (l : g.L D = .out) : Sim T g (upd H D o) env S σ where
  fin := s.fin
  wf := (s.c.out l).wf
  len := s.len
  slots := fun i fl w h => by
    have z := s.slots i fl w h
    cases fl with
    | v =>
      obtain ⟨v, e1, r⟩ := z
      exact ⟨v, e1, (stay_out l).repX r⟩
    | o =>
      obtain ⟨a, e1, la, o⟩ := z
      exact ⟨a, e1, la, o.stay (stay_out l) (upd_ne fun z => by rw [z, l] at la; cases la)⟩
    | k =>
      obtain ⟨a, e1, la, o⟩ := z
      exact ⟨a, e1, la, o.stay (stay_out l) (upd_ne fun z => by rw [z, l] at la; cases la)⟩
  cells := (s.c.out l).cells
theorem Yl.rep {x : V} {H3 : Hp} {w : W} (s : SimC T g H S) (h : Yl T g H x H3 w) : ∃ g3, Ext true g H g3 H3 ∧ RepX T g3 H3 x w := by
  rcases h with ⟨rfl, r⟩ | ⟨p, xs, us, rfl, hp, rfl, rfl, r⟩
  · exact ⟨g, Ext.refl, r⟩
  · have ex := ext_new (o := .tup xs) (l := .frz) hp (s.wf p hp)
    exact ⟨_, ex, repX_tup (.inl ⟨lab_same, .inl upd_same⟩) (paired_imp r fun _ _ => ex.stay.repX)⟩
theorem SimC.ext (s : SimC T g H S) (e : Ext true g H g' H') (wf : ∀ a, H' a = none → g'.L a = .out) (nc : ∀ a n, g'.L a = .cell n → g.L a = .cell n) : SimC T g' H' S :=
  ⟨wf, fun n c h => cell_stay e.stay (fun a _ n => e.keep a n (.inl rfl)) (s.cells n c h), fun a n h => s.fin a n (nc a n h)⟩
theorem Yl.sim {x : V} {H3 : Hp} {w : W} (s : Sim T g H env S σ) (h : Yl T g H x H3 w) : ∃ g3, Ext true g H g3 H3 ∧ Sim T g3 H3 env S σ ∧ RepX T g3 H3 x w := by
  rcases h with ⟨rfl, r⟩ | ⟨p, xs, us, rfl, hp, rfl, rfl, r⟩
  · exact ⟨g, Ext.refl, s, r⟩
  · have ex := ext_new (o := .tup xs) (l := .frz) hp (s.wf p hp)
    exact ⟨_, ex, s.new .frz hp, repX_tup (.inl ⟨lab_same, .inl upd_same⟩) (paired_imp r fun _ _ => ex.stay.repX)⟩
end
def gsOf : List Nat → L2.TGs
  | [] => L2.gNil
  | i :: is => L2.gCons (L2.gName i) (gsOf is)
def gOf (K : PySem.W.Frag) : Tg → TG
  | .one i => L2.gName i
  | .many is => L2.gTup K is.length (gsOf is)
def Tg.ixs : Tg → List Nat
  | .one i => [i]
  | .many is => is
section
variable {T : Tx} {g : Gh} {env env' : Env} {S : Store} {σ : L2.St} {H : Hp}
theorem gs_sem : ∀ {is : List Nat} {xs : List V} {ws : List W} {env : Env} {σ : L2.St} {Q : L2.St → Hp → Prop}, Paired (RepX T g H) xs ws → ws.length = is.length → Sim T g H env S σ →
    (∀ σ', Sim T g H ((is.zip ws).foldl (fun e p => e.put p.1 (.v, p.2)) env) S σ' → (∀ j, j ∉ is → σ'[j]? = σ[j]?) → Q σ' H) → gsOf is xs σ H Q
  | [], _, _, env, σ, Q, .nil, _, s, k => ⟨rfl, k σ s fun _ _ => rfl⟩
  | [], _, _, env, σ, Q, .cons _ _, h, s, k => by cases h
  | i :: is, _, _, env, σ, Q, .nil, h, s, k => by cases h
  | i :: is, x :: xs, w :: ws, env, σ, Q, .cons r rr, h, s, k => by
    refine ⟨x, xs, rfl, ?_⟩
    refine gs_sem (env := env.put i (.v, w)) rr (by simpa using h) (s.put r) fun σ' s' hk => ?_
    refine k σ' s' fun j hj => ?_
    simp only [List.mem_cons, not_or] at hj
    rw [hk j hj.2, List.getElem?_set_ne (Ne.symm hj.1)]
theorem tg_sem {tg : Tg} {x : V} {w : W} {Q : L2.St → Hp → Prop} (hb : bindTg tg w env = some env') (r : RepX T g H x w) (s : Sim T g H env S σ) (k : ∀ σ', Sim T g H env' S σ' → (∀ j, j ∉ tg.ixs → σ'[j]? = σ[j]?) → Q σ' H) : gOf T.K tg x σ H Q := by
  cases tg with
  | one i =>
    cases hb
    exact k _ (s.put r) fun j hj => List.getElem?_set_ne (fun z => hj (by rw [z]; simp [Tg.ixs]))
  | many is =>
    unfold bindTg at hb
    cases w with
    | tup ws =>
      simp only [unpackW] at hb
      split at hb
      · rename_i hl
        cases hb
        obtain ⟨a, xs, rfl, ha, rr⟩ := tup_inv r
        refine ⟨a, xs, rfl, ?_, rr.length.trans hl, gs_sem rr hl s k⟩
        rcases ha with ha | ha
        · exact .inl ha.2
        · exact .inr ha
      · cases hb
    | _ => cases hb
theorem bindTg_len {tg : Tg} {w : W} {env env' : Env} (h : bindTg tg w env = some env') : env'.length = env.length := by
  cases tg with
  | one i => cases h; exact List.length_set
  | many is =>
    unfold bindTg at h
    cases w with
    | tup ws =>
      simp only [unpackW] at h
      split at h
      · cases h
        generalize is.zip ws = zz
        induction zz generalizing env with
        | nil => rfl
        | cons p zz ih => exact ih.trans List.length_set
      · cases h
    | _ => cases h
theorem wipe_ext {σ σ' : L2.St} (hl : σ'.length = σ.length) : ∀ {vs : List Nat}, (∀ j, j ∉ vs → σ'[j]? = (L2.wipe σ vs)[j]?) → L2.wipe σ' vs = L2.wipe σ vs := by
  intro vs h
  refine List.ext_getElem? fun j => ?_
  by_cases hj : j ∈ vs
  · have key : ∀ (τ : L2.St) (vs : List Nat), j ∈ vs → j < τ.length → (L2.wipe τ vs)[j]? = some none := by
      intro τ vs
      induction vs with
      | nil => intro h; cases h
      | cons v vs ih =>
        intro h hlt
        unfold L2.wipe
        by_cases e : v = j
        · rw [e, List.getElem?_set_self (by rw [L2.wipe_length]; exact hlt)]
        · rw [List.getElem?_set_ne e]
          rcases List.mem_cons.mp h with h | h
          · exact absurd h.symm e
          · exact ih h hlt
    by_cases hlt : j < σ.length
    · rw [key σ vs hj hlt, key σ' vs hj (by rw [hl]; exact hlt)]
    · rw [List.getElem?_eq_none (by rw [L2.wipe_length, hl]; omega), List.getElem?_eq_none (by rw [L2.wipe_length]; omega)]
  · rw [L2.wipe_out hj]; exact h j hj
theorem takes_false (X : Cx) : L2.Takes X (fun _ _ _ _ => False) := by
  intro u s' ⟨a, B, sI, pins, σ, H, cls, d, e, I, nb, up, sky, na, os, ag, w⟩
  exact w.elim
end
end Wb

namespace Wb
open PySem PySem.Spec PyProof.Rows
open L2 (V Hp HO Rd upd upd_same upd_ne SqL SqT VK TE TT TA TS TG TI TO Ends WX XK R2 Cx Inv RelV Vals ne_of_none PE PT PA PS PSs PG PI OpR UnR CallR MtR Gl Vis Loc)
/-- nothing is wanted of exceptions: there are none -/
abbrev WF : WX := fun _ _ _ _ => False
def tC (T : Tx) (es : List E) : TT := fun σ H Q => ∃ g env S, Sim T g H env S σ ∧ Post T WF es.isEmpty ResB g env σ H (evc es env S) Q
section
variable {X : Cx} {T : Tx} {W' : WX} {c : Ctx} {pos p : Pos}
theorem sc_nil : L2.PTs X [] (tC T []) := ⟨fun pins s σ H Q I ⟨g, env, S, si, p⟩ => L2.pts_nil.run pins s σ H Q I (by unfold evc at p; exact p true g H Ext.refl si rfl)⟩
theorem sc_one {e : Expr} {e' : E} (h : PT X e (tT T WF e')) : L2.PTs X [e] (tC T [e']) := ⟨fun pins s σ H Q I ⟨g, env, S, si, p⟩ => (L2.pts_one h).run pins s σ H Q I ⟨g, env, S, si, by
  unfold evc at p
  exact Post.rest (qa := true) (qb := quiet e') (q := false) bm_resB (by simp) Ext.refl p⟩⟩
theorem noExn_ok {α : Type} {r : R α} {S : Store} {a : α} (h : noExn r = .ok a S) : r = .ok a S := by
  cases r with
  | ok _ _ => exact h
  | exn _ _ _ => cases h
  | bad => cases h
theorem lcGo_cons {tg : Tg} {cond : Env → Store → R Bool} {elt : Env → Store → R W} {env : Env} {x : W} {xs acc fin : List W} {S S' : Store} (h : lcGo tg cond elt env (x :: xs) acc S = .ok fin S') :
    ∃ env', bindTg tg x env = some env' ∧ ∃ b S1, cond env' S = .ok b S1 ∧ ((b = false ∧ lcGo tg cond elt env xs acc S1 = .ok fin S') ∨ (b = true ∧ ∃ w S2, elt env' S1 = .ok w S2 ∧ acc.length < sizeL ∧ lcGo tg cond elt env xs (acc ++ [w]) S2 = .ok fin S')) := by
  unfold lcGo at h
  cases h1 : bindTg tg x env with
  | none => rw [h1] at h; cases h
  | some env' =>
    rw [h1] at h
    refine ⟨env', rfl, ?_⟩
    dsimp only at h
    cases h2 : cond env' S with
    | bad => rw [h2] at h; cases h
    | exn _ _ _ => rw [h2] at h; cases h
    | ok b S1 =>
      rw [h2, R.bind_ok] at h
      refine ⟨b, S1, rfl, ?_⟩
      cases b with
      | false => exact .inl ⟨rfl, h⟩
      | true =>
        rw [if_pos rfl] at h
        cases h3 : elt env' S1 with
        | bad => rw [h3] at h; cases h
        | exn _ _ _ => rw [h3] at h; cases h
        | ok w S2 =>
          rw [h3, R.bind_ok] at h
          split at h
          · rename_i hz
            exact .inr ⟨rfl, w, S2, rfl, hz, h⟩
          · cases h
/-- a post of what ends well -/
theorem Post.mk {α β : Type} {q : Bool} {Kr : Hp → Gh → Hp → β → α → Prop} {g : Gh} {env : Env} {σ : L2.St} {H : Hp} {a : α} {S' : Store} {Q : β → Hp → Prop} {r : R α} (hr : r = .ok a S') (h : ∀ x g' H', Ext q g H g' H' → Sim T g' H' env S' σ → Kr H g' H' x a → Q x H') : Post T W' q Kr g env σ H r Q := by
  rw [hr]; exact h
/-- what a comprehension asks, once its items are known -/
def LcR (gt : TG) (tt : TT) (te : TE) (vs : List Nat) (σ : L2.St) (Q : VK) (J : L2.It) (H1 : Hp) : Prop := ∀ D, H1 D = none → ∃ W : Nat → Nat → Hp → Prop, (∃ m, W 0 m (upd H1 D (.lst []))) ∧ ∀ i m H, W i m H →
  (J.stop i H ∧ Q (.ref D) H) ∨ (J.go i H ∧ ∃ Nx : Hp → Prop, (∀ H', Nx H' → ∃ m', m' < m ∧ W (i + 1) m' H') ∧ ∀ x H', J.yld i H x H' → gt x (L2.wipe σ vs) H' fun σ2 H2 => L2.wipe σ2 vs = L2.wipe σ vs ∧ tt σ2 H2 fun b H3 =>
    if b = true then te σ2 H3 fun y H4 => ∃ acc, H4 D = some (.lst acc) ∧ acc.length < sizeLine ∧ Nx (upd H4 D (.lst (acc ++ [y]))) else Nx H3)
theorem lc_rest {tg : Tg} {conds : List E} {elt' : E} {own : List (Str × Nat)} (sub : ∀ j ∈ tg.ixs, j ∈ own.map (·.2)) {qq : Bool} (hq : qq = true → conds.isEmpty = true ∧ quiet elt' = true) {g1 : Gh} {H1 : Hp} {env : Env} {S1 : Store} {σ : L2.St} {J : L2.It} {items : List W} {Q : VK}
    (s1 : Sim T g1 H1 env S1 σ) (r1 : ItE T qq g1 H1 J items) (p1 : Post T W' qq (Res T c) g1 env σ H1 (noExn ((lcGo tg (fun env' S' => evc conds env' S') (fun env' S' => ev .V elt' env' S') (wipeE env (own.map (·.2))) items [] S1).bind fun ws S' => .ok (.lst ws) S')) Q) :
    LcR (gOf T.K tg) (tC T conds) (tE T WF .V elt') (own.map (·.2)) σ Q J H1 := by
  intro D hD
  -- the end
  generalize hvs : own.map (·.2) = vs at *
  cases hR : noExn ((lcGo tg (fun env' S' => evc conds env' S') (fun env' S' => ev .V elt' env' S') (wipeE env vs) items [] S1).bind fun ws S' => .ok (W.lst ws) S') with
  | bad => rw [hR] at p1; exact p1.elim
  | exn _ _ _ =>
    exfalso
    generalize (lcGo tg (fun env' S' => evc conds env' S') (fun env' S' => ev .V elt' env' S') (wipeE env vs) items [] S1).bind (fun ws S' => R.ok (W.lst ws) S') = rr at hR
    cases rr <;> cases hR
  | ok wl Sf =>
    rw [hR] at p1
    have hR' := noExn_ok hR
    cases hL : lcGo tg (fun env' S' => evc conds env' S') (fun env' S' => ev .V elt' env' S') (wipeE env vs) items [] S1 with
    | bad => rw [hL] at hR'; cases hR'
    | exn _ _ _ => rw [hL] at hR'; cases hR'
    | ok fin Sf' =>
      rw [hL, R.bind_ok] at hR'
      cases hR'
      have xD := ext_new (o := .lst []) (l := .out) hD (s1.wf D hD)
      refine ⟨fun i m Hc => ∃ gc Sc acc ws, m = items.length - i ∧ i ≤ items.length ∧ Ext qq g1 H1 gc Hc ∧ Stay g1 H1 gc Hc ∧ Sim T gc Hc env Sc σ ∧ gc.L D = .out ∧ Hc D = some (.lst acc) ∧ Paired (RepX T gc Hc) acc ws ∧
        lcGo tg (fun env' S' => evc conds env' S') (fun env' S' => ev .V elt' env' S') (wipeE env vs) (items.drop i) ws Sc = .ok fin Sf, ?_, ?_⟩
      · exact ⟨items.length, g1.lab D .out, S1, [], [], by simp, Nat.zero_le _, xD.weak (by simp), xD.stay, s1.new .out hD, lab_same, upd_same, .nil, hL⟩
      · rintro i m Hc ⟨gc, Sc, acc, ws, rfl, hi, ec, sc, simc, lD, hDc, ra, hgo⟩
        obtain ⟨jstop, jgo⟩ := r1 gc Hc ec i
        by_cases hlt : i < items.length
        · have hx := List.getElem?_eq_getElem hlt
          rw [List.drop_eq_getElem_cons hlt] at hgo
          obtain ⟨env', hb, b, S2, hcnd, hrest⟩ := lcGo_cons hgo
          obtain ⟨jg, jy⟩ := jgo _ hx
          refine .inr ⟨jg, fun H' => ∃ gc Sc acc ws, Ext qq g1 H1 gc H' ∧ Stay g1 H1 gc H' ∧ Sim T gc H' env Sc σ ∧ gc.L D = .out ∧ H' D = some (.lst acc) ∧ Paired (RepX T gc H') acc ws ∧
            lcGo tg (fun env' S' => evc conds env' S') (fun env' S' => ev .V elt' env' S') (wipeE env vs) (items.drop (i + 1)) ws Sc = .ok fin Sf, ?_, ?_⟩
          · rintro H' ⟨gc, Sc, acc, ws, h⟩
            exact ⟨items.length - (i + 1), by omega, gc, Sc, acc, ws, rfl, hlt, h⟩
          · intro x H' hy
            obtain ⟨g3, e3, sim3, rx⟩ := (jy x H' hy).sim simc
            have hD3 := e3.keep D (by rw [hDc]; simp) (.inl rfl)
            have ec3 : Ext qq g1 H1 g3 H' := ec.trans (e3.weak (by simp))
            refine tg_sem hb rx (sim3.wipe vs) fun σ2 sim4 hσ => ?_
            have hw : L2.wipe σ2 vs = L2.wipe σ vs := by
              refine wipe_ext ?_ fun j hj => hσ j fun z => hj (sub j z)
              have l1 := sim4.len
              have l2 := (sim3.wipe vs).len
              rw [L2.wipe_length] at l2
              have l3 := bindTg_len hb
              omega
            refine ⟨hw, g3, env', Sc, sim4, Post.mk hcnd fun b' g5 H5 e5 sim5 hb' => ?_⟩
            cases hb'
            have sim5o : Sim T g5 H5 env S2 σ := sim3.move (e5.weak (by simp)) sim5.c
            have ec5 := ec3.trans (e5.weak (q' := qq) fun z => (hq z).1)
            have hD5 := e5.keep D (by rw [hD3.2, hDc]; simp) (.inr (.inl (hD3.1.trans lD)))
            have ra5 := paired_imp ra fun _ _ z => e5.stay.repX (e3.stay.repX z)
            rcases hrest with ⟨rfl, hrest⟩ | ⟨rfl, w, S3, helt, hz, hrest⟩
            · rw [if_neg Bool.false_ne_true]
              exact ⟨g5, S2, acc, ws, ec5, ec5.stay, sim5o, hD5.1.trans (hD3.1.trans lD), hD5.2.trans (hD3.2.trans hDc), ra5, hrest⟩
            · rw [if_pos rfl]
              refine ⟨g5, env', S2, sim5, Post.mk helt fun y g6 H6 e6 sim6 ry => ?_⟩
              have e6' : Ext qq g5 H5 g6 H6 := e6.weak fun z => (hq z).2
              have e6f : Ext false g5 H5 g6 H6 := e6.weak (by simp)
              have sim6o : Sim T g6 H6 env S3 σ := sim5o.move e6f sim6.c
              have hD6 := e6f.keep D (by rw [hD5.2, hD3.2, hDc]; simp) (.inr (.inl (hD5.1.trans (hD3.1.trans lD))))
              have l6 : g6.L D = .out := hD6.1.trans (hD5.1.trans (hD3.1.trans lD))
              refine ⟨acc, hD6.2.trans (hD5.2.trans (hD3.2.trans hDc)), by rw [ra.length, ← sizeL_eq]; exact hz, ?_⟩
              have st6 : Stay g6 H6 g6 (upd H6 D (.lst (acc ++ [y]))) := stay_out l6
              have e7 : Ext qq g1 H1 g6 (upd H6 D (.lst (acc ++ [y]))) := by
                have ec6 := ec5.trans e6'
                refine ⟨fun a n pp => ?_, ec6.cel, fun a n => ?_, ec6.slot⟩
                · obtain ⟨k1, k2⟩ := ec6.keep a n pp
                  exact ⟨k1, (upd_ne fun z => n (by rw [z]; exact hD)).trans k2⟩
                · rw [upd_ne fun z => n (by rw [z]; exact hD)]; exact ec6.some a n
              exact ⟨g6, S3, acc ++ [y], ws ++ [w], e7, e7.stay, sim6o.out l6, l6, upd_same, paired_append (paired_imp ra5 fun _ _ z => st6.repX (e6.stay.repX z)) (.cons (st6.repX ry) .nil), hrest⟩
        · have hie : i = items.length := by omega
          subst hie
          rw [List.drop_length] at hgo
          unfold lcGo at hgo
          cases hgo
          refine .inl ⟨jstop (Nat.le_refl _), ?_⟩
          exact res_fresh (w := .lst fin) hD ec simc lD ⟨acc, hDc, ra⟩ p1
theorem lc_sem {tg : Tg} {k : Src} {srcs conds : List E} {elt' : E} {own : List (Str × Nat)} (sub : ∀ j ∈ tg.ixs, j ∈ own.map (·.2)) : ∀ (σ : L2.St) (H : Hp) (Q : VK), tE T W' c (.lc tg k srcs conds elt' own) σ H Q → L2.tLc (tI T W' k srcs) (gOf T.K tg) (tC T conds) (tE T WF .V elt') (own.map (·.2)) σ H Q := by
  intro σ H Q ⟨g, env, S, s, p⟩
  unfold ev at p
  exact ⟨g, env, S, s, Post.bind (qa := quiets srcs) (qb := false) bm_res (by simp [quiet]) p fun items S1 J g1 H1 _ e1 s1 r1 p1 => lc_rest (qq := false) sub (by simp) s1 r1.e p1⟩
theorem se_lc (G : XG X T) {elt tgE iter : Expr} {ifs : List Expr} {scope : Scope} {own : List (Str × Nat)} {tg : Tg} {k : Src} {srcs conds : List E} {elt' : E} (hi : PI X tgE iter (tI T W' k srcs)) (ok : L2.BlkOk X.N X.env.scope scope own) (sub : ∀ j ∈ tg.ixs, j ∈ own.map (·.2))
    (hg : ∀ (s : Shared) (H : Hp) (C : Addr) (cl : List (Str × Addr)) (fp : List Addr), PG (X.blk s H scope (compEnvC scope cl C X.env) fp) tgE (gOf T.K tg))
    (ht : ∀ (s : Shared) (H : Hp) (C : Addr) (cl : List (Str × Addr)) (fp : List Addr), L2.PTs (X.blk s H scope (compEnvC scope cl C X.env) fp) ifs (tC T conds))
    (he : ∀ (s : Shared) (H : Hp) (C : Addr) (cl : List (Str × Addr)) (fp : List Addr), PE (X.blk s H scope (compEnvC scope cl C X.env) fp) elt (tE T WF .V elt'))
    (hs : ∀ x, foldedSetIterable iter X.env x = pure x) : PE X (.ListComp elt [⟨tgE, iter, ifs, 0⟩] scope pos) (tE T W' c (.lc tg k srcs conds elt' own)) :=
  pe_imp (L2.pe_lc G.calm G.nd hi ok hg ht he hs) fun σ H Q z => lc_sem sub σ H Q z
end
end Wb

namespace Wb
open PySem PySem.Spec PyProof.Rows
open L2 (V Hp HO Rd upd upd_same upd_ne SqL SqT VK TE TT TA TS TG TI TO Ends WX XK R2 Cx Inv RelV Vals ne_of_none PE PT PA PS PSs PG PI OpR UnR CallR MtR Gl Vis Loc)
/-- what a def's body is about: which slots stay, whether a new container is handed back -/
structure Bd where
  P : Nat → Bool
  fresh : Bool
def Kp (P : Nat → Bool) (σ σ' : L2.St) : Prop := ∀ i, P i = true → σ'[i]? = σ[i]?
theorem Kp.refl {P : Nat → Bool} {σ : L2.St} : Kp P σ σ := fun _ _ => rfl
theorem Kp.trans {P : Nat → Bool} {σ σ1 σ2 : L2.St} (a : Kp P σ σ1) (b : Kp P σ1 σ2) : Kp P σ σ2 := fun i h => (b i h).trans (a i h)
theorem Kp.set {P : Nat → Bool} {σ σ1 : L2.St} {i : Nat} {v : Option V} (a : Kp P σ σ1) (h : P i = false) : Kp P σ (σ1.set i v) := fun j hj => by
  rw [List.getElem?_set_ne (fun z => by rw [z, hj] at h; cases h)]
  exact a j hj
def RetR (T : Tx) (fresh : Bool) (H : Hp) (g' : Gh) (H' : Hp) (x : V) (w : W) : Prop :=
  if fresh then ∃ a, x = .ref a ∧ Own T g' H' .o a w ∧ ((H a = none ∧ g'.L a = .out) ∨ ∃ i, g'.L a = .slot i) else RepX T g' H' x w
section
variable (T : Tx) (W' : WX) (B : Bd)
def PostS (g : Gh) (σ : L2.St) (H : Hp) (o : Out) (D : Ends) : Prop := match o with
  | .nx env' S' => ∀ g' H' σ', ExtS g H g' H' → Sim T g' H' env' S' σ' → Kp B.P σ σ' → D.nx σ' H'
  | .brk env' S' => ∀ g' H' σ', ExtS g H g' H' → Sim T g' H' env' S' σ' → Kp B.P σ σ' → D.bk σ' H'
  | .ct env' S' => ∀ g' H' σ', ExtS g H g' H' → Sim T g' H' env' S' σ' → Kp B.P σ σ' → D.ct σ' H'
  | .ret w env' S' => ∀ x g' H' σ', ExtS g H g' H' → Sim T g' H' env' S' σ' → Kp B.P σ σ' → RetR T B.fresh H g' H' x w → D.rt x H'
  | .exn c fs env' S' => ∀ d g' H' σ', ExtS g H g' H' → Sim T g' H' env' S' σ' → Kp B.P σ σ' → ExOk T g' H' d fs → W' (.ref (T.ca c)) (some d) σ' H'
  | .bad => False
def tS (st : S) : TS := fun D σ H => ∃ g env S, Sim T g H env S σ ∧ PostS T W' B g σ H (exec st env S) D
def tSs (st : List S) : TS := fun D σ H => ∃ g env S, Sim T g H env S σ ∧ PostS T W' B g σ H (execs st env S) D
end
section
variable {X : Cx} {T : Tx} {W' : WX} {B : Bd} {pos p : Pos} {g g1 : Gh} {env env1 : Env} {S S1 : Store} {σ σ1 : L2.St} {H H1 : Hp} {D : Ends}
theorem PostS.rest {o : Out} (e : ExtS g H g1 H1) (k : Kp B.P σ σ1) (h : PostS T W' B g σ H o D) : PostS T W' B g1 σ1 H1 o D := by
  cases o with
  | bad => exact h
  | nx env' S' => exact fun g' H' σ' e' s' k' => h g' H' σ' (e.trans e') s' (k.trans k')
  | brk env' S' => exact fun g' H' σ' e' s' k' => h g' H' σ' (e.trans e') s' (k.trans k')
  | ct env' S' => exact fun g' H' σ' e' s' k' => h g' H' σ' (e.trans e') s' (k.trans k')
  | exn c fs env' S' => exact fun d g' H' σ' e' s' k' => h d g' H' σ' (e.trans e') s' (k.trans k')
  | ret w env' S' =>
    intro x g' H' σ' e' s' k' r
    refine h x g' H' σ' (e.trans e') s' (k.trans k') ?_
    unfold RetR at r ⊢
    split at r
    · rename_i hf
      rw [if_pos hf]
      obtain ⟨a, ex, o, r⟩ := r
      refine ⟨a, ex, o, r.imp_left fun ⟨n, l⟩ => ⟨?_, l⟩⟩
      cases q : H a with
      | none => rfl
      | some u => exact absurd n (e.some a (by rw [q]; simp))
    · rename_i hf
      rw [if_neg hf]
      exact r
/-- an expression, then more -/
theorem PostS.out {α β : Type} {qa : Bool} {Ka : Hp → Gh → Hp → β → α → Prop} {r : R α} {f : α → Store → Out} {Q : β → Hp → Prop} (h : PostS T W' B g σ H (r.out env f) D)
    (k : ∀ a S1 x g1 H1, r = .ok a S1 → Ext qa g H g1 H1 → Sim T g1 H1 env S1 σ → Ka H g1 H1 x a → PostS T W' B g1 σ H1 (f a S1) D → Q x H1) : Post T W' qa Ka g env σ H r Q := by
  cases r with
  | bad => exact h
  | ok a S' => exact fun x g' H' e s kk => k a S' x g' H' rfl e s kk (PostS.rest e.toS Kp.refl h)
  | exn c fs S' => exact fun d g' H' e s ex => h d g' H' σ e.toS s Kp.refl ex
theorem PostS.nx0 (h : PostS T W' B g σ H (.nx env S) D) (s : Sim T g H env S σ) : D.nx σ H := h g H σ ExtS.refl s Kp.refl
theorem PostS.seq {o : Out} {f : Env → Store → Out} (h : PostS T W' B g σ H (o.then f) D) {N : L2.St → Hp → Prop}
    (k : ∀ env' S' g' H' σ', o = .nx env' S' → ExtS g H g' H' → Sim T g' H' env' S' σ' → Kp B.P σ σ' → PostS T W' B g' σ' H' (f env' S') D → N σ' H') : PostS T W' B g σ H o { D with nx := N } := by
  cases o with
  | nx env' S' => exact fun g' H' σ' e s kk => k env' S' g' H' σ' rfl e s kk (PostS.rest e kk h)
  | _ => exact h
theorem ss_nil : PSs X [] (tSs T W' B []) := pss_imp L2.pss_nil fun D σ H ⟨g, env, S, s, p⟩ => by
  unfold execs at p
  exact p.nx0 s
theorem ss_cons {st : Stmt} {rest : List Stmt} {st' : Wb.S} {rest' : List Wb.S} (h : PS X st (tS T W' B st')) (hr : PSs X rest (tSs T W' B rest')) : PSs X (st :: rest) (tSs T W' B (st' :: rest')) := by
  refine pss_imp (L2.pss_cons h hr) fun D σ H ⟨g, env, S, s, p⟩ => ?_
  unfold execs at p
  exact ⟨g, env, S, s, p.seq fun env' S' g' H' σ' _ e s' k p' => ⟨g', env', S', s', p'⟩⟩
theorem ss_pass : PS X (.Pass pos) (tS T W' B .pass) := ps_imp L2.ps_pass fun D σ H ⟨g, env, S, s, p⟩ => by
  unfold exec at p; exact p.nx0 s
theorem ss_brk : PS X (.Break pos) (tS T W' B .brk) := ps_imp L2.ps_break fun D σ H ⟨g, env, S, s, p⟩ => by
  unfold exec at p; exact p g H σ ExtS.refl s Kp.refl
theorem ss_cont : PS X (.Continue pos) (tS T W' B .cont) := ps_imp L2.ps_continue fun D σ H ⟨g, env, S, s, p⟩ => by
  unfold exec at p; exact p g H σ ExtS.refl s Kp.refl
theorem ss_expr {e : Expr} {e' : E} (he : PE X e (tE T W' .B e')) (hs : swapsWith e none pos.line X.env = pure false) : PS X (.Expr e pos) (tS T W' B (.expr e')) := by
  refine ps_imp (L2.ps_expr he hs) fun D σ H ⟨g, env, S, s, p⟩ => ?_
  unfold exec at p
  exact ⟨g, env, S, s, p.out fun a S1 x g1 H1 _ e1 s1 _ p1 => p1.nx0 s1⟩
theorem ss_ret (hB : B.fresh = false) {e : Expr} {e' : E} (he : PE X e (tE T W' .V e')) : PS X (.Return (some e) pos) (tS T W' B (.ret e')) := by
  refine ps_imp (L2.ps_ret he) fun D σ H ⟨g, env, S, s, p⟩ => ?_
  unfold exec at p
  refine ⟨g, env, S, s, p.out fun a S1 x g1 H1 _ e1 s1 r1 p1 => p1 x g1 H1 σ ExtS.refl s1 Kp.refl ?_⟩
  unfold RetR
  rw [hB, if_neg Bool.false_ne_true]
  exact r1
theorem ss_retF (hB : B.fresh = true) {e : Expr} {e' : E} (he : PE X e (tE T W' .F e')) : PS X (.Return (some e) pos) (tS T W' B (.retF e')) := by
  refine ps_imp (L2.ps_ret he) fun D σ H ⟨g, env, S, s, p⟩ => ?_
  unfold exec at p
  refine ⟨g, env, S, s, ?_⟩
  revert p
  cases hx : ev .F e' env S with
  | bad => exact fun p => p
  | exn c fs S' => exact fun p d g' H' e s ex => p d g' H' σ e.toS s Kp.refl ex
  | ok a S' =>
    intro p x g1 H1 e1 s1 r1
    refine p x g1 H1 σ e1.toS s1 Kp.refl ?_
    obtain ⟨ad, ex, n, l, o⟩ := r1
    unfold RetR
    rw [hB, if_pos rfl]
    exact ⟨ad, ex, o, .inl ⟨n, l⟩⟩
theorem ss_retN (hB : B.fresh = false) : PS X (.Return none pos) (tS T W' B .retN) := ps_imp L2.ps_retN fun D σ H ⟨g, env, S, s, p⟩ => by
  unfold exec at p
  refine p .non g H σ ExtS.refl s Kp.refl ?_
  unfold RetR
  rw [hB, if_neg Bool.false_ne_true]
  exact repX_non
/-- return xs, a container of one's own -/
theorem ss_retO (hB : B.fresh = true) {i : Nat} {x : Str} (hN : X.N[i]? = some x) (hv : Vis X.env.scope x) (hd : (x == ("__debug__" : Str)) = false) (hcd : (x == ("__classdict__" : Str)) = false) : PS X (.Return (some (.Name x p)) pos) (tS T W' B (.retO i)) := by
  refine ps_imp (L2.ps_ret (L2.pe_var hN hv hd hcd)) fun D σ H ⟨g, env, S, s, p⟩ => ?_
  unfold exec at p
  split at p
  · rename_i w hw
    obtain ⟨a, e1, l, o⟩ := s.slots i _ _ hw
    refine ⟨.ref a, e1, p _ g H σ ExtS.refl s Kp.refl ?_⟩
    unfold RetR
    rw [hB, if_pos rfl]
    exact ⟨a, rfl, o, .inr ⟨i, l⟩⟩
  · exact p.elim
theorem ss_if {c : Expr} {a b : List Stmt} {c' : E} {a' b' : List Wb.S} (hc : PT X c (tT T W' c')) (ha : PSs X a (tSs T W' B a')) (hb : PSs X b (tSs T W' B b')) : PS X (.If c a b pos) (tS T W' B (.ife c' a' b')) := by
  refine ps_imp (L2.ps_if hc ha hb) fun D σ H ⟨g, env, S, s, p⟩ => ?_
  unfold exec at p
  refine ⟨g, env, S, s, p.out fun t S1 x g1 H1 _ e1 s1 r1 p1 => ?_⟩
  cases r1
  cases t with
  | true => rw [if_pos rfl] at p1 ⊢; exact ⟨g1, env, S1, s1, p1⟩
  | false => rw [if_neg Bool.false_ne_true] at p1 ⊢; exact ⟨g1, env, S1, s1, p1⟩
theorem ss_asg (G : XG X T) {i : Nat} {x : Str} {p2 : Pos} {e : Expr} {e' : E} (hi : X.N[i]? = some x) (hx : Loc X.env.scope x) (hf : X.fn x = true ∨ X.env.scope.names.lookup x = some .local) (hP : B.P i = false) (he : PE X e (tE T W' .V e')) (hs : swapsWith e (some (.Name x p2)) pos.line X.env = pure false) :
    PS X (.Assign [.Name x p2] e pos) (tS T W' B (.asg i e')) := by
  refine ps_imp (L2.ps_set G.nd hi hx he hs hf) fun D σ H ⟨g, env, S, s, p⟩ => ?_
  unfold exec at p
  exact ⟨g, env, S, s, p.out fun w S1 v g1 H1 _ e1 s1 r1 p1 => p1 g1 H1 _ ExtS.refl (s1.put r1) (Kp.refl.set hP)⟩
/-- a label that marks an own container -/
theorem Sim.take (s : Sim T g H env S σ) {i : Nat} {a : Addr} {w : W} (l : g.L a = .out) (o : Own T g H .o a w) : Sim T (g.lab a (.slot i)) H (env.put i (.o, w)) S (σ.set i (some (.ref a))) := by
  have s2 := s.lab (l := .slot i) l o.some
  refine ⟨s2.wf, by unfold Env.put; rw [List.length_set, List.length_set]; exact s.len, fun j fl u h => ?_, s2.cells, s2.fin⟩
  rcases at_put h with ⟨rfl, e⟩ | ⟨e, h⟩
  · cases e
    have hj : j < σ.length := by
      rw [← s.len]
      unfold Env.at Env.put at h
      by_cases hj : j < env.length
      · exact hj
      · rw [List.getElem?_eq_none (by simpa using hj)] at h; cases h
    exact ⟨a, List.getElem?_set_self hj, lab_same, o.stay (stay_lab l) rfl⟩
  · exact slot_ne (s2.slots j fl u h) e
theorem asgO_sem {i : Nat} {e' : E} (hP : B.P i = false) (s : Sim T g H env S σ) (p : PostS T W' B g σ H (exec (.asgO i e') env S) D) : tE T W' .F e' σ H fun x H1 => L2.gName i x σ H1 D.nx := by
  unfold exec at p
  refine ⟨g, env, S, s, ?_⟩
  revert p
  cases hx : ev .F e' env S with
  | bad => exact fun p => p
  | exn c fs S' => exact fun p d g' H' e s ex => p d g' H' σ e.toS s Kp.refl ex
  | ok w S' =>
    intro p v g1 H1 e1 s1 r1
    obtain ⟨a, rfl, n, l, o⟩ := r1
    refine p (g1.lab a (.slot i)) H1 _ ?_ (s1.take l o) (Kp.refl.set hP)
    have na : ∀ b, H b ≠ none → b ≠ a := fun b hb z => hb (by rw [z]; exact n)
    refine ⟨fun b hb pp => ?_, fun m hm => ?_, e1.some, fun b j hb hl => e1.slot b j hb (by rw [lab_ne (na b hb)] at hl; exact hl)⟩
    · obtain ⟨k1, k2⟩ := e1.keep b hb (by rcases pp with pp | pp <;> simp [pp])
      exact ⟨(lab_ne (na b hb)).trans k1, k2⟩
    · obtain ⟨k1, k2⟩ := e1.cel m hm
      refine ⟨k1, ?_⟩
      rw [lab_ne (fun z => by rw [z, l] at k2; cases k2)]
      exact k2
theorem ss_asgO (G : XG X T) {i : Nat} {x : Str} {p2 : Pos} {e : Expr} {e' : E} (hi : X.N[i]? = some x) (hx : Loc X.env.scope x) (hf : X.fn x = true ∨ X.env.scope.names.lookup x = some .local) (hP : B.P i = false) (he : PE X e (tE T W' .F e')) (hs : swapsWith e (some (.Name x p2)) pos.line X.env = pure false) :
    PS X (.Assign [.Name x p2] e pos) (tS T W' B (.asgO i e')) :=
  ps_imp (L2.ps_set G.nd hi hx he hs hf) fun D σ H ⟨g, env, S, s, p⟩ => asgO_sem hP s p
/-- the container at a slot is a value from here on -/
theorem Sim.freeze (s : Sim T g H env S σ) {i : Nat} {w : W} (h : env.at i = some (.o, w)) : ∃ a, g.L a = .slot i ∧ H a ≠ none ∧ Sim T (g.lab a .frz) H (env.put i (.v, w)) S σ ∧ Stay g H (g.lab a .frz) H := by
  obtain ⟨a, e1, l, o⟩ := s.slots i _ _ h
  have st : Stay g H (g.lab a .frz) H := by
    refine ⟨fun b hb _ => ?_, fun _ _ _ _ r => r, fun _ _ _ _ _ r => r, fun m hm => ⟨rfl, ?_⟩⟩
    · rw [lab_ne fun z => by rw [z, l] at hb; cases hb]; exact hb
    · show (g.lab a .frz).L (g.ι m) = _
      rw [lab_ne fun z => by rw [z, l] at hm; cases hm]; exact hm
  refine ⟨a, l, o.some, ⟨fun b hb => ?_, ?_, fun j fl u hj => ?_, fun n c hc => cell_stay st (fun b hb _ => ⟨?_, rfl⟩) (s.cells n c hc), fun b n h => s.fin b n (lab_cell (by intro n h; cases h) h)⟩, st⟩
  · rw [lab_ne fun z => o.some (by rw [← z]; exact hb)]; exact s.wf b hb
  · unfold Env.put; rw [List.length_set]; exact s.len
  · rcases at_put hj with ⟨rfl, e⟩ | ⟨e, hj⟩
    · cases e
      exact ⟨.ref a, e1, own_rep lab_same (o.stay st rfl)⟩
    · have z := s.slots j fl u hj
      cases fl with
      | v => obtain ⟨x, q1, q2⟩ := z; exact ⟨x, q1, st.repX q2⟩
      | o => obtain ⟨b, q1, q2, q3⟩ := z; exact ⟨b, q1, (lab_ne fun z => by rw [z, l] at q2; cases q2; exact e rfl).trans q2, q3.stay st rfl⟩
      | k => obtain ⟨b, q1, q2, q3⟩ := z; exact ⟨b, q1, (lab_ne fun z => by rw [z, l] at q2; cases q2; exact e rfl).trans q2, q3.stay st rfl⟩
  · rw [lab_ne fun z => by
      rw [z, l] at hb
      rcases hb with hb | ⟨f, hb⟩ <;> cases hb]
theorem frz_imp {i : Nat} {rest' : List Wb.S} {D : Ends} {σ : L2.St} {H : Hp} (h : tSs T W' B (.frz i :: rest') D σ H) : tSs T W' B rest' D σ H := by
  obtain ⟨g, env, S, s, p⟩ := h
  unfold execs exec at p
  split at p
  · rename_i w hw
    obtain ⟨a, l, n, s2, st⟩ := s.freeze hw
    refine ⟨g.lab a .frz, _, S, s2, PostS.rest ?_ Kp.refl p⟩
    refine ⟨fun b hb pp => ⟨lab_ne fun z => ?_, rfl⟩, fun m hm => st.cel m hm, fun _ h => h, fun b j hb hl => ⟨j, ?_⟩⟩
    · rw [z, l] at pp; rcases pp with pp | pp <;> cases pp
    · by_cases e : b = a
      · rw [e, lab_same] at hl; cases hl
      · rw [lab_ne e] at hl; exact hl
  · exact p.elim
theorem ss_frz {i : Nat} {rest : List Stmt} {rest' : List Wb.S} (hr : PSs X rest (tSs T W' B rest')) : PSs X rest (tSs T W' B (.frz i :: rest')) := pss_imp hr fun _ _ _ h => frz_imp h
end
end Wb

namespace Wb
open PySem PySem.Spec PyProof.Rows
open L2 (V Hp HO Rd upd upd_same upd_ne SqL SqT VK TE TT TA TS TG TI TO Ends WX XK R2 Cx Inv RelV Vals ne_of_none PE PT PA PS PSs PG PI OpR UnR CallR MtR Gl Vis Loc)
section
variable {X : Cx} {T : Tx} {W' : WX} {B : Bd} {pos p : Pos} {g g1 : Gh} {env env1 : Env} {S S1 : Store} {σ σ1 : L2.St} {H H1 : Hp} {D : Ends}
theorem PostS.keepX {k : Src} {o : Out} (h : PostS T W' B g σ H (keepX k o) D) : PostS T W' B g σ H o D := by
  cases k <;> cases o <;> first | exact h | exact h.elim
def ForR (gt : TG) (tb : TS) (D : Ends) (σ : L2.St) (J : L2.It) (H1 : Hp) : Prop := L2.tFor (fun _ H R => R J H) gt tb D σ H1
theorem for_rest {tg : Tg} {body' : List Wb.S} (hP : ∀ j ∈ tg.ixs, B.P j = false) {g1 : Gh} {H0 H1 : Hp} {env : Env} {S1 : Store} {σ : L2.St} {J : L2.It} {items : List W} {D : Ends} (s1 : Sim T g1 H1 env S1 σ) (r1 : ItOk T H0 g1 H1 J items)
    (p1 : PostS T W' B g1 σ H1 (forGo tg (fun env S => execs body' env S) items env S1) D) : ForR (gOf T.K tg) (tSs T W' B body') D σ J H1 := by
  refine ⟨fun i m σc Hc => ∃ gc envc Sc, m = items.length - i ∧ i ≤ items.length ∧ ExtS g1 H1 gc Hc ∧ Sim T gc Hc envc Sc σc ∧ Kp B.P σ σc ∧ PostS T W' B gc σc Hc (forGo tg (fun env S => execs body' env S) (items.drop i) envc Sc) D, ?_, ?_⟩
  · exact ⟨items.length, g1, env, S1, by simp, Nat.zero_le _, ExtS.refl, s1, Kp.refl, p1⟩
  · rintro i m σc Hc ⟨gc, envc, Sc, rfl, hi, ec, sc, kc, pc⟩
    obtain ⟨jstop, jgo⟩ := r1 gc Hc ec.stay (fun a l n => (ec.keep a n (.inr l)).2) i
    by_cases hlt : i < items.length
    · have hx := List.getElem?_eq_getElem hlt
      rw [List.drop_eq_getElem_cons hlt] at pc
      obtain ⟨jg, jy⟩ := jgo _ hx
      refine .inr ⟨jg, fun σ' H' => ∃ gc envc Sc, ExtS g1 H1 gc H' ∧ Sim T gc H' envc Sc σ' ∧ Kp B.P σ σ' ∧ PostS T W' B gc σ' H' (forGo tg (fun env S => execs body' env S) (items.drop (i + 1)) envc Sc) D, ?_, ?_⟩
      · rintro σ' H' ⟨gc, envc, Sc, h⟩
        exact ⟨items.length - (i + 1), by omega, gc, envc, Sc, rfl, hlt, h⟩
      · intro x H' hy
        obtain ⟨g3, e3, sim3, rx⟩ := (jy x H' hy).sim sc
        unfold forGo at pc
        cases hbd : bindTg tg items[i] envc with
        | none => rw [hbd] at pc; exact pc.elim
        | some env' =>
          rw [hbd] at pc
          dsimp only at pc
          have p3 := PostS.rest e3.toS Kp.refl pc
          refine tg_sem hbd rx sim3 fun σ2 sim4 hσ => ?_
          have k2 : Kp B.P σc σ2 := fun j hj => hσ j fun z => by rw [hP j z] at hj; cases hj
          have p4 := PostS.rest ExtS.refl k2 p3
          refine ⟨g3, env', Sc, sim4, ?_⟩
          have e13 : ExtS g1 H1 g3 H' := ec.trans e3.toS
          have k13 : Kp B.P σ σ2 := kc.trans k2
          revert p4
          cases execs body' env' Sc with
          | bad => exact fun p => p
          | nx env2 S2 => exact fun p g' H'' σ' e s' kk => ⟨g', env2, S2, e13.trans e, s', k13.trans kk, PostS.rest e kk p⟩
          | ct env2 S2 => exact fun p g' H'' σ' e s' kk => ⟨g', env2, S2, e13.trans e, s', k13.trans kk, PostS.rest e kk p⟩
          | brk env2 S2 => exact fun p g' H'' σ' e s' kk => p g' H'' σ' e s' kk
          | ret w env2 S2 => exact fun p => p
          | exn c fs env2 S2 => exact fun p => p
    · have hie : i = items.length := by omega
      subst hie
      rw [List.drop_length] at pc
      unfold forGo at pc
      exact .inl ⟨jstop (Nat.le_refl _), pc.nx0 sc⟩
theorem ss_for (G : XG X T) (po : PassesOwn (model X.prog X.w) X.A X.env X.xe) {tgE iter : Expr} {body : List Stmt} {tg : Tg} {k : Src} {srcs : List E} {body' : List Wb.S} (hi : PI X tgE iter (tI T W' k srcs)) (hg : PG X tgE (gOf T.K tg)) (hb : PSs X body (tSs T W' B body'))
    (hP : ∀ j ∈ tg.ixs, B.P j = false) (hs : ∀ x, foldedSetIterable iter X.env x = pure x) : PS X (.For tgE iter body [] pos) (tS T W' B (.for_ tg k srcs body')) := by
  refine ps_imp (L2.ps_for po G.calm hi hg hb hs) fun D σ H ⟨g, env, S, s, p⟩ => ?_
  unfold exec at p
  exact ⟨g, env, S, s, p.out fun items S1 J g1 H1 _ e1 s1 r1 p1 => for_rest hP s1 r1 (PostS.keepX p1)⟩
theorem ss_whl (po : PassesOwn (model X.prog X.w) X.A X.env X.xe) {c : Expr} {body : List Stmt} {c' : E} {body' : List Wb.S} (hc : PT X c (tT T W' c')) (hb : PSs X body (tSs T W' B body')) : PS X (.While c body [] pos) (tS T W' B (.whl c' body')) := by
  refine ps_imp (L2.ps_while po hc hb) fun D σ H ⟨g, env, S, s, p⟩ => ?_
  unfold exec at p
  refine ⟨fun m σc Hc => ∃ gc envc Sc, Sim T gc Hc envc Sc σc ∧ Kp B.P σ σc ∧ PostS T W' B gc σc Hc (whlGo (fun env S => evt c' env S) (fun env S => execs body' env S) m envc Sc) D, ⟨fuel, g, env, S, s, Kp.refl, p⟩, ?_⟩
  rintro m σc Hc ⟨gc, envc, Sc, sc, kc, pc⟩
  cases m with
  | zero => exact pc.elim
  | succ m =>
    unfold whlGo at pc
    refine ⟨gc, envc, Sc, sc, pc.out fun t S1 x g1 H1 _ e1 s1 r1 p1 => ?_⟩
    cases r1
    cases t with
    | false =>
      rw [if_neg Bool.false_ne_true] at p1 ⊢
      exact p1.nx0 s1
    | true =>
      rw [if_pos rfl] at p1 ⊢
      refine ⟨fun σ' H' => ∃ gc envc Sc, Sim T gc H' envc Sc σ' ∧ Kp B.P σ σ' ∧ PostS T W' B gc σ' H' (whlGo (fun env S => evt c' env S) (fun env S => execs body' env S) m envc Sc) D, ?_, ?_⟩
      · rintro σ' H' ⟨gc, envc, Sc, h⟩
        exact ⟨m, by omega, gc, envc, Sc, h⟩
      · refine ⟨g1, envc, S1, s1, ?_⟩
        revert p1
        cases execs body' envc S1 with
        | bad => exact fun p => p
        | nx env2 S2 => exact fun p g' H'' σ' e s' kk => ⟨g', env2, S2, s', kc.trans kk, PostS.rest e kk p⟩
        | ct env2 S2 => exact fun p g' H'' σ' e s' kk => ⟨g', env2, S2, s', kc.trans kk, PostS.rest e kk p⟩
        | brk env2 S2 => exact fun p g' H'' σ' e s' kk => p g' H'' σ' e s' kk
        | ret w env2 S2 => exact fun p => p
        | exn c fs env2 S2 => exact fun p => p
theorem ss_asgT (G : XG X T) {tgE e : Expr} {e' : E} {is : List Nat} (hg : PG X tgE (gOf T.K (.many is))) (hP : ∀ j ∈ is, B.P j = false) (he : PE X e (tE T W' .V e')) (hs : swapsWithSole [tgE] e pos.line X.env = pure false) (hw : swappedStores [tgE] e X.env = pure none) (h1 : (assignEach [tgE] X.env).map (·.2) = [assign tgE X.env]) :
    PS X (.Assign [tgE] e pos) (tS T W' B (.asgT is e')) := by
  refine ps_imp (L2.ps_asg he hg hs hw h1) fun D σ H ⟨g, env, S, s, p⟩ => ?_
  unfold exec at p
  refine ⟨g, env, S, s, p.out fun w S1 v g1 H1 _ e1 s1 r1 p1 => ?_⟩
  cases hb : bindTg (.many is) w env with
  | none => rw [hb] at p1; exact p1.elim
  | some env' =>
    rw [hb] at p1
    exact tg_sem (tg := .many is) hb r1 s1 fun σ' s2 hσ => p1 g1 H1 σ' ExtS.refl s2 fun j hj => hσ j fun z => by rw [hP j z] at hj; cases hj
/-- never reached -/
theorem ss_never {st : Stmt} : PS X st (tS T W' B .never) := ps_imp L2.ps_never fun D σ H ⟨g, env, S, s, p⟩ => by
  unfold exec at p
  exact p.elim
def rIp : Bin → L2.TIp
  | .add => fun x y H Q => L2.rI0 (fun i j => .int (i + j)) x y H Q ∨ rStrAdd x y H Q
  | .sub => L2.rI0 fun i j => .int (i - j)
  | _ => fun _ _ _ _ => False
theorem ipOk {X : Cx} : ∀ o : Bin, L2.PIp X (opOf o) (rIp o)
  | .add => L2.OpR.or L2.iop_add L2.iop_add_str
  | .sub => L2.iop_sub
  | .mul => fun _ _ _ _ _ _ _ _ _ _ _ _ h => h.elim
  | .fdiv => fun _ _ _ _ _ _ _ _ _ _ _ _ h => h.elim
  | .mod => fun _ _ _ _ _ _ _ _ _ _ _ _ h => h.elim
def ipO : Bin → Bool
  | .add => true | .sub => true | _ => false
theorem ip_sem {o : Bin} {x y : V} {a b w : W} {Q : V → Hp → Prop} (ho : ipO o = true) (hx : RdX T g H x a) (hy : RdX T g H y b) (e : binW o a b = some (false, w)) (h : ∀ v, RepX T g H v w → Q v H) : rIp o x y H Q := by
  cases o with
  | add =>
    unfold binW at e
    split at e <;> first | (rename_i h0; cases h0; done) | skip
    · rename_i i j h1 _ _
      cases e
      exact .inl ⟨_, _, rdx_int hx, rdx_int hy, h _ repX_int⟩
    · rename_i h1 _ _
      obtain ⟨hz, e⟩ := if_some e
      cases e
      exact .inr ⟨_, _, rdx_str hx, rdx_str hy, by rw [← sizeL_eq]; exact hz, h _ repX_str⟩
    · obtain ⟨hz, e⟩ := if_some e
      cases e
    · cases e
  | sub =>
    unfold binW at e
    split at e <;> first | (rename_i h0; cases h0; done) | skip
    · cases e
      exact ⟨_, _, rdx_int hx, rdx_int hy, h _ repX_int⟩
    · cases e
  | _ => cases ho
theorem ss_aug (G : XG X T) {i : Nat} {x : Str} {p2 : Pos} {e : Expr} {e' : E} {o : Bin} (ho : ipO o = true) (hi : X.N[i]? = some x) (hx : Loc X.env.scope x) (hf : X.fn x = true ∨ X.env.scope.names.lookup x = some .local) (hP : B.P i = false) (he : PE X e (tE T W' .B e')) :
    PS X (.AugAssign (.Name x p2) (opOf o) e pos) (tS T W' B (.aug i o e')) := by
  refine ps_imp (L2.ps_aug G.nd hi hx he (ipOk o) hf) fun D σ H ⟨g, env, S, s, p⟩ => ?_
  unfold exec at p
  split at p
  · rename_i w hw
    obtain ⟨v, e1, r⟩ := s.slots i _ _ hw
    refine ⟨v, e1, g, env, S, s, p.out fun y S1 yv g1 H1 _ x1 s1 r1 p1 => ?_⟩
    split at p1
    · rename_i z hz
      exact ip_sem (T := T) (g := g1) ho (x1.stay.repX r).rdX r1 hz fun v' rv => p1 g1 H1 _ ExtS.refl (s1.put rv) (Kp.refl.set hP)
    · exact p1.elim
  · exact p.elim
theorem stay_nf {a : Addr} {o : HO} (l : g.L a ≠ .frz) : Stay g H g (upd H a o) := by
  have ne : ∀ b, g.L b = .frz → b ≠ a := fun b h z => l (by rw [← z]; exact h)
  refine ⟨fun b h _ => h, fun b u _ h r => ?_, fun b C dx fs h r => ?_, fun m h => ⟨rfl, h⟩⟩
  · unfold Rd; rw [upd_ne (ne b h)]; exact r
  · rw [upd_ne (ne b h)]; exact r
theorem Sim.chg (s : Sim T g H env S σ) {i : Nat} {a : Addr} {w' : W} {o : HO} (hl : g.L a = .slot i) (hn : H a ≠ none) (hσ : σ[i]? = some (some (.ref a))) (ow : Own T g (upd H a o) .o a w') : Sim T g (upd H a o) (env.put i (.o, w')) S σ ∧ ExtS g H g (upd H a o) := by
  have st : Stay g H g (upd H a o) := stay_nf (by rw [hl]; simp)
  refine ⟨⟨fun b hb => ?_, ?_, fun j fl u hj => ?_, fun n c hc => cell_stay st (fun b hb _ => ⟨rfl, upd_ne fun z => ?_⟩) (s.cells n c hc), s.fin⟩, fun b hb pp => ⟨rfl, upd_ne fun z => ?_⟩, fun m hm => st.cel m hm, fun b hb => ?_, fun b j _ h => ⟨j, h⟩⟩
  · by_cases e : b = a
    · rw [e, upd_same] at hb; cases hb
    · rw [upd_ne e] at hb; exact s.wf b hb
  · unfold Env.put; rw [List.length_set]; exact s.len
  · rcases at_put hj with ⟨rfl, e⟩ | ⟨e, hj⟩
    · cases e
      exact ⟨a, hσ, hl, ow⟩
    · have z := s.slots j fl u hj
      cases fl with
      | v => obtain ⟨x, q1, q2⟩ := z; exact ⟨x, q1, st.repX q2⟩
      | o => obtain ⟨b, q1, q2, q3⟩ := z; exact ⟨b, q1, q2, q3.stay st (upd_ne fun z => by rw [z, hl] at q2; cases q2; exact e rfl)⟩
      | k => obtain ⟨b, q1, q2, q3⟩ := z; exact ⟨b, q1, q2, q3.stay st (upd_ne fun z => by rw [z, hl] at q2; cases q2; exact e rfl)⟩
  · rw [z, hl] at hb; rcases hb with hb | ⟨f, hb⟩ <;> cases hb
  · rw [z, hl] at pp; rcases pp with pp | pp <;> cases pp
  · by_cases e : b = a
    · rw [e, upd_same]; simp
    · rw [upd_ne e]; exact hb
theorem few_one {e : Expr} {env : PySem.Env} (ok : okx e = true) : ((backTo pos (starEach [e] env)).all (fun x => !x.1) && (backToKw pos (keywordEach [] env)).all (fun x => x.1.isSome)
      && decide (([e] : List Expr).length + ([] : List Keyword).length + (if ([] : List Keyword).isEmpty then 0 else 1) < 30)) = true := by
  rw [star_cons ok []]; rfl
theorem ownL_slot {i : Nat} (h : ownL (.slot i) env S = true) : ∃ ws, env.at i = some (.o, .lst ws) := by
  have h' : (match env.at i with | some (.o, .lst _) => true | _ => false) = true := h
  split at h'
  · exact ⟨_, by assumption⟩
  · cases h'
theorem ownA_slot {i : Nat} (h : ownA (.slot i) env S = true) : ∃ w, env.at i = some (.o, w) := by
  have h' : (match env.at i with | some (.o, _) => true | _ => false) = true := h
  split at h'
  · exact ⟨_, by assumption⟩
  · cases h'
theorem chg_slot {i : Nat} {w : W} {f : W → Option W} (h : env.at i = some (.o, w)) : chg (.slot i) f env S = match f w with | some w' => .nx (env.put i (.o, w')) S | none => .bad := by
  show (match env.at i with | some (.o, w) => (match f w with | some w' => Out.nx (env.put i (.o, w')) S | none => .bad) | _ => .bad) = _
  rw [h]
/-- xs.append(e), xs a slot -/
theorem ss_app (G : XG X T) {i : Nat} {x : Str} {p2 ap cp : Pos} {e : Expr} {e' : E} (hi : X.N[i]? = some x) (hv : Vis X.env.scope x) (hd : (x == ("__debug__" : Str)) = false) (hcd : (x == ("__classdict__" : Str)) = false) (he : PE X e (tE T W' .V e')) (ok : okx e = true) (hl : (ap.endLine == cp.line) = true) :
    PS X (.Expr (.Call (.Attribute (.Name x p2) "append" ap) [e] [] cp) pos) (tS T W' B (.app (.slot i) e')) := by
  have z := L2.pe_bm (apos := ap) (cpos := cp) PySem.F.plainAttrs_list PySem.F.slot_list_append PySem.F.type_list_append L2.mt_append (L2.pe_var (pos := p2) hi hv hd hcd) (L2.pa_cons he L2.pa_nil (star_cons ok [])) (base_ok rfl _) (few_one ok) hl (star_cons ok []) (star_none rfl cp)
  refine ps_imp (L2.ps_expr z rfl) fun D σ H ⟨g, env, S, s, p⟩ => ?_
  unfold exec plc at p
  rw [R.out_ok] at p
  split at p
  · rename_i ho
    obtain ⟨ws, hw⟩ := ownL_slot ho
    obtain ⟨a, e1, l, xs, hxs, r⟩ := s.slots i _ _ hw
    refine ⟨.ref a, e1, .inl ⟨rfl, xs, .inl (.inl hxs)⟩, g, env, S, s, p.out (qa := quiet e') fun v S1 y g1 H1 _ x1 s1 r1 p1 => ?_⟩
    rw [chg_slot hw] at p1
    rw [show appW (.lst ws) v = if ws.length < sizeL then some (.lst (ws ++ [v])) else none from rfl] at p1
    by_cases hz : ws.length < sizeL
    · rw [if_pos hz] at p1
      obtain ⟨l1, h1⟩ := x1.keep a (by rw [hxs]; simp) (.inr (.inr (.inr ⟨i, l⟩)))
      refine ⟨a, xs, y, rfl, rfl, h1.trans hxs, by rw [r.length, ← sizeL_eq]; exact hz, ?_⟩
      have st : Stay g1 H1 g1 (upd H1 a (.lst (xs ++ [y]))) := stay_nf (by rw [l1, l]; simp)
      have z := s1.chg (l1.trans l) (by rw [h1, hxs]; simp) e1 (w' := .lst (ws ++ [v])) (o := .lst (xs ++ [y])) ⟨_, upd_same, paired_append (paired_imp r fun _ _ z => st.repX (x1.stay.repX z)) (.cons (st.repX r1) .nil)⟩
      exact p1 g1 _ σ z.2 z.1 Kp.refl
    · rw [if_neg hz] at p1
      exact p1.elim
  · exact p.elim
def rSetB : L2.TSet := fun o i v H Q => L2.rSetL o i v H Q ∨ L2.rSetD o i v H Q
theorem setB (hu : X.A.units + 1 < cLine) : L2.PSet X rSetB := by
  intro pins s σ H o i v ov iv u Q I ro ri rv h
  rcases h with h | h
  · exact L2.set_list pins s σ H o i v ov iv u Q I ro ri rv h
  · exact L2.set_dict hu pins s σ H o i v ov iv u Q I ro ri rv h
theorem put_paired {ks : List (Key × V)} {kvs : List (Key × W)} (r : Paired (fun (p : Key × V) (q : Key × W) => p.1 = q.1 ∧ RepX T g H p.2 q.2) ks kvs) {k : Key} {v : V} {w : W} (rv : RepX T g H v w) :
    Paired (fun (p : Key × V) (q : Key × W) => p.1 = q.1 ∧ RepX T g H p.2 q.2) (L2.putK ks k v) (putW kvs k w) := by
  have ha : (ks.any fun kv => decide (kv.1 = k)) = kvs.any fun kv => decide (kv.1 = k) := by
    induction r with
    | nil => rfl
    | cons z _ ih => rw [List.any_cons, List.any_cons, ih, z.1]
  unfold L2.putK putW
  rw [ha]
  by_cases hk : (kvs.any fun kv => decide (kv.1 = k)) = true
  · rw [if_pos hk, if_pos hk]
    clear ha hk
    induction r with
    | nil => exact .nil
    | @cons a b _ _ z _ ih =>
      refine .cons ?_ ih
      by_cases e : b.1 = k
      · show (if a.1 = k then (a.1, v) else a).1 = (if b.1 = k then (b.1, w) else b).1 ∧ RepX T g H (if a.1 = k then (a.1, v) else a).2 (if b.1 = k then (b.1, w) else b).2
        rw [if_pos e, if_pos (z.1.trans e)]
        exact ⟨z.1, rv⟩
      · show (if a.1 = k then (a.1, v) else a).1 = (if b.1 = k then (b.1, w) else b).1 ∧ RepX T g H (if a.1 = k then (a.1, v) else a).2 (if b.1 = k then (b.1, w) else b).2
        rw [if_neg e, if_neg (fun q => e (z.1.symm.trans q))]
        exact z
  · rw [if_neg hk, if_neg hk]
    exact paired_append r (.cons ⟨rfl, rv⟩ .nil)
/-- the change itself -/
theorem set_sem (s : Sim T g H env S σ) {i : Nat} {w w' kw v : W} {kx vx : V} (hw : env.at i = some (.o, w)) (e : setItW w kw v = some w') (rk : RepX T g H kx kw) (rv : RepX T g H vx v) {a : Addr} (ea : σ[i]? = some (some (.ref a))) {Q : Hp → Prop}
    (k : ∀ H', ExtS g H g H' → Sim T g H' (env.put i (.o, w')) S σ → Q H') : rSetB (.ref a) kx vx H Q := by
  obtain ⟨a', e1, l, o⟩ := s.slots i _ _ hw
  rw [ea] at e1
  cases e1
  unfold setItW at e
  split at e
  · rename_i ws
    obtain ⟨xs, hxs, r⟩ := o
    split at e
    · rename_i i'
      cases hj : L2.ixN ws.length i' with
      | none => rw [hj] at e; cases e
      | some j =>
        rw [hj] at e
        cases e
        refine .inl ⟨a, xs, i', j, rfl, int_inv rk, hxs, by rw [r.length]; exact hj, ?_⟩
        have st : Stay g H g (upd H a (.lst (xs.set j vx))) := stay_nf (by rw [l]; simp)
        have z := s.chg l (by rw [hxs]; simp) ea (w' := .lst (ws.set j v)) (o := .lst (xs.set j vx)) ⟨_, upd_same, paired_set (paired_imp r fun _ _ z => st.repX z) (st.repX rv) j⟩
        exact k _ z.2 z.1
    · cases e
  · rename_i kvs
    obtain ⟨xs, hxs, r⟩ := o
    rw [if_neg (by simp)] at hxs
    split at e
    · rename_i key hk
      obtain ⟨hz, e⟩ := if_some e
      cases e
      refine .inr ⟨a, _, rfl, .inl ⟨xs, key, hxs, key_rdx rk.rdX hk, by rw [r.length, ← sizeL_eq]; exact hz, rfl⟩, ?_⟩
      have st : Stay g H g (upd H a (.dK (L2.putK xs key vx))) := stay_nf (by rw [l]; simp)
      have z := s.chg l (by rw [hxs]; simp) ea (w' := .dct (putW kvs key v)) (o := .dK (L2.putK xs key vx)) ⟨_, by simp [upd_same], put_paired (paired_imp r fun _ _ z => ⟨z.1, st.repX z.2⟩) (st.repX rv)⟩
      exact k _ z.2 z.1
    · cases e
  · cases e
theorem ss_seti (G : XG X T) {i : Nat} {x : Str} {p2 sp : Pos} {k e : Expr} {k' e' : E} (hi : X.N[i]? = some x) (hv : Vis X.env.scope x) (hd : (x == ("__debug__" : Str)) = false) (hcd : (x == ("__classdict__" : Str)) = false) (he : PE X e (tE T W' .V e')) (hk : PE X k (tE T W' .V k')) (ok : okx k = true)
    (hs : swapsWithSole [.Subscript (.Name x p2) k sp] e pos.line X.env = pure false) (hw : swappedStores [.Subscript (.Name x p2) k sp] e X.env = pure none) : PS X (.Assign [.Subscript (.Name x p2) k sp] e pos) (tS T W' B (.seti (.slot i) k' e')) := by
  have z : PG X (.Subscript (.Name x p2) k sp) _ := L2.pg_sub (L2.pe_var (pos := p2) hi hv hd hcd) hk (setB (by have := G.hu; omega)) (by intro v; cases k <;> first | rfl | exact absurd ok Bool.false_ne_true)
  refine ps_imp (L2.ps_asg he z hs hw rfl) fun D σ H ⟨g, env, S, s, p⟩ => ?_
  unfold exec plc at p
  refine ⟨g, env, S, s, p.out fun v S1 vx g1 H1 _ x1 s1 r1 p1 => ?_⟩
  rw [R.out_ok] at p1
  split at p1
  · rename_i ho
    obtain ⟨w, hw⟩ := ownA_slot ho
    obtain ⟨a, e1, l, o⟩ := s1.slots i _ _ hw
    refine ⟨.ref a, e1, g1, env, S1, s1, p1.out (qa := quiet k') fun kw S2 kx g2 H2 _ x2 s2 r2 p2 => ?_⟩
    rw [chg_slot hw] at p2
    cases hq : setItW w kw v with
    | none => rw [hq] at p2; exact p2.elim
    | some w' =>
      rw [hq] at p2
      exact set_sem (T := T) s2 hw hq r2 (x2.stay.repX r1) e1 fun H' e' s' => p2 g2 H' σ e' s' Kp.refl
  · exact p1.elim
end
end Wb

namespace Wb
open PySem PySem.Spec PyProof.Rows
def padF (n : Nat) : Builtin.Float.FormatSpec := { fill := 48, align := 61, width := some n, type := some 100 }
theorem padF_eq (n : Nat) (i : Int) (h0 : 0 ≤ i) : intSpecText (padF n) i = padT n i := intSpecText_zero rfl rfl rfl rfl h0
theorem parse2 (name : String) : Builtin.Float.parseFormatSpec [48, 50, 100] name 62 = .ok (padF 2) := by rfl
theorem parse4 (name : String) : Builtin.Float.parseFormatSpec [48, 52, 100] name 62 = .ok (padF 4) := by rfl
theorem pad_log {a : Int} (h0 : 0 ≤ a) (h1 : a < 10000) : a.natAbs.log2 < 1920 := by
  have h : a.natAbs < 2 ^ 14 := by omega
  have := Nat.log2_lt (n := a.natAbs) (k := 14)
  by_cases z : a.natAbs = 0
  · rw [z]; decide
  · have := (Nat.log2_lt z).mpr h
    omega
theorem pad_len {n : Nat} (hn : n = 2 ∨ n = 4) {a : Int} (h0 : 0 ≤ a) (h1 : a < 10000) : (padT n a).length ≤ sizeLine := by
  have h := PySem.W.KXf.digits_le (a := a) h0 (by omega)
  rw [← padF_eq n a h0, intSpecText_length a rfl rfl, show (padF n).width.getD 0 = n from rfl, sizeLine_eq]
  split <;> omega
theorem ret_pad {M : Model} {A : Around} {E : Value → Shared → Prop} {s : Shared} {X T : Str} {Q : Fin → Shared → Prop} (e : X = T) (hL : T.length ≤ sizeLine) (h : ∀ t k, Q (.done (.ret (.str T t))) { s with toks := k }) : wpAny M A ((retStr X)) Q E s := by
  subst e
  exact PySem.W.KXf.ret_text rfl hL h
theorem pad_meets {n : Nat} (h : n = 2 ∨ n = 4) {a : Int} {t u : Tok} (h0 : 0 ≤ a) (h1 : a < 10000) : Meets (Builtin.«int.__format__» ⟨[.int a t, .str (padS n) u], []⟩) (fun _ R s => ∀ t' k, R (.ok (.ret (.str (padT n a) t'))) { s with toks := k }) := by
  have hl := pad_log h0 h1
  have hz : (padT n a).length ≤ sizeLine := pad_len h h0 h1
  have he := padF_eq n a h0
  unfold intSpecText at he
  apply PySem.W.KPc.meets_of
  intro prog w A s Q E hQ
  unfold Builtin.«int.__format__»
  rcases h with rfl | rfl
  · refine wpAny_bind (wpAny_of_eq (a := (_, _)) rfl ?_)
    refine wpAny_bind (wpAny_of_eq (a := _) rfl ?_)
    kxf_if
    refine wpAny_bind (wpAny_typeNameOf (T := "str") (typeIs_str _ _ _) (by decide) fun _ => ?_)
    refine wpAny_bind (wpAny_of_eq (a := some _) rfl ?_)
    kxf_if
    kxf_if
    refine wpAny_bind (wpAny_typeNameOfCut_int ?_)
    rw [show (padS 2).cps.toList = [48, 50, 100] from rfl, parse2]
    dsimp only
    repeat kxf_if
    refine wpAny_bind (wpAny_of_eq (PySem.overDigitLimit_small hl) ?_)
    repeat kxf_if
    refine ret_pad (Eq.trans ?_ he) hz hQ
    rfl
  · refine wpAny_bind (wpAny_of_eq (a := (_, _)) rfl ?_)
    refine wpAny_bind (wpAny_of_eq (a := _) rfl ?_)
    kxf_if
    refine wpAny_bind (wpAny_typeNameOf (T := "str") (typeIs_str _ _ _) (by decide) fun _ => ?_)
    refine wpAny_bind (wpAny_of_eq (a := some _) rfl ?_)
    kxf_if
    kxf_if
    refine wpAny_bind (wpAny_typeNameOfCut_int ?_)
    rw [show (padS 4).cps.toList = [48, 52, 100] from rfl, parse4]
    dsimp only
    repeat kxf_if
    refine wpAny_bind (wpAny_of_eq (PySem.overDigitLimit_small hl) ?_)
    repeat kxf_if
    refine ret_pad (Eq.trans ?_ he) hz hQ
    rfl
theorem field_pad {prog : Program} {w : World} {A : Around} {E : Value → Shared → Prop} {s : Shared} {n : Nat} (h : n = 2 ∨ n = 4) {a : Int} {t : Tok} (h0 : 0 ≤ a) (h1 : a < 10000) {Q : Value → Shared → Prop} (k : ∀ t' k, Q (.str (padT n a) t') { s with toks := k }) : wpAny (model prog w) A (formatField (.int a t) (padS n)) Q E s :=
  PySem.W.KXf.field_int rfl rfl (by rw [sizeLine_eq]; rcases h with rfl | rfl <;> decide) (fun u => pad_meets h h0 h1) k
section
variable {X : L2.Cx}
def tFmtW (n : Nat) (te : L2.TE) : L2.TE := fun σ H Q => te σ H fun x H1 => ∃ i : Int, x = .int i ∧ 0 ≤ i ∧ i < 10000 ∧ Q (.str (padT n i)) H1
theorem pe_fmtw {n : Nat} (hn : n = 2 ∨ n = 4) {e : Expr} {te : L2.TE} {pos p1 p2 : Pos} {k : Nat} {sp : Str} (hs : sp = padS n) (he : L2.PE X e te) : L2.PE X (.FormattedValue e (-1) (some (.JoinedStr [.Constant (.str sp) k p1] p2)) pos) (tFmtW n te) := by
  refine ⟨fun pins s σ H Q I h => ?_⟩
  refine wpAny_FormattedValue_spec (L2.thn (he.run pins s σ H _ I h) fun v s1 hv => ?_)
  obtain ⟨x, H1, I1, r1, i, rfl, h0, h1, q⟩ := hv
  obtain ⟨t, rfl⟩ := r1
  have hp : L2.PE X (.JoinedStr [.Constant (.str sp) k p1] p2) _ := L2.pe_joined1 L2.pe_str
  refine L2.thn (hp.run pins s1 σ H1 (fun y H2 => y = .str sp ∧ H2 = H1) I1 ⟨rfl, rfl⟩) fun r s2 hr => ?_
  obtain ⟨y, H2, I2, r2, rfl, rfl⟩ := hr
  obtain ⟨t2, rfl⟩ := r2
  refine ⟨sp, t2, rfl, ?_⟩
  subst hs
  exact field_pad hn h0 h1 fun t' k => ⟨.str (padT n i), H2, I2.tok _, ⟨_, rfl⟩, q⟩
end
section
variable {X : L2.Cx} {T : Tx} {W' : L2.WX} {c : Ctx}
theorem se_fmtw {n : Nat} (hn : n = 2 ∨ n = 4) {a : Expr} {a' : E} {pos p1 p2 : Pos} {k : Nat} {sp : Str} (hs : sp = padS n) (ha : L2.PE X a (tE T W' .B a')) : L2.PE X (.FormattedValue a (-1) (some (.JoinedStr [.Constant (.str sp) k p1] p2)) pos) (tE T W' c (.fmtw n a')) := by
  refine pe_imp (pe_fmtw hn hs ha) fun σ H Q ⟨g, env, S, s, p⟩ => ?_
  unfold ev at p
  refine ⟨g, env, S, s, Post.bind (qa := quiet a') (qb := true) bm_res (by simp [quiet]) p fun av S1 x g1 H1 _ e1 s1 r1 p1 => ?_⟩
  split at p1
  · obtain ⟨w, e, hc, p2⟩ := ofW_ok p1
    unfold padW at e
    split at e
    · rename_i i h
      cases e
      exact ⟨_, rdx_int r1, h.1, h.2, Post.val hc s1 repX_str p2⟩
    · cases e
  · exact p1.elim
end
end Wb

namespace Wb
open PySem PySem.Spec PyProof.Rows
open L2 (V Hp HO Rd upd upd_same upd_ne SqL SqT VK TE TT TA TS TG TI TO Ends WX XK R2 Cx Inv RelV Vals ne_of_none PE PT PA PS PSs PG PI OpR UnR CallR MtR Gl Vis Loc)
section
variable {X : Cx} {T : Tx} {W' : WX} {c : Ctx} {pos p : Pos}
theorem dcGo_cons {tg : Tg} {cond : Env → Store → R Bool} {ke ve : Env → Store → R W} {env : Env} {x : W} {xs : List W} {acc fin : List (Key × W)} {S S' : Store} (h : dcGo tg cond ke ve env (x :: xs) acc S = .ok fin S') :
    ∃ env', bindTg tg x env = some env' ∧ ∃ b S1, cond env' S = .ok b S1 ∧ ((b = false ∧ dcGo tg cond ke ve env xs acc S1 = .ok fin S') ∨ (b = true ∧ ∃ kw S2 w S3 k, ke env' S1 = .ok kw S2 ∧ ve env' S2 = .ok w S3 ∧ keyW kw = some k ∧ acc.length < sizeL ∧ dcGo tg cond ke ve env xs (putW acc k w) S3 = .ok fin S')) := by
  unfold dcGo at h
  cases h1 : bindTg tg x env with
  | none => rw [h1] at h; cases h
  | some env' =>
    rw [h1] at h
    refine ⟨env', rfl, ?_⟩
    dsimp only at h
    cases h2 : cond env' S with
    | bad => rw [h2] at h; cases h
    | exn _ _ _ => rw [h2] at h; cases h
    | ok b S1 =>
      rw [h2, R.bind_ok] at h
      refine ⟨b, S1, rfl, ?_⟩
      cases b with
      | false => exact .inl ⟨rfl, h⟩
      | true =>
        rw [if_pos rfl] at h
        cases h3 : ke env' S1 with
        | bad => rw [h3] at h; cases h
        | exn _ _ _ => rw [h3] at h; cases h
        | ok kw S2 =>
          rw [h3, R.bind_ok] at h
          cases h4 : ve env' S2 with
          | bad => rw [h4] at h; cases h
          | exn _ _ _ => rw [h4] at h; cases h
          | ok w S3 =>
            rw [h4, R.bind_ok] at h
            cases h5 : keyW kw with
            | none => rw [h5] at h; cases h
            | some k =>
              rw [h5] at h
              dsimp only at h
              split at h
              · rename_i hz
                exact .inr ⟨rfl, kw, S2, w, S3, k, by first | rfl | exact h3, by first | rfl | exact h4, by first | rfl | exact h5, hz, h⟩
              · cases h
theorem key_rep {T : Tx} {g : Gh} {H : Hp} {y : V} {kw : W} {k : Key} (r : RepX T g H y kw) (h : keyW kw = some k) : y = L2.kV k := by
  cases kw with
  | int i => cases h; exact int_inv r
  | str s => cases h; exact str_inv r
  | _ => cases h
def DcR (gt : TG) (tt : TT) (tk tv : TE) (vs : List Nat) (σ : L2.St) (Q : VK) (J : L2.It) (H1 : Hp) : Prop := L2.tDc (fun _ H R => R J H) gt tt tk tv vs σ H1 Q
theorem dc_rest {tg : Tg} {conds : List E} {ke ve : E} {own : List (Str × Nat)} (sub : ∀ j ∈ tg.ixs, j ∈ own.map (·.2)) {qq : Bool} (hq : qq = true → conds.isEmpty = true ∧ quiet ke = true ∧ quiet ve = true) {g1 : Gh} {H1 : Hp} {env : Env} {S1 : Store} {σ : L2.St} {J : L2.It} {items : List W} {Q : VK}
    (s1 : Sim T g1 H1 env S1 σ) (r1 : ItE T qq g1 H1 J items) (p1 : Post T W' qq (Res T c) g1 env σ H1 (noExn ((dcGo tg (fun env' S' => evc conds env' S') (fun env' S' => ev .V ke env' S') (fun env' S' => ev .V ve env' S') (wipeE env (own.map (·.2))) items [] S1).bind fun ws S' => .ok (.dct ws) S')) Q) :
    DcR (gOf T.K tg) (tC T conds) (tE T WF .V ke) (tE T WF .V ve) (own.map (·.2)) σ Q J H1 := by
  intro D hD
  -- the end
  generalize hvs : own.map (·.2) = vs at *
  cases hR : noExn ((dcGo tg (fun env' S' => evc conds env' S') (fun env' S' => ev .V ke env' S') (fun env' S' => ev .V ve env' S') (wipeE env vs) items [] S1).bind fun ws S' => .ok (W.dct ws) S') with
  | bad => rw [hR] at p1; exact p1.elim
  | exn _ _ _ =>
    exfalso
    generalize (dcGo tg (fun env' S' => evc conds env' S') (fun env' S' => ev .V ke env' S') (fun env' S' => ev .V ve env' S') (wipeE env vs) items [] S1).bind (fun ws S' => R.ok (W.dct ws) S') = rr at hR
    cases rr <;> cases hR
  | ok wl Sf =>
    rw [hR] at p1
    have hR' := noExn_ok hR
    cases hL : dcGo tg (fun env' S' => evc conds env' S') (fun env' S' => ev .V ke env' S') (fun env' S' => ev .V ve env' S') (wipeE env vs) items [] S1 with
    | bad => rw [hL] at hR'; cases hR'
    | exn _ _ _ => rw [hL] at hR'; cases hR'
    | ok fin Sf' =>
      rw [hL, R.bind_ok] at hR'
      cases hR'
      have xD := ext_new (o := .dK []) (l := .out) hD (s1.wf D hD)
      refine ⟨fun i m Hc => ∃ gc Sc acc ws, m = items.length - i ∧ i ≤ items.length ∧ Ext qq g1 H1 gc Hc ∧ Stay g1 H1 gc Hc ∧ Sim T gc Hc env Sc σ ∧ gc.L D = .out ∧ Hc D = some (.dK acc) ∧ Paired (fun (p : Key × V) (q : Key × W) => p.1 = q.1 ∧ RepX T gc Hc p.2 q.2) acc ws ∧
        dcGo tg (fun env' S' => evc conds env' S') (fun env' S' => ev .V ke env' S') (fun env' S' => ev .V ve env' S') (wipeE env vs) (items.drop i) ws Sc = .ok fin Sf, ?_, ?_⟩
      · exact ⟨items.length, g1.lab D .out, S1, [], [], by simp, Nat.zero_le _, xD.weak (by simp), xD.stay, s1.new .out hD, lab_same, upd_same, .nil, hL⟩
      · rintro i m Hc ⟨gc, Sc, acc, ws, rfl, hi, ec, sc, simc, lD, hDc, ra, hgo⟩
        obtain ⟨jstop, jgo⟩ := r1 gc Hc ec i
        by_cases hlt : i < items.length
        · have hx := List.getElem?_eq_getElem hlt
          rw [List.drop_eq_getElem_cons hlt] at hgo
          obtain ⟨env', hb, b, S2, hcnd, hrest⟩ := dcGo_cons hgo
          obtain ⟨jg, jy⟩ := jgo _ hx
          refine .inr ⟨jg, fun H' => ∃ gc Sc acc ws, Ext qq g1 H1 gc H' ∧ Stay g1 H1 gc H' ∧ Sim T gc H' env Sc σ ∧ gc.L D = .out ∧ H' D = some (.dK acc) ∧ Paired (fun (p : Key × V) (q : Key × W) => p.1 = q.1 ∧ RepX T gc H' p.2 q.2) acc ws ∧
            dcGo tg (fun env' S' => evc conds env' S') (fun env' S' => ev .V ke env' S') (fun env' S' => ev .V ve env' S') (wipeE env vs) (items.drop (i + 1)) ws Sc = .ok fin Sf, ?_, ?_⟩
          · rintro H' ⟨gc, Sc, acc, ws, h⟩
            exact ⟨items.length - (i + 1), by omega, gc, Sc, acc, ws, rfl, hlt, h⟩
          · intro x H' hy
            obtain ⟨g3, e3, sim3, rx⟩ := (jy x H' hy).sim simc
            have hD3 := e3.keep D (by rw [hDc]; simp) (.inl rfl)
            have ec3 : Ext qq g1 H1 g3 H' := ec.trans (e3.weak (by simp))
            refine tg_sem hb rx (sim3.wipe vs) fun σ2 sim4 hσ => ?_
            have hw : L2.wipe σ2 vs = L2.wipe σ vs := by
              refine wipe_ext ?_ fun j hj => hσ j fun z => hj (sub j z)
              have l1 := sim4.len
              have l2 := (sim3.wipe vs).len
              rw [L2.wipe_length] at l2
              have l3 := bindTg_len hb
              omega
            refine ⟨hw, g3, env', Sc, sim4, Post.mk hcnd fun b' g5 H5 e5 sim5 hb' => ?_⟩
            cases hb'
            have sim5o : Sim T g5 H5 env S2 σ := sim3.move (e5.weak (by simp)) sim5.c
            have ec5 := ec3.trans (e5.weak (q' := qq) fun z => (hq z).1)
            have hD5 := e5.keep D (by rw [hD3.2, hDc]; simp) (.inr (.inl (hD3.1.trans lD)))
            have ra5 := paired_imp ra fun _ _ z => And.intro z.1 (e5.stay.repX (e3.stay.repX z.2))
            rcases hrest with ⟨rfl, hrest⟩ | ⟨rfl, kw, S3, w, S4, kk, hke, hve, hkk, hz, hrest⟩
            · rw [if_neg Bool.false_ne_true]
              exact ⟨g5, S2, acc, ws, ec5, ec5.stay, sim5o, hD5.1.trans (hD3.1.trans lD), hD5.2.trans (hD3.2.trans hDc), ra5, hrest⟩
            · rw [if_pos rfl]
              refine ⟨g5, env', S2, sim5, Post.mk hke fun y g6 H6 e6 sim6 ry => ?_⟩
              have e6' : Ext qq g5 H5 g6 H6 := e6.weak fun z => (hq z).2.1
              have e6f : Ext false g5 H5 g6 H6 := e6.weak (by simp)
              have sim6o : Sim T g6 H6 env S3 σ := sim5o.move e6f sim6.c
              have hD6 := e6f.keep D (by rw [hD5.2, hD3.2, hDc]; simp) (.inr (.inl (hD5.1.trans (hD3.1.trans lD))))
              refine ⟨g6, env', S3, sim6, Post.mk hve fun z g7 H7 e7 sim7 rz => ?_⟩
              have e7' : Ext qq g6 H6 g7 H7 := e7.weak fun z => (hq z).2.2
              have e7f : Ext false g6 H6 g7 H7 := e7.weak (by simp)
              have sim7o : Sim T g7 H7 env S4 σ := sim6o.move e7f sim7.c
              have hD7 := e7f.keep D (by rw [hD6.2, hD5.2, hD3.2, hDc]; simp) (.inr (.inl (hD6.1.trans (hD5.1.trans (hD3.1.trans lD)))))
              have l7 : g7.L D = .out := hD7.1.trans (hD6.1.trans (hD5.1.trans (hD3.1.trans lD)))
              have ek : y = L2.kV kk := key_rep (ry : RepX T g6 H6 y kw) hkk
              refine ⟨acc, kk, ek, hD7.2.trans (hD6.2.trans (hD5.2.trans (hD3.2.trans hDc))), by rw [ra.length, ← sizeL_eq]; exact hz, ?_⟩
              have st7 : Stay g7 H7 g7 (upd H7 D (.dK (L2.putK acc kk z))) := stay_out l7
              have e8 : Ext qq g1 H1 g7 (upd H7 D (.dK (L2.putK acc kk z))) := by
                have ec7 := (ec5.trans e6').trans e7'
                refine ⟨fun a n pp => ?_, ec7.cel, fun a n => ?_, ec7.slot⟩
                · obtain ⟨k1, k2⟩ := ec7.keep a n pp
                  exact ⟨k1, (upd_ne fun z => n (by rw [z]; exact hD)).trans k2⟩
                · rw [upd_ne fun z => n (by rw [z]; exact hD)]; exact ec7.some a n
              exact ⟨g7, S4, L2.putK acc kk z, putW ws kk w, e8, e8.stay, sim7o.out l7, l7, upd_same, put_paired (paired_imp ra5 fun _ _ z => ⟨z.1, st7.repX (e7.stay.repX (e6.stay.repX z.2))⟩) (st7.repX rz), hrest⟩
        · have hie : i = items.length := by omega
          subst hie
          rw [List.drop_length] at hgo
          unfold dcGo at hgo
          cases hgo
          refine .inl ⟨jstop (Nat.le_refl _), ?_⟩
          exact res_fresh (w := .dct fin) hD ec simc lD ⟨acc, by simpa using hDc, ra⟩ p1
theorem dc_sem {tg : Tg} {k : Src} {srcs conds : List E} {ke ve : E} {own : List (Str × Nat)} (sub : ∀ j ∈ tg.ixs, j ∈ own.map (·.2)) : ∀ (σ : L2.St) (H : Hp) (Q : VK), tE T W' c (.dc tg k srcs conds ke ve own) σ H Q → L2.tDc (tI T W' k srcs) (gOf T.K tg) (tC T conds) (tE T WF .V ke) (tE T WF .V ve) (own.map (·.2)) σ H Q := by
  intro σ H Q ⟨g, env, S, s, p⟩
  unfold ev at p
  exact ⟨g, env, S, s, Post.bind (qa := quiets srcs) (qb := false) bm_res (by simp [quiet]) p fun items S1 J g1 H1 _ e1 s1 r1 p1 => dc_rest (qq := false) sub (by simp) s1 r1.e p1⟩
theorem se_dc (G : XG X T) {kx vx tgE iter : Expr} {ifs : List Expr} {scope : Scope} {own : List (Str × Nat)} {tg : Tg} {k : Src} {srcs conds : List E} {ke ve : E} (hi : PI X tgE iter (tI T W' k srcs)) (ok : L2.BlkOk X.N X.env.scope scope own) (sub : ∀ j ∈ tg.ixs, j ∈ own.map (·.2))
    (hg : ∀ (s : Shared) (H : Hp) (C : Addr) (cl : List (Str × Addr)) (fp : List Addr), PG (X.blk s H scope (compEnvC scope cl C X.env) fp) tgE (gOf T.K tg))
    (ht : ∀ (s : Shared) (H : Hp) (C : Addr) (cl : List (Str × Addr)) (fp : List Addr), L2.PTs (X.blk s H scope (compEnvC scope cl C X.env) fp) ifs (tC T conds))
    (hk : ∀ (s : Shared) (H : Hp) (C : Addr) (cl : List (Str × Addr)) (fp : List Addr), PE (X.blk s H scope (compEnvC scope cl C X.env) fp) kx (tE T WF .V ke))
    (he : ∀ (s : Shared) (H : Hp) (C : Addr) (cl : List (Str × Addr)) (fp : List Addr), PE (X.blk s H scope (compEnvC scope cl C X.env) fp) vx (tE T WF .V ve))
    (hs : ∀ x, foldedSetIterable iter X.env x = pure x) : PE X (.DictComp kx vx [⟨tgE, iter, ifs, 0⟩] scope pos) (tE T W' c (.dc tg k srcs conds ke ve own)) :=
  pe_imp (L2.pe_dc G.calm G.nd hi ok hg ht hk he hs) fun σ H Q z => dc_sem sub σ H Q z
end
end Wb

namespace Wb
open PySem PySem.Spec PyProof.Rows
open L2 (V Hp HO Rd upd upd_same upd_ne SqL SqT VK TE TT TA TS TG TI TO Ends WX XK R2 Cx Inv RelV Vals ne_of_none PE PT PA PS PSs PG PI OpR UnR CallR MtR Gl Vis Loc)
theorem remS_at {x : Str} : ∀ {ss r : List Str}, remS x ss = some r → ∃ j, ss[j]? = some x ∧ (∀ m : Nat, m < j → ss[m]? ≠ some x) ∧ r = ss.eraseIdx j
  | [], r, h => by cases h
  | y :: ss, r, h => by
    unfold remS at h
    by_cases e : y = x
    · rw [if_pos e] at h
      cases h
      exact ⟨0, by rw [e]; rfl, fun m hm => absurd hm (Nat.not_lt_zero m), rfl⟩
    · rw [if_neg e] at h
      cases q : remS x ss with
      | none => rw [q] at h; cases h
      | some r' =>
        rw [q] at h
        cases h
        obtain ⟨j, h1, h2, h3⟩ := remS_at q
        refine ⟨j + 1, h1, fun m hm => ?_, by rw [h3]; rfl⟩
        cases m with
        | zero => exact fun z => e (by cases z; rfl)
        | succ m => exact h2 m (by omega)
theorem map_erase {α β : Type} (f : α → β) : ∀ (l : List α) (j : Nat), (l.map f).eraseIdx j = (l.eraseIdx j).map f
  | [], _ => rfl
  | _ :: _, 0 => rfl
  | a :: l, j + 1 => by
    show f a :: (l.map f).eraseIdx j = f a :: (l.eraseIdx j).map f
    rw [map_erase f l j]
theorem paired_strs {F : V → W → Prop} (hF : ∀ s, F (.str s) (.str s)) : ∀ ss : List Str, Paired F (ss.map V.str) (ss.map W.str)
  | [] => .nil
  | s :: ss => .cons (hF s) (paired_strs hF ss)
section
variable {X : Cx} {T : Tx} {W' : WX} {B : Bd} {pos : Pos} {g : Gh} {env : Env} {S : Store} {σ : List (Option V)} {H : Hp}
/-- xs.remove(e), xs a slot of texts -/
theorem ss_rem (G : XG X T) {i : Nat} {x : Str} {p2 ap cp : Pos} {e : Expr} {e' : E} (hi : X.N[i]? = some x) (hv : Vis X.env.scope x) (hd : (x == ("__debug__" : Str)) = false) (hcd : (x == ("__classdict__" : Str)) = false) (he : PE X e (tE T W' .V e')) (ok : okx e = true) (hl : (ap.endLine == cp.line) = true) :
    PS X (.Expr (.Call (.Attribute (.Name x p2) "remove" ap) [e] [] cp) pos) (tS T W' B (.rem (.slot i) e')) := by
  have z := L2.pe_bm (apos := ap) (cpos := cp) PySem.F.plainAttrs_list PySem.F.slot_list_remove PySem.F.type_list_remove mt_removeS (L2.pe_var (pos := p2) hi hv hd hcd) (L2.pa_cons he L2.pa_nil (star_cons ok [])) (base_ok rfl _) (few_one ok) hl (star_cons ok []) (star_none rfl cp)
  refine ps_imp (L2.ps_expr z rfl) fun D σ H ⟨g, env, S, s, p⟩ => ?_
  unfold exec plc at p
  rw [R.out_ok] at p
  split at p
  · rename_i ho
    obtain ⟨ws, hw⟩ := ownL_slot ho
    obtain ⟨a, e1, l, xs, hxs, r⟩ := s.slots i _ _ hw
    refine ⟨.ref a, e1, .inl ⟨rfl, xs, .inl (.inl hxs)⟩, g, env, S, s, p.out (qa := quiet e') fun v S1 y g1 H1 _ x1 s1 r1 p1 => ?_⟩
    rw [chg_slot hw] at p1
    cases hr : remW (.lst ws) v with
    | none => rw [hr] at p1; exact p1.elim
    | some w' =>
      rw [hr] at p1
      unfold remW at hr
      split at hr
      · rename_i wws zs e1' e2'
        cases e1'
        split at hr
        · rename_i ss hss
          cases hq : remS zs ss with
          | none => rw [hq] at hr; cases hr
          | some rr =>
            rw [hq] at hr
            cases hr
            obtain ⟨j, j1, j2, j3⟩ := remS_at hq
            obtain ⟨l1, h1⟩ := x1.keep a (by rw [hxs]; simp) (.inr (.inr (.inr ⟨i, l⟩)))
            have ex := strsW_paired (fun _ _ => str_inv) r hss
            have ey := str_inv r1
            subst ex
            subst ey
            refine ⟨a, ss, zs, j, rfl, rfl, h1.trans hxs, j1, j2, ?_⟩
            have st : Stay g1 H1 g1 (upd H1 a (.lst ((ss.map V.str).eraseIdx j))) := stay_nf (by rw [l1, l]; simp)
            have z := s1.chg (l1.trans l) (by rw [h1, hxs]; simp) e1 (w' := .lst (rr.map .str)) (o := .lst ((ss.map V.str).eraseIdx j)) ⟨_, upd_same, by
              rw [j3, map_erase]
              exact paired_strs (fun s => repX_str) _⟩
            exact p1 g1 _ σ z.2 z.1 Kp.refl
        · cases hr
      · cases hr
  · exact p.elim
end
end Wb

namespace Wb
open PySem PySem.Spec PyProof.Rows
open L2 (V Hp HO Rd upd upd_same upd_ne SqL SqT VK TE TT TA TS TG TI TO Ends WX XK R2 Cx Inv RelV Vals ne_of_none PE PT PA PS PSs PG PI OpR UnR CallR MtR Gl Vis Loc)
theorem star_all {env : PySem.Env} {es : List Expr} (h : okxs es = true) (pos : Pos) : (backTo pos (starEach es env)).all (fun x => !x.1) = true := by
  have z := star_none (env := env) h pos
  rw [List.any_eq_false] at z
  rw [List.all_eq_true]
  intro x hx
  have := z x hx
  simpa using this
theorem mcallN {env : PySem.Env} {o : Expr} {name : Str} {args : List Expr} {ap cp : Pos} (ho : okx o = true) (oks : okxs args = true) (hn : args.length < 29) (hl : (ap.endLine == cp.line) = true) :
    eval (.Call (.Attribute o name ap) args [] cp) env = (do
      let ov ← eval o env
      standAt ap.atName
      let (f, first) ← holding [ov] (getMethod ov name (do return (← importBound o env).getD true))
      callWith cp f first (backTo cp (starEach args env)) (backToKw cp (keywordEach [] env))) := by
  have hf : methodCallForm (args.length + ([] : List Keyword).length) (backTo cp (starEach args env)) (backToKw cp (keywordEach [] env)) = true := by
    unfold methodCallForm
    rw [star_all oks]
    show (true && true && decide (args.length + 0 + 0 < 30)) = true
    simp
    omega
  have hp : methodCallPos true o env ap cp = pure cp := by
    unfold methodCallPos
    rw [hl]
    rfl
  rw [arm_eval_Call, base_ok ho]
  unfold methodCall
  show (do
      let ov ← eval o env
      standAt ap.atName
      let (f, first) ← holding [ov] (calleeOf (methodCallForm (args.length + ([] : List Keyword).length) (backTo cp (starEach args env)) (backToKw cp (keywordEach [] env))) o env ov name)
      let callPos ← methodCallPos (methodCallForm (args.length + ([] : List Keyword).length) (backTo cp (starEach args env)) (backToKw cp (keywordEach [] env))) o env ap cp
      callWith callPos f first (backTo cp (starEach args env)) (backToKw cp (keywordEach [] env))) = _
  rw [hf, hp]
  rfl
theorem lookup_paired {α : Type} {F : Str → V → α → Prop} {f : Str} {y : α} : ∀ {gs : List (Str × V)} {fs : List (Str × α)}, Paired (fun (p : Str × V) (q : Str × α) => p.1 = q.1 ∧ F p.1 p.2 q.2) gs fs → fs.lookup f = some y → ∃ v, gs.lookup f = some v ∧ F f v y := by
  intro gs fs h
  induction h with
  | nil => intro e; cases e
  | @cons p q gs fs r _ ih =>
    intro e
    obtain ⟨pf, pv⟩ := p
    obtain ⟨qf, qw⟩ := q
    obtain ⟨e1, r⟩ := r
    dsimp only at e1 r
    subst e1
    rw [L2.lookup_put]
    by_cases hf : f = pf
    · subst hf
      simp [List.lookup] at e
      subst e
      exact ⟨pv, if_pos rfl, r⟩
    · have hb : (f == pf) = false := by simpa using hf
      simp [List.lookup, hb] at e
      rw [if_neg hf]
      exact ih e
theorem lookup_mem {α : Type} {f : Str} {y : α} : ∀ {fs : List (Str × α)}, fs.lookup f = some y → f ∈ fs.map (·.1)
  | [], e => by cases e
  | (g, z) :: fs, e => by
    by_cases hf : f = g
    · rw [hf]; exact List.mem_cons_self ..
    · have hb : (f == g) = false := by simpa using hf
      simp [List.lookup, hb] at e
      exact List.mem_cons_of_mem _ (lookup_mem e)
section
variable {X : Cx} {T : Tx} {W' : WX} {c : Ctx} {pos p ap : Pos} {g g' : Gh} {env : Env} {S : Store} {σ : L2.St} {H H' : Hp}
/-- the object that a value is -/
theorem obj_at (s : Sim T g H env S σ) {x : V} {w : W} {cl : Str} (r : RdX T g H x w) (h : clsOf w S = some cl) : ∃ a dx gs names, x = .ref a ∧ H a = some (.ins (T.ca cl) dx gs) ∧ InsK T cl names ∧ gs.map (·.1) = names := by
  have mp : ∀ {α : Type} {F : Str → V → α → Prop} {gs : List (Str × V)} {fs : List (Str × α)}, Paired (fun (p : Str × V) (q : Str × α) => p.1 = q.1 ∧ F p.1 p.2 q.2) gs fs → gs.map (·.1) = fs.map (·.1) := by
    intro α F gs fs h
    induction h with
    | nil => rfl
    | cons r _ ih => rw [List.map_cons, List.map_cons, ih, r.1]
  cases w with
  | ins c fs =>
    cases h
    obtain ⟨a, dx, gs, e, hx, rr⟩ := rdx_ins r
    exact ⟨a, dx, gs, _, e, hx.1, hx.2, mp (F := fun _ v w => RepX T g H v w) rr⟩
  | ref n =>
    obtain ⟨e, l⟩ := rdx_ref r
    have h' : (S[n]?.map (·.cls)) = some cl := h
    cases hs : S[n]? with
    | none => rw [hs] at h'; cases h'
    | some cc =>
      rw [hs] at h'
      cases h'
      obtain ⟨_, dx, gs, hx, rr⟩ := s.cells n cc hs
      exact ⟨_, dx, gs, _, e, hx.1, hx.2, mp (F := fun f v (q : Flag × W) => FldOk T g H n f v q.1 q.2) rr⟩
  | _ => cases h
theorem se_attr (G : XG X T) {e : Expr} {e' : E} {f : Str} (he : PE X e (tE T W' .B e')) (ok : okx e = true) : PE X (.Attribute e f pos) (tE T W' c (.attr e' f)) := by
  refine pe_imp (L2.pe_fld he (base_ok ok f)) fun σ H Q ⟨g, env, S, s, p⟩ => ?_
  unfold ev at p
  refine ⟨g, env, S, s, Post.bind (qa := quiet e') (qb := true) bm_res (by simp [quiet]) p fun av S1 x g1 H1 _ e1 s1 r1 p1 => ?_⟩
  rw [G.eK]
  cases av with
  | ins cl fs =>
    obtain ⟨w, hw, hc, p2⟩ := ofW_ok (show Post T W' true (Res T c) g1 env σ H1 (ofW c (fs.lookup f) S1) Q from p1)
    obtain ⟨a, dx, gs, ex, hx, rr⟩ := rdx_ins r1
    obtain ⟨v, hv, rv⟩ := lookup_paired (F := fun _ v w => RepX T g1 H1 v w) rr hw
    exact ⟨a, _, dx, gs, v, ex, hx.1, hx.2.cls, hx.2.na f (lookup_mem hw), hv, Post.val hc s1 rv p2⟩
  | ref n =>
    obtain ⟨ex, l⟩ := rdx_ref r1
    unfold attrW at p1
    dsimp only at p1
    cases hs : S1[n]? with
    | none => rw [hs] at p1; exact p1.elim
    | some cl =>
      rw [hs] at p1
      dsimp only at p1
      obtain ⟨_, dx, gs, hx, rr⟩ := s1.cells n cl hs
      cases hf : cl.fs.lookup f with
      | none => rw [hf] at p1; exact p1.elim
      | some fw =>
        rw [hf] at p1
        obtain ⟨fl, w⟩ := fw
        obtain ⟨v, hv, rv⟩ := lookup_paired (F := fun f v (q : Flag × W) => FldOk T g1 H1 n f v q.1 q.2) rr hf
        refine ⟨_, _, dx, gs, v, ex, hx.1, hx.2.cls, hx.2.na f (lookup_mem hf), hv, ?_⟩
        cases fl with
        | v =>
          obtain ⟨w2, hw, hc, p2⟩ := ofW_ok (show Post T W' true (Res T c) g1 env σ H1 (ofW c (some w) S1) Q from p1)
          cases hw
          exact Post.val hc s1 rv p2
        | o =>
          dsimp only at p1
          by_cases hc : c = .B
          · rw [if_pos hc] at p1
            subst hc
            obtain ⟨b, eb, lb, ob⟩ := rv
            exact p1 v g1 H1 Ext.refl s1 (.inr ⟨b, .o, eb, ob⟩)
          · rw [if_neg hc] at p1; exact p1.elim
        | k =>
          dsimp only at p1
          by_cases hc : c = .B
          · rw [if_pos hc] at p1
            subst hc
            obtain ⟨b, eb, lb, ob⟩ := rv
            exact p1 v g1 H1 Ext.refl s1 (.inr ⟨b, .k, eb, ob⟩)
          · rw [if_neg hc] at p1; exact p1.elim
  | _ => exact p1.elim
def MthK (T : Tx) (f : Fn) : Prop := ∃ cl a fd ps, f.cls = some cl ∧ L2.Cls T.K (T.ca cl) ∧ L2.Meth T.K (T.ca cl) f.nm a ∧ FOK T f a fd ps
theorem meth_free {cl m : Str} {names : List Str} {a : Addr} (k : InsK T cl names) (h : L2.Meth T.K (T.ca cl) m a) : m ∉ names := fun hm => by
  have q := k.na m hm
  have z := h.at_
  unfold L2.NoAttr at q
  rw [q] at z
  cases z
theorem lookup_not {gs : List (Str × V)} {f : Str} (h : f ∉ gs.map (·.1)) : gs.lookup f = none := by
  cases q : gs.lookup f with
  | none => rfl
  | some v => exact absurd (lookup_mem q) h
theorem se_pmeth (G : XG X T) (tk : L2.Takes X W') {f : Fn} {o e : Expr} {o' : E} {es : List Expr} {es' : List E} {n : Nat} (M : MthK T f) (hr : L2.Room n X.A) (hn : f.lvl ≤ n) (ho : PE X o (tE T W' .V o')) (oko : okx o = true) (hlen : (e :: es).length < 29) (hl : (ap.endLine == pos.line) = true)
    (he : PA X (e :: es) (tA T W' .V es')) (ok : okx e = true) (oks : okxs es = true) (hln : es'.length + 1 = f.own.length) :
    PE X (.Call (.Attribute o f.nm ap) (e :: es) [] pos) (tE T W' c (.pmeth f o' es')) := by
  obtain ⟨cl, a, fd, ps, hcl, hC, hM, F⟩ := M
  obtain ⟨ds, dvs, hb, hv, rv⟩ := F.dv 0 (Nat.zero_le _)
  rw [← G.eK] at hb hC hM
  have z := L2.pe_methSD (pos := pos) (E := L2.WE W') ho hC hM (f_ok G F) (hr.mono hn) hb hv (L2.passAt tk) he (star_cons ok es) (star_none oks pos) (mcallN oko (by unfold okxs at oks ⊢; simp [ok, oks]) hlen hl)
  refine pe_imp z fun σ H Q ⟨g, env, S, s, p⟩ => ?_
  unfold ev at p
  refine ⟨g, env, S, s, Post.bind (qa := quiet o') (qb := quiets es') bm_res (by simp [quiet]) p fun ow S1 x g1 H1 eo e1 s1 r1 p1 => ?_⟩
  split at p1
  · rename_i hcs
    have hcs1 : clsOf ow S1 = some cl := hcs.1.trans hcl
    obtain ⟨ad, dx, gs, names, ex, hx, hk1, hnm⟩ := obj_at s1 (show RepX T g1 H1 x ow from r1).rdX hcs1
    refine ⟨ad, dx, gs, ex, hx, lookup_not (by rw [hnm]; rw [G.eK] at hM; exact meth_free hk1 hM), g1, env, S1, s1, Post.bind (qa := quiets es') (qb := true) bm_res (by simp) p1 fun av S2 xs g2 H2 ea e2 s2 r2 p2 => ?_⟩
    have r := resA_V r2
    split at p2
    · exact p2.elim
    · rename_i hc
      obtain ⟨c1, c2⟩ := not_or.mp hc
      obtain ⟨c2, c3⟩ := not_or.mp c2
      split at p2
      · rename_i hp
        refine spf_pure (vs := x :: (xs ++ dvs)) (ws := ow :: (av ++ f.dv 0)) hp c1 (by simpa using c2) s2 (.cons (e2.stay.repX r1) (paired_append r (paired_imp rv fun _ _ z => z g2 H2))) ?_ (by simpa using c3) p2
        rw [List.length_cons, List.length_append, evs_len ea, dv_len (Nat.zero_le _)]
        omega
      · exact p2.elim
  · exact p1.elim
theorem se_pmeth0 (G : XG X T) (tk : L2.Takes X W') {f : Fn} {o : Expr} {o' : E} {n : Nat} (M : MthK T f) (hr : L2.Room n X.A) (hn : f.lvl ≤ n) (ho : PE X o (tE T W' .V o')) (oko : okx o = true) (hl : (ap.endLine == pos.line) = true) (hln : 1 = f.own.length) :
    PE X (.Call (.Attribute o f.nm ap) [] [] pos) (tE T W' c (.pmeth f o' [])) := by
  obtain ⟨cl, a, fd, ps, hcl, hC, hM, F⟩ := M
  obtain ⟨ds, dvs, hb, hv, rv⟩ := F.dv 0 (Nat.zero_le _)
  rw [← G.eK] at hb hC hM
  have z := L2.pe_methSD0 (pos := pos) (E := L2.WE W') ho hC hM (f_ok G F) (hr.mono hn) hb hv (L2.passAt tk) (mcallN oko rfl (by decide) hl)
  refine pe_imp z fun σ H Q ⟨g, env, S, s, p⟩ => ?_
  unfold ev at p
  refine ⟨g, env, S, s, Post.bind (qa := quiet o') (qb := true) bm_res (by simp [quiet, quiets]) p fun ow S1 x g1 H1 eo e1 s1 r1 p1 => ?_⟩
  split at p1
  · rename_i hcs
    have hcs1 : clsOf ow S1 = some cl := hcs.1.trans hcl
    obtain ⟨ad, dx, gs, names, ex, hx, hk1, hnm⟩ := obj_at s1 (show RepX T g1 H1 x ow from r1).rdX hcs1
    refine ⟨ad, dx, gs, ex, hx, lookup_not (by rw [hnm]; rw [G.eK] at hM; exact meth_free hk1 hM), ?_⟩
    unfold evs at p1
    rw [R.bind_ok] at p1
    split at p1
    · exact p1.elim
    · rename_i hc
      obtain ⟨c1, c2⟩ := not_or.mp hc
      obtain ⟨c2, c3⟩ := not_or.mp c2
      split at p1
      · rename_i hp
        refine spf_pure (vs := x :: ([] ++ dvs)) (ws := ow :: ([] ++ f.dv 0)) hp c1 (by simpa using c2) s1 (.cons r1 (paired_imp rv fun _ _ z => z g1 H1)) ?_ (by simpa using c3) p1
        rw [List.nil_append, List.length_cons, dv_len (Nat.zero_le _)]
        omega
      · exact p1.elim
  · exact p1.elim
theorem se_meth (G : XG X T) (tk : L2.Takes X W') {f : Fn} {k : Nat} {o e : Expr} {o' : E} {es : List Expr} {es' : List E} {n : Nat} (M : MthK T f) (hr : L2.Room n X.A) (hn : f.lvl ≤ n) (ho : PE X o (tE T W' .V o')) (oko : okx o = true) (hlen : (e :: es).length < 29) (hl : (ap.endLine == pos.line) = true)
    (he : PA X (e :: es) (tA T W' .V es')) (ok : okx e = true) (oks : okxs es = true) (hk : k ≤ f.dfl.length) (hln : es'.length + k + 1 = f.own.length) :
    PE X (.Call (.Attribute o f.nm ap) (e :: es) [] pos) (tE T W' c (.meth f o' es' k)) := by
  obtain ⟨cl, a, fd, ps, hcl, hC, hM, F⟩ := M
  obtain ⟨ds, dvs, hb, hv, rv⟩ := F.dv k hk
  rw [← G.eK] at hb hC hM
  have z := L2.pe_methSD (pos := pos) (E := L2.WE W') ho hC hM (f_ok G F) (hr.mono hn) hb hv (L2.passAt tk) he (star_cons ok es) (star_none oks pos) (mcallN oko (by unfold okxs at oks ⊢; simp [ok, oks]) hlen hl)
  refine pe_imp z fun σ H Q ⟨g, env, S, s, p⟩ => ?_
  unfold ev at p
  refine ⟨g, env, S, s, Post.bind (qa := quiet o') (qb := false) bm_res (by simp [quiet]) p fun ow S1 x g1 H1 eo e1 s1 r1 p1 => ?_⟩
  split at p1
  · rename_i hcs
    have hcs1 : clsOf ow S1 = some cl := hcs.1.trans hcl
    obtain ⟨ad, dx, gs, names, ex, hx, hk1, hnm⟩ := obj_at s1 (show RepX T g1 H1 x ow from r1).rdX hcs1
    refine ⟨ad, dx, gs, ex, hx, lookup_not (by rw [hnm]; rw [G.eK] at hM; exact meth_free hk1 hM), g1, env, S1, s1, Post.bind (qa := quiets es') (qb := false) bm_res (by simp) p1 fun av S2 xs g2 H2 ea e2 s2 r2 p2 => ?_⟩
    have r := resA_V r2
    split at p2
    · exact p2.elim
    · rename_i hc
      split at p2
      · rename_i hp
        refine spf_call (vs := x :: (xs ++ dvs)) (ws := ow :: (av ++ f.dv k)) hp (fun q => by cases hf : f.fresh <;> simp [q, hf] at hc ⊢) s2 (.cons (e2.stay.repX r1) (paired_append r (paired_imp rv fun _ _ z => z g2 H2))) ?_ p2
        rw [List.length_cons, List.length_append, evs_len ea, dv_len hk]
        omega
      · exact p2.elim
  · exact p1.elim
theorem se_meth0 (G : XG X T) (tk : L2.Takes X W') {f : Fn} {k : Nat} {o : Expr} {o' : E} {n : Nat} (M : MthK T f) (hr : L2.Room n X.A) (hn : f.lvl ≤ n) (ho : PE X o (tE T W' .V o')) (oko : okx o = true) (hl : (ap.endLine == pos.line) = true) (hk : k ≤ f.dfl.length) (hln : k + 1 = f.own.length) :
    PE X (.Call (.Attribute o f.nm ap) [] [] pos) (tE T W' c (.meth f o' [] k)) := by
  obtain ⟨cl, a, fd, ps, hcl, hC, hM, F⟩ := M
  obtain ⟨ds, dvs, hb, hv, rv⟩ := F.dv k hk
  rw [← G.eK] at hb hC hM
  have z := L2.pe_methSD0 (pos := pos) (E := L2.WE W') ho hC hM (f_ok G F) (hr.mono hn) hb hv (L2.passAt tk) (mcallN oko rfl (by decide) hl)
  refine pe_imp z fun σ H Q ⟨g, env, S, s, p⟩ => ?_
  unfold ev at p
  refine ⟨g, env, S, s, Post.bind (qa := quiet o') (qb := false) bm_res (by simp [quiet]) p fun ow S1 x g1 H1 eo e1 s1 r1 p1 => ?_⟩
  split at p1
  · rename_i hcs
    have hcs1 : clsOf ow S1 = some cl := hcs.1.trans hcl
    obtain ⟨ad, dx, gs, names, ex, hx, hk1, hnm⟩ := obj_at s1 (show RepX T g1 H1 x ow from r1).rdX hcs1
    refine ⟨ad, dx, gs, ex, hx, lookup_not (by rw [hnm]; rw [G.eK] at hM; exact meth_free hk1 hM), ?_⟩
    unfold evs at p1
    rw [R.bind_ok] at p1
    split at p1
    · exact p1.elim
    · rename_i hc
      split at p1
      · rename_i hp
        refine spf_call (vs := x :: ([] ++ dvs)) (ws := ow :: ([] ++ f.dv k)) hp (fun q => by cases hf : f.fresh <;> simp [q, hf] at hc ⊢) s1 (.cons r1 (paired_imp rv fun _ _ z => z g1 H1)) ?_ p1
        rw [List.nil_append, List.length_cons, dv_len hk]
        omega
      · exact p1.elim
  · exact p1.elim
end
end Wb

namespace Wb
open PySem PySem.Spec PyProof.Rows
open L2 (V Hp HO Rd upd upd_same upd_ne SqL SqT VK TE TT TA TS TG TI TO Ends WX XK R2 Cx Inv RelV Vals ne_of_none PE PT PA PS PSs PG PI OpR UnR CallR MtR Gl Vis Loc)
theorem PE.or {X : Cx} {e : Expr} {a b : TE} (h : PE X e a) (k : PE X e b) : PE X e (fun σ H Q => a σ H Q ∨ b σ H Q) := ⟨fun pins s σ H Q I q => by
  rcases q with q | q
  · exact h.run pins s σ H Q I q
  · exact k.run pins s σ H Q I q⟩
theorem PS.or {X : Cx} {st : Stmt} {a b : TS} (h : PS X st a) (k : PS X st b) : PS X st (fun D σ H => a D σ H ∨ b D σ H) := ⟨fun pins s σ H D I q => by
  rcases q with q | q
  · exact h.run pins s σ H D I q
  · exact k.run pins s σ H D I q⟩
section
variable {T : Tx} {W' : WX} {g g' : Gh} {env : Env} {S S' : Store} {σ σ' : L2.St} {H H' H2 : Hp} {d : Addr} {od : Obj} {ks : List (Key × V)}
/-- H and H2 differ in the lock at d alone -/
structure Lk (d : Addr) (od : Obj) (ks : List (Key × V)) (H H2 : Hp) : Prop where
  ne : ∀ b, b ≠ d → H2 b = H b
  a : H d = some (.dK ks) ∨ H d = some (.frz od (.dK ks))
  b : H2 d = some (.dK ks) ∨ H2 d = some (.frz od (.dK ks))
theorem Lk.lock (h : H d = some (.dK ks)) : Lk d od ks H (upd H d (.frz od (.dK ks))) := ⟨fun b n => upd_ne n, .inl h, .inr upd_same⟩
theorem Lk.unlock (h : H d = some (.frz od (.dK ks))) : Lk d od ks H (upd H d (.dK ks)) := ⟨fun b n => upd_ne n, .inr h, .inl upd_same⟩
theorem Lk.nn (k : Lk d od ks H H2) (b : Addr) : H2 b = none ↔ H b = none := by
  by_cases e : b = d
  · subst e
    rcases k.a with a | a <;> rcases k.b with b | b <;> simp [a, b]
  · rw [k.ne b e]
theorem Lk.stay (k : Lk d od ks H H2) : Stay g H g H2 := by
  refine ⟨fun b l _ => l, fun b u nf l r => ?_, fun b C dx fs l h => ?_, fun m l => ⟨rfl, l⟩⟩
  · by_cases e : b = d
    · subst e
      have hu : u = .dK ks := by
        rcases r with r | ⟨o, r⟩
        · rcases k.a with a | a <;> rw [a] at r <;> cases r
          · rfl
          · exact nf.elim
        · rcases k.a with a | a <;> rw [a] at r <;> cases r
          rfl
      subst hu
      rcases k.b with b | b
      · exact .inl b
      · exact .inr ⟨_, b⟩
    · unfold Rd
      rw [k.ne b e]
      exact r
  · have e : b ≠ d := fun e => by
      subst e
      rcases k.a with a | a <;> rw [a] at h <;> cases h
    rw [k.ne b e]
    exact h
theorem Lk.sim (k : Lk d od ks H H2) (l : g.L d = .frz) (s : Sim T g H env S σ) : Sim T g H2 env S σ where
  wf := fun a h => s.wf a ((k.nn a).mp h)
  len := s.len
  slots := fun i fl w h => by
    have z := s.slots i fl w h
    have st := k.stay (g := g)
    cases fl with
    | v =>
      obtain ⟨x, ex, r⟩ := z
      exact ⟨x, ex, st.repX r⟩
    | o =>
      obtain ⟨a, ex, la, o⟩ := z
      exact ⟨a, ex, la, o.stay st (k.ne a fun e => by rw [e, l] at la; cases la)⟩
    | k =>
      obtain ⟨a, ex, la, o⟩ := z
      exact ⟨a, ex, la, o.stay st (k.ne a fun e => by rw [e, l] at la; cases la)⟩
  cells := fun n c h => cell_stay (k.stay (g := g)) (fun a ha _ => ⟨rfl, k.ne a fun e => by rw [e, l] at ha; rcases ha with ha | ⟨f, ha⟩ <;> cases ha⟩) (s.cells n c h)
  fin := s.fin
theorem Lk.own (k : Lk d od ks H H2) {fl : Flag} {a : Addr} {w : W} (o : Own T g H fl a w) : RepX T g H2 (.ref a) w ∨ ∃ fl', Own T g H2 fl' a w := by
  by_cases e : a = d
  · subst e
    cases w with
    | dct kvs =>
      obtain ⟨xs, e1, r⟩ := o
      have ex : xs = ks := by
        split at e1
        · obtain ⟨o', e1⟩ := e1
          rcases k.a with a | a <;> rw [a] at e1 <;> cases e1
          rfl
        · rcases k.a with a | a <;> rw [a] at e1 <;> cases e1
          rfl
      subst ex
      have r2 := paired_imp r fun _ _ z => And.intro z.1 ((k.stay (g := g)).repX z.2)
      rcases k.b with b | b
      · exact .inr ⟨.o, xs, by simpa using b, r2⟩
      · exact .inr ⟨.k, xs, by simp [b], r2⟩
    | lst ws => obtain ⟨xs, e1, r⟩ := o; rcases k.a with a | a <;> rw [a] at e1 <;> cases e1
    | ins c fs => obtain ⟨dx, xs, e1, r⟩ := o; rcases k.a with a | a <;> rw [a] at e1 <;> cases e1.1
    | _ => exact o.elim
  · exact .inr ⟨fl, o.stay (k.stay (g := g)) (k.ne a e)⟩
theorem Lk.res {c : Ctx} {x : V} {w : W} {H0 H02 : Hp} (k0 : Lk d od ks H0 H02) (k : Lk d od ks H H2) (l : g.L d = .frz) (h : Res T c H0 g H x w) : Res T c H02 g H2 x w := by
  cases c with
  | V => exact (k.stay (g := g)).repX h
  | S =>
    rcases h with h | ⟨a, fl, e, o, la, n⟩
    · exact .inl ((k.stay (g := g)).repX h)
    · have ne : a ≠ d := fun e => by rw [e, l] at la; rcases la with la | ⟨i, la⟩ <;> cases la
      exact .inr ⟨a, fl, e, o.stay (k.stay (g := g)) (k.ne a ne), la, fun z => n ((k.nn a).mp z)⟩
  | B =>
    rcases h with h | ⟨a, fl, e, o⟩
    · exact .inl ((k.stay (g := g)).repX h)
    · subst e
      rcases k.own o with r | ⟨fl', r⟩
      · exact .inl r
      · exact .inr ⟨a, fl', rfl, r⟩
  | F =>
    obtain ⟨a, e, n, la, o⟩ := h
    have ne : a ≠ d := fun e => by rw [e, l] at la; cases la
    exact ⟨a, e, (k0.nn a).mpr n, la, o.stay (k.stay (g := g)) (k.ne a ne)⟩
/-- an expression, while the dict at d is locked -/
theorem lock_post {q : Bool} {c : Ctx} {r : R W} {Q : VK} (hd : H d = some (.dK ks)) (l : g.L d = .frz) (hx : ∀ x fs S', r ≠ .exn x fs S') (h : Post T W' q (Res T c) g env σ H r Q) :
    Post T W' q (Res T c) g env σ (upd H d (.frz od (.dK ks))) r fun v H' => H' d = some (.frz od (.dK ks)) ∧ Q v (upd H' d (.dK ks)) := by
  cases r with
  | bad => exact h
  | exn x fs S' => exact absurd rfl (hx x fs S')
  | ok w S' =>
    intro x g' H' e s r
    obtain ⟨l1, h1⟩ := e.keep d (by rw [upd_same]; simp) (.inr (.inr (.inl l)))
    have h2 : H' d = some (.frz od (.dK ks)) := h1.trans upd_same
    have ld : g'.L d = .frz := l1.trans l
    have k1 : Lk d od ks H' (upd H' d (.dK ks)) := .unlock h2
    have k0 : Lk d od ks (upd H d (.frz od (.dK ks))) H := ⟨fun b n => (upd_ne n).symm, .inr upd_same, .inl hd⟩
    refine ⟨h2, h x g' _ ⟨fun a n p => ?_, e.cel, fun a n => ?_, fun a i n la => e.slot a i (fun z => n ((k0.nn a).mpr z)) la⟩ (k1.sim ld s) (k0.res k1 ld r)⟩
    · have n' : upd H d (.frz od (.dK ks)) a ≠ none := fun z => n ((k0.nn a).mpr z)
      obtain ⟨e1, e2⟩ := e.keep a n' p
      refine ⟨e1, ?_⟩
      by_cases ea : a = d
      · subst ea; rw [upd_same, hd]
      · rw [upd_ne ea, e2, upd_ne ea]
    · exact fun z => e.some a (fun z' => n ((k0.nn a).mpr z')) ((k1.nn a).mp z)
theorem lock_posts {B : Bd} {o : Out} {D : Ends} (hd : H d = some (.dK ks)) (l : g.L d = .frz) (hx : ∀ x fs env' S', o ≠ .exn x fs env' S') (h : PostS T W' B g σ H o D) :
    PostS T W' B g σ (upd H d (.frz od (.dK ks))) o ⟨fun σ' H' => H' d = some (.frz od (.dK ks)) ∧ D.nx σ' (upd H' d (.dK ks)), fun v H' => H' d = some (.frz od (.dK ks)) ∧ D.rt v (upd H' d (.dK ks)), fun σ' H' => H' d = some (.frz od (.dK ks)) ∧ D.bk σ' (upd H' d (.dK ks)), fun σ' H' => H' d = some (.frz od (.dK ks)) ∧ D.ct σ' (upd H' d (.dK ks))⟩ := by
  have k0 : Lk d od ks (upd H d (.frz od (.dK ks))) H := ⟨fun b n => (upd_ne n).symm, .inr upd_same, .inl hd⟩
  have ex : ∀ {g' H'}, ExtS g (upd H d (.frz od (.dK ks))) g' H' → H' d = some (.frz od (.dK ks)) ∧ g'.L d = .frz ∧ ExtS g H g' (upd H' d (.dK ks)) := by
    intro g' H' e
    obtain ⟨l1, h1⟩ := e.keep d (by rw [upd_same]; simp) (.inr l)
    have h2 : H' d = some (.frz od (.dK ks)) := h1.trans upd_same
    have k1 : Lk d od ks H' (upd H' d (.dK ks)) := .unlock h2
    refine ⟨h2, l1.trans l, ⟨fun a n p => ?_, e.cel, fun a n => ?_, fun a i n la => e.slot a i (fun z => n ((k0.nn a).mpr z)) la⟩⟩
    · have n' : upd H d (.frz od (.dK ks)) a ≠ none := fun z => n ((k0.nn a).mpr z)
      obtain ⟨e1, e2⟩ := e.keep a n' p
      refine ⟨e1, ?_⟩
      by_cases ea : a = d
      · subst ea; rw [upd_same, hd]
      · rw [upd_ne ea, e2, upd_ne ea]
    · exact fun z => e.some a (fun z' => n ((k0.nn a).mpr z')) ((k1.nn a).mp z)
  cases o with
  | bad => exact h
  | exn x fs env' S' => exact absurd rfl (hx x fs env' S')
  | nx env' S' => exact fun g' H' σ' e s k => let ⟨h2, ld, e2⟩ := ex e; ⟨h2, h g' _ σ' e2 ((Lk.unlock h2).sim ld s) k⟩
  | brk env' S' => exact fun g' H' σ' e s k => let ⟨h2, ld, e2⟩ := ex e; ⟨h2, h g' _ σ' e2 ((Lk.unlock h2).sim ld s) k⟩
  | ct env' S' => exact fun g' H' σ' e s k => let ⟨h2, ld, e2⟩ := ex e; ⟨h2, h g' _ σ' e2 ((Lk.unlock h2).sim ld s) k⟩
  | ret w env' S' =>
    intro x g' H' σ' e s k r
    obtain ⟨h2, ld, e2⟩ := ex e
    have k1 : Lk d od ks H' (upd H' d (.dK ks)) := .unlock h2
    refine ⟨h2, h x g' _ σ' e2 (k1.sim ld s) k ?_⟩
    unfold RetR at r ⊢
    split at r
    · rename_i hf
      rw [if_pos hf]
      obtain ⟨a, e1, o, la⟩ := r
      have ne : a ≠ d := fun z => by
        rw [z, ld] at la
        rcases la with ⟨_, la⟩ | ⟨i, la⟩ <;> cases la
      refine ⟨a, e1, o.stay (k1.stay (g := g')) (k1.ne a ne), la.imp_left fun z => ⟨(k0.nn a).mpr z.1, z.2⟩⟩
    · rename_i hf
      rw [if_neg hf]
      exact (k1.stay (g := g')).repX r
/-- a source that is a dict at d, read exactly by t -/
def DSrc (T : Tx) (g : Gh) (σ : L2.St) (H : Hp) (t : TE) (kvs : List (Key × W)) : Prop := ∃ d ks, g.L d = .frz ∧ Rd H d (.dK ks) ∧ Paired (fun (p : Key × V) (q : Key × W) => p.1 = q.1 ∧ RepX T g H p.2 q.2) ks kvs ∧ ∀ H2, (∀ b, b ≠ d → H2 b = H b) → ∀ Q : VK, Q (.ref d) H2 → t σ H2 Q
end
section
variable {X : Cx} {T : Tx} {W' : WX} {B : Bd} {c : Ctx} {pos p : Pos} {g : Gh} {env : Env} {S : Store} {σ : L2.St} {H : Hp}
/-- the sources that are walked so -/
def KSrc (T : Tx) (W' : WX) (srcs : List E) (t : TE) : Prop := ∀ {g env S σ H}, Sim T g H env S σ → (∀ x fs S', (evs .V srcs env S).bind (itemsR .keys) ≠ .exn x fs S') ∧ ∀ items S', (evs .V srcs env S).bind (itemsR .keys) = .ok items S' → S' = S ∧ ∃ kvs, items = kvs.map (fun kv => kW kv.1) ∧ DSrc T g σ H t kvs
theorem src_val {w : W} {S1 : Store} {items : List W} {S' : Store} (h : itemsR .keys [w] S1 = .ok items S') : S' = S1 ∧ ∃ kvs, w = .dct kvs ∧ items = kvs.map fun kv => kW kv.1 := by
  unfold itemsR at h
  cases w with
  | dct kvs => cases h; exact ⟨rfl, kvs, rfl, rfl⟩
  | _ => cases h
theorem src_nexn {ws : List W} {S1 : Store} : ∀ x fs S', itemsR .keys ws S1 ≠ .exn x fs S' := by
  intro x fs S' h
  unfold itemsR at h
  split at h <;> cases h
theorem dsrc_rep {x : V} {kvs : List (Key × W)} {t : TE} (r : RepX T g H x (.dct kvs)) (ht : ∀ d, x = .ref d → (∃ ks, Rd H d (.dK ks)) → ∀ H2, (∀ b, b ≠ d → H2 b = H b) → ∀ Q : VK, Q (.ref d) H2 → t σ H2 Q) : DSrc T g σ H t kvs := by
  obtain ⟨d, ks, e, l, h, rr⟩ := dct_inv r
  exact ⟨d, ks, l, h, rr, fun H2 hn Q q => ht d e ⟨ks, h⟩ H2 hn Q q⟩
theorem ksrc_var (i : Nat) : KSrc T W' [.var i] (L2.tVar i) := by
  intro g env S σ H s
  unfold evs evs ev
  cases h : env.at i with
  | none => exact ⟨fun _ _ _ z => (by cases z), fun _ _ z => (by cases z)⟩
  | some fw =>
    obtain ⟨fl, w⟩ := fw
    cases fl with
    | v =>
      refine ⟨fun x fs S' z => ?_, fun items S' z => ?_⟩
      · simp only [reduceCtorEq, if_false, R.bind_ok] at z
        exact src_nexn _ _ _ z
      · simp only [reduceCtorEq, if_false, R.bind_ok] at z
        obtain ⟨e1, kvs, e2, e3⟩ := src_val z
        subst e1 e2
        obtain ⟨x, hx, r⟩ := s.slots i _ _ h
        exact ⟨rfl, kvs, e3, dsrc_rep r fun d ed _ H2 _ Q q => ⟨x, hx, by rw [ed]; exact q⟩⟩
    | o => exact ⟨fun _ _ _ z => (by simp at z), fun _ _ z => (by simp at z)⟩
    | k => exact ⟨fun _ _ _ z => (by simp at z), fun _ _ z => (by simp at z)⟩
theorem slot_rdx (s : Sim T g H env S σ) {i : Nat} {fl : Flag} {w : W} (h : env.at i = some (fl, w)) : ∃ x, σ[i]? = some (some x) ∧ RdX T g H x w := by
  have z := s.slots i _ _ h
  cases fl with
  | v => obtain ⟨x, e, r⟩ := z; exact ⟨x, e, .inl r⟩
  | o => obtain ⟨a, e, _, o⟩ := z; exact ⟨_, e, .inr ⟨a, _, rfl, o⟩⟩
  | k => obtain ⟨a, e, _, o⟩ := z; exact ⟨_, e, .inr ⟨a, _, rfl, o⟩⟩
theorem evB_var {i : Nat} {fl : Flag} {w : W} (h : env.at i = some (fl, w)) : ev .B (.var i) env S = .ok w S := by
  unfold ev
  rw [h]
  cases fl <;> simp
theorem evB_none {i : Nat} (h : env.at i = none) : ev .B (.var i) env S = .bad := by
  unfold ev
  rw [h]
theorem ev_attr0 (a : E) (f : Str) : ev c (.attr a f) env S = (ev .B a env S).bind fun x S => attrW c x f S := by rw [ev]
theorem src_attr {i : Nat} {f : Str} : (evs .V [.attr (.var i) f] env S).bind (itemsR .keys) = (ev .B (.var i) env S).bind fun x S => (attrW .V x f S).bind fun w S1 => itemsR .keys [w] S1 := by
  unfold evs evs
  rw [ev_attr0]
  simp only [R.bind_assoc, R.bind_ok]
theorem ksrc_fld (i : Nat) (f : Str) : KSrc T W' [.attr (.var i) f] (L2.tFld T.K (L2.tVar i) f) := by
  intro g env S σ H s
  rw [src_attr]
  cases h : env.at i with
  | none =>
    rw [evB_none h]
    exact ⟨fun _ _ _ z => (by cases z), fun _ _ z => (by cases z)⟩
  | some fw =>
    obtain ⟨fl, w⟩ := fw
    rw [evB_var h, R.bind_ok]
    obtain ⟨x, hx, r⟩ := slot_rdx s h
    cases w with
    | ins cl fs =>
      show (∀ x fs' S', ((ofW .V (fs.lookup f) S).bind fun w S1 => itemsR .keys [w] S1) ≠ .exn x fs' S') ∧ ∀ items S', ((ofW .V (fs.lookup f) S).bind fun w S1 => itemsR .keys [w] S1) = .ok items S' → _
      cases q : fs.lookup f with
      | none => exact ⟨fun _ _ _ z => (by cases z), fun _ _ z => (by cases z)⟩
      | some w =>
        refine ⟨fun y fs' S' z => src_nexn (ws := [w]) (S1 := S) _ _ _ z, fun items S' z => ?_⟩
        obtain ⟨e1, kvs, e2, e3⟩ := src_val (w := w) (S1 := S) z
        subst e1 e2
        obtain ⟨a, dx, gs, ex, hi, rr⟩ := rdx_ins r
        obtain ⟨v, hv, rv⟩ := lookup_paired (F := fun _ v w => RepX T g H v w) rr q
        refine ⟨rfl, kvs, e3, dsrc_rep rv fun d ed hr H2 hn Q q' => ?_⟩
        have ne : a ≠ d := fun z => by
          obtain ⟨ks, hr⟩ := hr
          rw [← z] at hr
          rcases hr with hr | ⟨o, hr⟩ <;> rw [hi.1] at hr <;> cases hr
        exact ⟨x, hx, a, _, dx, gs, v, ex, (hn a ne).trans hi.1, hi.2.cls, hi.2.na f (lookup_mem q), hv, by rw [ed]; exact q'⟩
    | ref n =>
      unfold attrW
      dsimp only
      cases hs : S[n]? with
      | none => exact ⟨fun _ _ _ z => (by cases z), fun _ _ z => (by cases z)⟩
      | some cl =>
        dsimp only
        cases q : cl.fs.lookup f with
        | none => exact ⟨fun _ _ _ z => (by cases z), fun _ _ z => (by cases z)⟩
        | some fw =>
          obtain ⟨fl, w⟩ := fw
          cases fl with
          | v =>
            refine ⟨fun y fs' S' z => src_nexn (ws := [w]) (S1 := S) _ _ _ z, fun items S' z => ?_⟩
            obtain ⟨e1, kvs, e2, e3⟩ := src_val (w := w) (S1 := S) z
            subst e1 e2
            have ex : x = .ref (g.ι n) := (rdx_ref r).1
            obtain ⟨_, dx, gs, hi, rr⟩ := s.cells n cl hs
            obtain ⟨v, hv, rv⟩ := lookup_paired (F := fun f v (q : Flag × W) => FldOk T g H n f v q.1 q.2) rr q
            refine ⟨rfl, kvs, e3, dsrc_rep (x := v) rv fun d ed hr H2 hn Q q' => ?_⟩
            have ne : g.ι n ≠ d := fun z => by
              obtain ⟨ks, hr⟩ := hr
              rw [← z] at hr
              rcases hr with hr | ⟨o, hr⟩ <;> rw [hi.1] at hr <;> cases hr
            exact ⟨x, hx, g.ι n, _, dx, gs, v, ex, (hn _ ne).trans hi.1, hi.2.cls, hi.2.na f (lookup_mem q), hv, by rw [ed]; exact q'⟩
          | o =>
            simp only [reduceCtorEq, if_false]
            exact ⟨fun _ _ _ z => (by cases z), fun _ _ z => (by cases z)⟩
          | k =>
            simp only [reduceCtorEq, if_false]
            exact ⟨fun _ _ _ z => (by cases z), fun _ _ z => (by cases z)⟩
    | _ => exact ⟨fun _ _ _ z => (by cases z), fun _ _ z => (by cases z)⟩
theorem keys_R {t : TE} {kvs : List (Key × W)} {R' : L2.It → Hp → Prop} {d : Addr} {od : Obj} {ks : List (Key × V)} (hd : H d = some (.frz od (.dK ks))) (ht : ∀ Q : VK, Q (.ref d) H → t σ H Q) (h : R' (L2.Itk d od ks) H) : L2.iKeys t σ H R' :=
  ht _ ⟨d, od, rfl, .inl ⟨ks, hd, h⟩⟩
theorem se_lcK (G : XG X T) {elt tgE iter : Expr} {ifs : List Expr} {scope : Scope} {own : List (Str × Nat)} {tg : Tg} {srcs conds : List E} {elt' : E} {t : TE} (hi : PE X iter t) (ks : KSrc T W' srcs t) (ok : L2.BlkOk X.N X.env.scope scope own) (sub : ∀ j ∈ tg.ixs, j ∈ own.map (·.2))
    (hg : ∀ (s : Shared) (H : Hp) (C : Addr) (cl : List (Str × Addr)) (fp : List Addr), PG (X.blk s H scope (compEnvC scope cl C X.env) fp) tgE (gOf T.K tg))
    (ht : ∀ (s : Shared) (H : Hp) (C : Addr) (cl : List (Str × Addr)) (fp : List Addr), L2.PTs (X.blk s H scope (compEnvC scope cl C X.env) fp) ifs (tC T conds))
    (he : ∀ (s : Shared) (H : Hp) (C : Addr) (cl : List (Str × Addr)) (fp : List Addr), PE (X.blk s H scope (compEnvC scope cl C X.env) fp) elt (tE T WF .V elt'))
    (hs : ∀ x, foldedSetIterable iter X.env x = pure x) : PE X (.ListComp elt [⟨tgE, iter, ifs, 0⟩] scope pos) (tE T W' c (.lc tg .keys srcs conds elt' own)) := by
  have z := L2.pe_lc (pos := pos) G.calm G.nd (L2.pi_keys (tg := tgE) hi) ok hg ht he hs
  refine pe_imp (PE.or z (L2.pe_lock z)) fun σ H Q ⟨g, env, S, s, p⟩ => ?_
  unfold ev srcC at p
  dsimp only at p
  obtain ⟨nx, kk⟩ := ks s
  cases hv : (evs .V srcs env S).bind (itemsR .keys) with
  | bad => rw [hv] at p; exact p.elim
  | exn x fs S' => exact absurd hv (nx x fs S')
  | ok items S' =>
    obtain ⟨e1, kvs, e2, d, kl, l, hr, rr, ex⟩ := kk items S' hv
    subst e1
    rw [hv, R.bind_ok] at p
    have nx2 : ∀ x fs S'', noExn ((lcGo tg (fun env' S' => evc conds env' S') (fun env' S' => ev .V elt' env' S') (wipeE env (own.map (·.2))) items [] S').bind fun ws S' => .ok (W.lst ws) S') ≠ .exn x fs S'' := by
      intro x fs S'' h
      generalize (lcGo tg (fun env' S' => evc conds env' S') (fun env' S' => ev .V elt' env' S') (wipeE env (own.map (·.2))) items [] S').bind (fun ws S' => R.ok (W.lst ws) S') = r at h
      cases r <;> cases h
    rcases hr with hr | ⟨od, hr⟩
    · refine .inr ⟨d, .dK kl, hr, trivial, fun od => ?_⟩
      have k1 : Lk d od kl H (upd H d (.frz od (.dK kl))) := .lock hr
      refine keys_R (kvs := kvs) upd_same (fun Q' q => ex _ (fun b n => upd_ne n) Q' q) ?_
      exact lc_rest sub (qq := false) (by simp) (k1.sim l s) (by rw [e2]; exact (it_keys (H0 := H) l upd_same (paired_imp rr fun _ _ z => ⟨z.1, (k1.stay (g := g)).repX z.2⟩)).e) (lock_post hr l nx2 p)
    · refine .inl (keys_R (kvs := kvs) hr (fun Q' q => ex _ (fun _ _ => rfl) Q' q) ?_)
      exact lc_rest sub (qq := false) (by simp) s (by rw [e2]; exact (it_keys (H0 := H) l hr rr).e) p
theorem se_dcK (G : XG X T) {kx vx tgE iter : Expr} {ifs : List Expr} {scope : Scope} {own : List (Str × Nat)} {tg : Tg} {srcs conds : List E} {ke ve : E} {t : TE} (hi : PE X iter t) (ks : KSrc T W' srcs t) (ok : L2.BlkOk X.N X.env.scope scope own) (sub : ∀ j ∈ tg.ixs, j ∈ own.map (·.2))
    (hg : ∀ (s : Shared) (H : Hp) (C : Addr) (cl : List (Str × Addr)) (fp : List Addr), PG (X.blk s H scope (compEnvC scope cl C X.env) fp) tgE (gOf T.K tg))
    (ht : ∀ (s : Shared) (H : Hp) (C : Addr) (cl : List (Str × Addr)) (fp : List Addr), L2.PTs (X.blk s H scope (compEnvC scope cl C X.env) fp) ifs (tC T conds))
    (hk : ∀ (s : Shared) (H : Hp) (C : Addr) (cl : List (Str × Addr)) (fp : List Addr), PE (X.blk s H scope (compEnvC scope cl C X.env) fp) kx (tE T WF .V ke))
    (he : ∀ (s : Shared) (H : Hp) (C : Addr) (cl : List (Str × Addr)) (fp : List Addr), PE (X.blk s H scope (compEnvC scope cl C X.env) fp) vx (tE T WF .V ve))
    (hs : ∀ x, foldedSetIterable iter X.env x = pure x) : PE X (.DictComp kx vx [⟨tgE, iter, ifs, 0⟩] scope pos) (tE T W' c (.dc tg .keys srcs conds ke ve own)) := by
  have z := L2.pe_dc (pos := pos) G.calm G.nd (L2.pi_keys (tg := tgE) hi) ok hg ht hk he hs
  refine pe_imp (PE.or z (L2.pe_lock z)) fun σ H Q ⟨g, env, S, s, p⟩ => ?_
  unfold ev srcC at p
  dsimp only at p
  obtain ⟨nx, kk⟩ := ks s
  cases hv : (evs .V srcs env S).bind (itemsR .keys) with
  | bad => rw [hv] at p; exact p.elim
  | exn x fs S' => exact absurd hv (nx x fs S')
  | ok items S' =>
    obtain ⟨e1, kvs, e2, d, kl, l, hr, rr, ex⟩ := kk items S' hv
    subst e1
    rw [hv, R.bind_ok] at p
    have nx2 : ∀ x fs S'', noExn ((dcGo tg (fun env' S' => evc conds env' S') (fun env' S' => ev .V ke env' S') (fun env' S' => ev .V ve env' S') (wipeE env (own.map (·.2))) items [] S').bind fun ws S' => .ok (W.dct ws) S') ≠ .exn x fs S'' := by
      intro x fs S'' h
      generalize (dcGo tg (fun env' S' => evc conds env' S') (fun env' S' => ev .V ke env' S') (fun env' S' => ev .V ve env' S') (wipeE env (own.map (·.2))) items [] S').bind (fun ws S' => R.ok (W.dct ws) S') = r at h
      cases r <;> cases h
    rcases hr with hr | ⟨od, hr⟩
    · refine .inr ⟨d, .dK kl, hr, trivial, fun od => ?_⟩
      have k1 : Lk d od kl H (upd H d (.frz od (.dK kl))) := .lock hr
      refine keys_R (kvs := kvs) upd_same (fun Q' q => ex _ (fun b n => upd_ne n) Q' q) ?_
      exact dc_rest sub (qq := false) (by simp) (k1.sim l s) (by rw [e2]; exact (it_keys (H0 := H) l upd_same (paired_imp rr fun _ _ z => ⟨z.1, (k1.stay (g := g)).repX z.2⟩)).e) (lock_post hr l nx2 p)
    · refine .inl (keys_R (kvs := kvs) hr (fun Q' q => ex _ (fun _ _ => rfl) Q' q) ?_)
      exact dc_rest sub (qq := false) (by simp) s (by rw [e2]; exact (it_keys (H0 := H) l hr rr).e) p
theorem ss_forK (G : XG X T) (po : PassesOwn (model X.prog X.w) X.A X.env X.xe) {tgE iter : Expr} {body : List Stmt} {tg : Tg} {srcs : List E} {body' : List Wb.S} {t : TE} (hi : PE X iter t) (ks : KSrc T W' srcs t) (hg : PG X tgE (gOf T.K tg)) (hb : PSs X body (tSs T W' B body'))
    (hP : ∀ j ∈ tg.ixs, B.P j = false) (hs : ∀ x, foldedSetIterable iter X.env x = pure x) : PS X (.For tgE iter body [] pos) (tS T W' B (.for_ tg .keys srcs body')) := by
  have z := L2.ps_for (pos := pos) po G.calm (L2.pi_keys (tg := tgE) hi) hg hb hs
  refine ps_imp (PS.or z (L2.ps_lock z)) fun D σ H ⟨g, env, S, s, p⟩ => ?_
  unfold exec srcC at p
  dsimp only at p
  obtain ⟨nx, kk⟩ := ks s
  cases hv : (evs .V srcs env S).bind (itemsR .keys) with
  | bad => rw [hv] at p; exact p.elim
  | exn x fs S' => exact absurd hv (nx x fs S')
  | ok items S' =>
    obtain ⟨e1, kvs, e2, d, kl, l, hr, rr, ex⟩ := kk items S' hv
    subst e1
    rw [hv, R.out_ok] at p
    have nx2 : ∀ x fs env' S'', keepX .keys (forGo tg (fun env S => execs body' env S) items env S') ≠ .exn x fs env' S'' := by
      intro x fs env' S'' h
      generalize forGo tg (fun env S => execs body' env S) items env S' = r at h
      cases r <;> cases h
    rcases hr with hr | ⟨od, hr⟩
    · refine .inr ⟨d, .dK kl, hr, trivial, fun od => ?_⟩
      have k1 : Lk d od kl H (upd H d (.frz od (.dK kl))) := .lock hr
      refine keys_R (kvs := kvs) upd_same (fun Q' q => ex _ (fun b n => upd_ne n) Q' q) ?_
      exact for_rest hP (H0 := H) (k1.sim l s) (by rw [e2]; exact it_keys l upd_same (paired_imp rr fun _ _ z => ⟨z.1, (k1.stay (g := g)).repX z.2⟩)) (lock_posts hr l nx2 p).keepX
    · refine .inl (keys_R (kvs := kvs) hr (fun Q' q => ex _ (fun _ _ => rfl) Q' q) ?_)
      exact for_rest hP (H0 := H) s (by rw [e2]; exact it_keys l hr rr) p.keepX
end
end Wb

namespace Wb
open PySem PySem.Spec PyProof.Rows
open L2 (V Hp HO Rd upd upd_same upd_ne SqL SqT VK TE TT TA TS TG TI TO Ends WX XK R2 Cx Inv RelV Vals ne_of_none PE PT PA PS PSs PG PI OpR UnR CallR MtR Gl Vis Loc)
section
variable {X : Cx} {T : Tx} {W' : WX} {B : Bd} {c : Ctx} {pos p : Pos} {g : Gh} {env : Env} {S : Store} {σ : L2.St} {H H0 : Hp}
theorem it_own {i : Nat} {a : Addr} {xs : List V} {ws : List W} (l : g.L a = .slot i) (h : H a = some (.lst xs)) (r : Paired (RepX T g H) xs ws) : ItE T false g H (L2.Itl T.K a) ws := by
  intro g2 H2 e i
  have h2 : H2 a = some (.lst xs) := (e.keep a (by rw [h]; simp) (.inr (.inr (.inr ⟨_, l⟩)))).2.trans h
  have hr : SqL T.K H2 a xs := .inl (.inl h2)
  have r2 := paired_imp r fun _ _ z => e.stay.repX z
  refine ⟨fun hi => ⟨xs, hr, by rw [r.length]; exact hi⟩, fun w hw => ?_⟩
  obtain ⟨x, hx, rx⟩ := paired_get r2 hw
  refine ⟨⟨xs, x, hr, hx⟩, fun y H3 hy => .inl ⟨hy.1, ?_⟩⟩
  have := hy.2 xs hr
  rw [hx] at this
  cases this
  exact rx
theorem src_own {i : Nat} : (evs (srcC .own) [.var i] env S).bind (itemsR .own) = (ev .B (.var i) env S).bind fun w S => itemsR .own [w] S := by
  rw [show srcC .own = .B from rfl]
  unfold evs evs
  simp only [R.bind_assoc, R.bind_ok]
theorem se_lcO (G : XG X T) {elt tgE iter : Expr} {ifs : List Expr} {scope : Scope} {own : List (Str × Nat)} {tg : Tg} {conds : List E} {elt' : E} {i : Nat} (hi : PE X iter (L2.tVar i)) (ok : L2.BlkOk X.N X.env.scope scope own) (sub : ∀ j ∈ tg.ixs, j ∈ own.map (·.2))
    (hg : ∀ (s : Shared) (H : Hp) (C : Addr) (cl : List (Str × Addr)) (fp : List Addr), PG (X.blk s H scope (compEnvC scope cl C X.env) fp) tgE (gOf T.K tg))
    (ht : ∀ (s : Shared) (H : Hp) (C : Addr) (cl : List (Str × Addr)) (fp : List Addr), L2.PTs (X.blk s H scope (compEnvC scope cl C X.env) fp) ifs (tC T conds))
    (he : ∀ (s : Shared) (H : Hp) (C : Addr) (cl : List (Str × Addr)) (fp : List Addr), PE (X.blk s H scope (compEnvC scope cl C X.env) fp) elt (tE T WF .V elt'))
    (hs : ∀ x, foldedSetIterable iter X.env x = pure x) : PE X (.ListComp elt [⟨tgE, iter, ifs, 0⟩] scope pos) (tE T W' c (.lc tg .own [.var i] conds elt' own)) := by
  have hl := L2.pi_list (tg := tgE) hi
  rw [G.eK] at hl
  have z := L2.pe_lc (pos := pos) G.calm G.nd hl ok hg ht he hs
  refine pe_imp z fun σ H Q ⟨g, env, S, s, p⟩ => ?_
  unfold ev at p
  rw [src_own] at p
  cases h : env.at i with
  | none => rw [evB_none h] at p; exact p.elim
  | some fw =>
    obtain ⟨fl, w⟩ := fw
    rw [evB_var h, R.bind_ok] at p
    cases w with
    | lst ws =>
      have p' : Post T W' false (Res T c) g env σ H (noExn ((lcGo tg (fun env' S' => evc conds env' S') (fun env' S' => ev .V elt' env' S') (wipeE env (own.map (·.2))) ws [] S).bind fun ws S' => .ok (.lst ws) S')) Q := p
      have z := s.slots i _ _ h
      cases fl with
      | v =>
        obtain ⟨x, ex, r⟩ := z
        obtain ⟨a, xs, e, hl, rr⟩ := lst_inv r
        subst e
        exact ⟨_, ex, a, rfl, ⟨xs, .inl hl.2⟩, lc_rest sub (qq := false) (by simp) s (it_lst (H0 := H) hl rr).e p'⟩
      | o =>
        obtain ⟨a, ex, l, xs, hx, rr⟩ := z
        exact ⟨_, ex, a, rfl, ⟨xs, .inl (.inl hx)⟩, lc_rest sub (qq := false) (by simp) s (it_own l hx rr) p'⟩
      | k =>
        obtain ⟨a, ex, l, xs, hx, rr⟩ := z
        exact ⟨_, ex, a, rfl, ⟨xs, .inl (.inl hx)⟩, lc_rest sub (qq := false) (by simp) s (it_own l hx rr) p'⟩
    | _ => exact p.elim
end
end Wb

namespace Wb
open PySem PySem.Spec PyProof.Rows
open L2 (V Hp HO Rd upd upd_same upd_ne SqL SqT VK TE TT TA TS TG TI TO Ends WX XK R2 Cx Inv RelV Vals ne_of_none PE PT PA PS PSs PG PI OpR UnR CallR MtR Gl Vis Loc)
section
variable {X : Cx} {T : Tx} {W' : WX} {B : Bd} {c : Ctx} {pos p : Pos} {g : Gh} {env : Env} {S : Store} {σ : L2.St} {H H0 : Hp}
theorem ps_setDc {i : Nat} {y : Str} {py : Pos} {kx vx tg iter : Expr} {ifs : List Expr} {scope : Scope} {own : List (Str × Nat)} {pos spos : Pos} {wi : TI} {g : TG} {tt : TT} {tk tv : TE} (hc : X.calm = true) (hN : X.N.Nodup) (hy : X.N[i]? = some y) (hyl : X.env.scope.names.lookup y = some .local)
    (hsw : swapsWith (.DictComp kx vx [⟨tg, iter, ifs, 0⟩] scope pos) (some (.Name y py)) spos.line X.env = pure true) (hi : PI X tg iter wi) (ok : L2.BlkOk X.N X.env.scope scope own)
    (hg : ∀ (s : Shared) (H : Hp) (C : Addr) (cl : List (Str × Addr)) (fp : List Addr), PG (X.blk s H scope (compEnvC scope cl C X.env) fp) tg g) (ht : ∀ (s : Shared) (H : Hp) (C : Addr) (cl : List (Str × Addr)) (fp : List Addr), L2.PTs (X.blk s H scope (compEnvC scope cl C X.env) fp) ifs tt)
    (hk : ∀ (s : Shared) (H : Hp) (C : Addr) (cl : List (Str × Addr)) (fp : List Addr), PE (X.blk s H scope (compEnvC scope cl C X.env) fp) kx tk)
    (he : ∀ (s : Shared) (H : Hp) (C : Addr) (cl : List (Str × Addr)) (fp : List Addr), PE (X.blk s H scope (compEnvC scope cl C X.env) fp) vx tv) (hs : ∀ x, foldedSetIterable iter X.env x = pure x) :
    PS X (.Assign [.Name y py] (.DictComp kx vx [⟨tg, iter, ifs, 0⟩] scope pos) spos) (L2.tAsg (L2.tDc wi g tt tk tv (own.map (·.2))) (L2.gName i)) := by
  refine ⟨fun pins s σ H D I h => ?_⟩
  rw [exec_Assign_Name_used _ _ _ _ hsw]
  refine wpAny_bind (wpAny_standAt (wpAny_bind ?_))
  show wpAny _ X.A (do let _ ← comprehension (.DictComp kx vx [⟨tg, iter, ifs, 0⟩] scope pos) scope X.env (firstIterPos [⟨tg, iter, ifs, 0⟩] pos) newDict false (eval iter X.env) (some (assign (.Name y py) X.env))) _ _ s
  have h : L2.tDc wi g tt tk tv (own.map (·.2)) σ H (fun x H1 => L2.gName i x σ H1 D.nx) := h
  refine wpAny_bind (L2.thn (L2.dc_core (Qf := fun _ s' => L2.SP X pins D .next s') hc hN I hi ok hg ht hk he hs h fun L C s' m H' I' q hn f => ?_) fun _ s' hq => wpAny_pure (wpAny_pure hq))
  show wpAny _ _ (assign (.Name y py) X.env (.ref L)) _ _ _
  refine wpAny_assign_Name (L2.store_ok2 (v := V.ref L) I' hN hy (.inl hyl) rfl (fun s2 I2 ⟨a, sb, ha⟩ => ?_) (.inr hyl))
  obtain ⟨f0, f1, f2, f3, f4, f5⟩ := f
  have haC : C ≠ a := by
    rcases ha with z | z
    · rw [z]; exact f1
    · exact fun e => f4 y a z e.symm
  refine ⟨m, hn.sameBut sb haC, fun h3 sb3 => ?_⟩
  exact ⟨_, H', I2.turned (t' := s2.toks) (fun b o hb e => (sb3.2 b hb).trans e) f0 f1 f3 f4 f5, q⟩
theorem swd_true {kx vx : Expr} {gs : List Comprehension} {scope : Scope} {pos py : Pos} {y : Str} {l : Nat} {env : PySem.Env} (hk : env.scope.kind = .function) (hy : env.scope.names.lookup y = some .local) (hl : (py.line == pos.line) = true)
    (ha : (scope.names.any fun (n, k) => n == y && (k == .local || k == .cell)) = false) : swapsWith (.DictComp kx vx gs scope pos) (some (.Name y py)) l env = pure true := by
  have ky : env.kindOf y = some .local := hy
  have hb : env.blockKind = .function := by unfold PySem.Env.blockKind; rw [hk]; rfl
  unfold swapsWith
  simp only [hb, ky, ha, Expr.pos, hl]
  rfl
theorem ss_asgDc (x : X.calm = true) (nd : X.N.Nodup) {kx vx tgE iter : Expr} {ifs : List Expr} {scope : Scope} {own : List (Str × Nat)} {tg : Tg} {k : Src} {srcs conds : List E} {ke ve : E} {py cp : Pos} {i : Nat} {y : Str} {st : Wb.S} {c : Ctx} (hi : PI X tgE iter (tI T W' k srcs)) (ok : L2.BlkOk X.N X.env.scope scope own) (sub : ∀ j ∈ tg.ixs, j ∈ own.map (·.2))
    (hg : ∀ (s : Shared) (H : Hp) (C : Addr) (cl : List (Str × Addr)) (fp : List Addr), PG (X.blk s H scope (compEnvC scope cl C X.env) fp) tgE (gOf T.K tg))
    (ht : ∀ (s : Shared) (H : Hp) (C : Addr) (cl : List (Str × Addr)) (fp : List Addr), L2.PTs (X.blk s H scope (compEnvC scope cl C X.env) fp) ifs (tC T conds))
    (hk : ∀ (s : Shared) (H : Hp) (C : Addr) (cl : List (Str × Addr)) (fp : List Addr), PE (X.blk s H scope (compEnvC scope cl C X.env) fp) kx (tE T WF .V ke))
    (he : ∀ (s : Shared) (H : Hp) (C : Addr) (cl : List (Str × Addr)) (fp : List Addr), PE (X.blk s H scope (compEnvC scope cl C X.env) fp) vx (tE T WF .V ve))
    (hs : ∀ x, foldedSetIterable iter X.env x = pure x) (hy : X.N[i]? = some y) (h2 : X.env.scope.names.lookup y = some .local) (h1 : swapsWith (.DictComp kx vx [⟨tgE, iter, ifs, 0⟩] scope cp) (some (.Name y py)) pos.line X.env = pure true)
    (hst : ∀ D σ H, tS T W' B st D σ H → tE T W' c (.dc tg k srcs conds ke ve own) σ H fun x H1 => L2.gName i x σ H1 D.nx) : PS X (.Assign [.Name y py] (.DictComp kx vx [⟨tgE, iter, ifs, 0⟩] scope cp) pos) (tS T W' B st) :=
  ps_imp (ps_setDc x nd hy h2 h1 hi ok hg ht hk he hs) fun D σ H z => dc_sem sub σ H _ (hst D σ H z)
theorem ss_asgDcK (x : X.calm = true) (nd : X.N.Nodup) {kx vx tgE iter : Expr} {ifs : List Expr} {scope : Scope} {own : List (Str × Nat)} {tg : Tg} {srcs conds : List E} {ke ve : E} {t : TE} {py cp : Pos} {i : Nat} {y : Str} {st : Wb.S} {c : Ctx} (hi : PE X iter t) (ks : KSrc T W' srcs t) (ok : L2.BlkOk X.N X.env.scope scope own) (sub : ∀ j ∈ tg.ixs, j ∈ own.map (·.2))
    (hg : ∀ (s : Shared) (H : Hp) (C : Addr) (cl : List (Str × Addr)) (fp : List Addr), PG (X.blk s H scope (compEnvC scope cl C X.env) fp) tgE (gOf T.K tg))
    (ht : ∀ (s : Shared) (H : Hp) (C : Addr) (cl : List (Str × Addr)) (fp : List Addr), L2.PTs (X.blk s H scope (compEnvC scope cl C X.env) fp) ifs (tC T conds))
    (hk : ∀ (s : Shared) (H : Hp) (C : Addr) (cl : List (Str × Addr)) (fp : List Addr), PE (X.blk s H scope (compEnvC scope cl C X.env) fp) kx (tE T WF .V ke))
    (he : ∀ (s : Shared) (H : Hp) (C : Addr) (cl : List (Str × Addr)) (fp : List Addr), PE (X.blk s H scope (compEnvC scope cl C X.env) fp) vx (tE T WF .V ve))
    (hs : ∀ x, foldedSetIterable iter X.env x = pure x) (hy : X.N[i]? = some y) (h2 : X.env.scope.names.lookup y = some .local) (h1 : swapsWith (.DictComp kx vx [⟨tgE, iter, ifs, 0⟩] scope cp) (some (.Name y py)) pos.line X.env = pure true)
    (hst : ∀ D σ H, tS T W' B st D σ H → tE T W' c (.dc tg .keys srcs conds ke ve own) σ H fun x H1 => L2.gName i x σ H1 D.nx) : PS X (.Assign [.Name y py] (.DictComp kx vx [⟨tgE, iter, ifs, 0⟩] scope cp) pos) (tS T W' B st) := by
  have z := ps_setDc (spos := pos) x nd hy h2 h1 (L2.pi_keys (tg := tgE) hi) ok hg ht hk he hs
  refine ps_imp (PS.or z (L2.ps_lock z)) fun D σ H q => ?_
  obtain ⟨g, env, S, s, p⟩ := hst D σ H q
  unfold ev srcC at p
  dsimp only at p
  obtain ⟨nx, kk⟩ := ks s
  cases hv : (evs .V srcs env S).bind (itemsR .keys) with
  | bad => rw [hv] at p; exact p.elim
  | exn x fs S' => exact absurd hv (nx x fs S')
  | ok items S' =>
    obtain ⟨e1, kvs, e2, d, kl, l, hr, rr, ex⟩ := kk items S' hv
    subst e1
    rw [hv, R.bind_ok] at p
    have nx2 : ∀ x fs S'', noExn ((dcGo tg (fun env' S' => evc conds env' S') (fun env' S' => ev .V ke env' S') (fun env' S' => ev .V ve env' S') (wipeE env (own.map (·.2))) items [] S').bind fun ws S' => .ok (W.dct ws) S') ≠ .exn x fs S'' := by
      intro x fs S'' h
      generalize (dcGo tg (fun env' S' => evc conds env' S') (fun env' S' => ev .V ke env' S') (fun env' S' => ev .V ve env' S') (wipeE env (own.map (·.2))) items [] S').bind (fun ws S' => R.ok (W.dct ws) S') = r at h
      cases r <;> cases h
    rcases hr with hr | ⟨od, hr⟩
    · refine .inr ⟨d, .dK kl, hr, trivial, fun od => ?_⟩
      have k1 : Lk d od kl H (upd H d (.frz od (.dK kl))) := .lock hr
      show L2.tDc (L2.iKeys t) _ _ _ _ _ _ _ _
      refine keys_R (kvs := kvs) upd_same (fun Q' q => ex _ (fun b n => upd_ne n) Q' q) ?_
      exact dc_rest sub (qq := false) (by simp) (k1.sim l s) (by rw [e2]; exact (it_keys (H0 := H) l upd_same (paired_imp rr fun _ _ z => ⟨z.1, (k1.stay (g := g)).repX z.2⟩)).e) (lock_post hr l nx2 p)
    · refine .inl ?_
      show L2.tDc (L2.iKeys t) _ _ _ _ _ _ _ _
      refine keys_R (kvs := kvs) hr (fun Q' q => ex _ (fun _ _ => rfl) Q' q) ?_
      exact dc_rest sub (qq := false) (by simp) s (by rw [e2]; exact (it_keys (H0 := H) l hr rr).e) p
theorem ss_asgLcK (x : X.calm = true) (nd : X.N.Nodup) {elt tgE iter : Expr} {ifs : List Expr} {scope : Scope} {own : List (Str × Nat)} {tg : Tg} {srcs conds : List E} {elt' : E} {t : TE} {py cp : Pos} {i : Nat} {y : Str} {st : Wb.S} {c : Ctx} (hi : PE X iter t) (ks : KSrc T W' srcs t) (ok : L2.BlkOk X.N X.env.scope scope own) (sub : ∀ j ∈ tg.ixs, j ∈ own.map (·.2))
    (hg : ∀ (s : Shared) (H : Hp) (C : Addr) (cl : List (Str × Addr)) (fp : List Addr), PG (X.blk s H scope (compEnvC scope cl C X.env) fp) tgE (gOf T.K tg))
    (ht : ∀ (s : Shared) (H : Hp) (C : Addr) (cl : List (Str × Addr)) (fp : List Addr), L2.PTs (X.blk s H scope (compEnvC scope cl C X.env) fp) ifs (tC T conds))
    (he : ∀ (s : Shared) (H : Hp) (C : Addr) (cl : List (Str × Addr)) (fp : List Addr), PE (X.blk s H scope (compEnvC scope cl C X.env) fp) elt (tE T WF .V elt'))
    (hs : ∀ x, foldedSetIterable iter X.env x = pure x) (hy : X.N[i]? = some y) (h2 : X.env.scope.names.lookup y = some .local) (h1 : swapsWith (.ListComp elt [⟨tgE, iter, ifs, 0⟩] scope cp) (some (.Name y py)) pos.line X.env = pure true)
    (hst : ∀ D σ H, tS T W' B st D σ H → tE T W' c (.lc tg .keys srcs conds elt' own) σ H fun x H1 => L2.gName i x σ H1 D.nx) : PS X (.Assign [.Name y py] (.ListComp elt [⟨tgE, iter, ifs, 0⟩] scope cp) pos) (tS T W' B st) := by
  have z := L2.ps_setLc (spos := pos) x nd hy h2 h1 (L2.pi_keys (tg := tgE) hi) ok hg ht he hs
  refine ps_imp (PS.or z (L2.ps_lock z)) fun D σ H q => ?_
  obtain ⟨g, env, S, s, p⟩ := hst D σ H q
  unfold ev srcC at p
  dsimp only at p
  obtain ⟨nx, kk⟩ := ks s
  cases hv : (evs .V srcs env S).bind (itemsR .keys) with
  | bad => rw [hv] at p; exact p.elim
  | exn x fs S' => exact absurd hv (nx x fs S')
  | ok items S' =>
    obtain ⟨e1, kvs, e2, d, kl, l, hr, rr, ex⟩ := kk items S' hv
    subst e1
    rw [hv, R.bind_ok] at p
    have nx2 : ∀ x fs S'', noExn ((lcGo tg (fun env' S' => evc conds env' S') (fun env' S' => ev .V elt' env' S') (wipeE env (own.map (·.2))) items [] S').bind fun ws S' => .ok (W.lst ws) S') ≠ .exn x fs S'' := by
      intro x fs S'' h
      generalize (lcGo tg (fun env' S' => evc conds env' S') (fun env' S' => ev .V elt' env' S') (wipeE env (own.map (·.2))) items [] S').bind (fun ws S' => R.ok (W.lst ws) S') = r at h
      cases r <;> cases h
    rcases hr with hr | ⟨od, hr⟩
    · refine .inr ⟨d, .dK kl, hr, trivial, fun od => ?_⟩
      have k1 : Lk d od kl H (upd H d (.frz od (.dK kl))) := .lock hr
      show L2.tLc (L2.iKeys t) _ _ _ _ _ _ _
      refine keys_R (kvs := kvs) upd_same (fun Q' q => ex _ (fun b n => upd_ne n) Q' q) ?_
      exact lc_rest sub (qq := false) (by simp) (k1.sim l s) (by rw [e2]; exact (it_keys (H0 := H) l upd_same (paired_imp rr fun _ _ z => ⟨z.1, (k1.stay (g := g)).repX z.2⟩)).e) (lock_post hr l nx2 p)
    · refine .inl ?_
      show L2.tLc (L2.iKeys t) _ _ _ _ _ _ _
      refine keys_R (kvs := kvs) hr (fun Q' q => ex _ (fun _ _ => rfl) Q' q) ?_
      exact lc_rest sub (qq := false) (by simp) s (by rw [e2]; exact (it_keys (H0 := H) l hr rr).e) p
end
end Wb

namespace Wb
open PySem PySem.Spec PyProof.Rows
open L2 (V Hp HO Rd upd upd_same upd_ne SqL SqT VK TE TT TA TS TG TI TO Ends WX XK R2 Cx Inv RelV Vals ne_of_none PE PT PA PS PSs PG PI OpR UnR CallR MtR Gl Vis Loc)
theorem Stay.trans {g g1 g2 : Gh} {H H1 H2 : Hp} (a : Stay g H g1 H1) (b : Stay g1 H1 g2 H2) (h : ∀ p, H p ≠ none → H1 p ≠ none) : Stay g H g2 H2 := by
  refine ⟨fun p l n => b.frz p (a.frz p l n) (h p n), fun p u n l r => b.rd p u n (a.frz p l (rd_some r)) (a.rd p u n l r), fun p C dx fs l e => b.ins p C dx fs (a.frz p l (by rw [e]; simp)) (a.ins p C dx fs l e), fun m l => ?_⟩
  obtain ⟨i1, l1⟩ := a.cel m l
  obtain ⟨i2, l2⟩ := b.cel m (by rw [i1]; exact l1)
  rw [i1] at i2 l2
  exact ⟨i2, l2⟩
section
variable {T : Tx} {W' : WX} {g : Gh} {env : Env} {S : Store} {σ : L2.St} {H : Hp}
/-- the heap with a new instance -/
def hNew (H : Hp) (x dx C : Addr) : Hp := upd (upd H dx (.own x)) x (.ins C dx [])
theorem hNew_x {x dx C : Addr} : hNew H x dx C x = some (.ins C dx []) := upd_same
theorem hNew_ne {x dx C a : Addr} (h1 : a ≠ x) (h2 : a ≠ dx) : hNew H x dx C a = H a := by
  unfold hNew
  rw [upd_ne h1, upd_ne h2]
theorem hNew_old {x dx C a : Addr} (hx : H x = none) (hd : H dx = none) (h : H a ≠ none) : hNew H x dx C a = H a := hNew_ne (fun z => h (by rw [z]; exact hx)) (fun z => h (by rw [z]; exact hd))
theorem hNew_none {x dx C a : Addr} (h : hNew H x dx C a = none) : H a = none ∧ a ≠ x := by
  have n1 : a ≠ x := fun z => by rw [z, hNew_x] at h; cases h
  have n2 : a ≠ dx := fun z => by
    unfold hNew at h
    rw [upd_ne n1, z, upd_same] at h
    cases h
  rw [hNew_ne n1 n2] at h
  exact ⟨h, n1⟩
/-- the labels with a new cell -/
def Gh.newc (g : Gh) (x : Addr) (n : Nat) : Gh := ⟨fun a => if a = x then .cell n else g.L a, fun m => if m = n then x else g.ι m⟩
theorem newc_same {x : Addr} {n : Nat} : (g.newc x n).L x = .cell n := if_pos rfl
theorem newc_ne {x a : Addr} {n : Nat} (h : a ≠ x) : (g.newc x n).L a = g.L a := if_neg h
theorem newc_i {x : Addr} {n : Nat} : (g.newc x n).ι n = x := if_pos rfl
theorem newc_in {x : Addr} {n m : Nat} (h : m ≠ n) : (g.newc x n).ι m = g.ι m := if_neg h
theorem exts_newc (s : SimC T g H S) {x dx C : Addr} (hx : H x = none) (hd : H dx = none) : ExtS g H (g.newc x S.length) (hNew H x dx C) := by
  refine ⟨fun a n _ => ⟨newc_ne fun z => n (by rw [z]; exact hx), hNew_old hx hd n⟩, fun m l => ?_, fun a n => by rw [hNew_old hx hd n]; exact n, fun a i n l => ⟨i, ?_⟩⟩
  · have hm : m ≠ S.length := Nat.ne_of_lt (s.fin _ _ l)
    refine ⟨newc_in hm, ?_⟩
    rw [newc_ne fun z => by rw [z, s.wf x hx] at l; cases l]
    exact l
  · rwa [newc_ne fun z => n (by rw [z]; exact hx)] at l
theorem at_cons {b : Bool} {own : List Bool} {w : W} {ws : List W} (hl : own.length = ws.length) : env0 (b :: own).length (b :: own) (w :: ws) = some ((if b then Flag.o else Flag.v), w) :: env0 own.length own ws := by
  unfold env0
  rw [List.zip_cons_cons, List.map_cons, List.length_cons, List.length_cons, hl]
  simp
/-- at __init__'s entry, the object a cell -/
theorem sim_mk (s : SimC T g H S) {cl : Str} (hC : L2.Cls T.K (T.ca cl)) {x dx : Addr} (hx : H x = none) (hd : H dx = none) {vs : List V} {ws : List W} {own : List Bool} (r : Paired (RepX T g H) vs ws) (hl : own.length = ws.length) (ho : (own.all fun b => !b) = true) :
    Sim T (g.clean.newc x S.length) (hNew H x dx (T.ca cl)) (env0 (false :: own).length (false :: own) (.ref S.length :: ws)) (S ++ [⟨cl, []⟩]) ((V.ref x :: vs).map some) := by
  have sc := s.clean
  have e0 := exts_newc (C := T.ca cl) sc hx hd
  have st : Stay g H (g.clean.newc x S.length) (hNew H x dx (T.ca cl)) := stay_clean.trans e0.stay fun _ h => h
  have sa := sim_args s r hl ho
  refine ⟨fun a h => ?_, ?_, fun i fl w h => ?_, fun n c hc => ?_, fun a n h => ?_⟩
  · obtain ⟨h1, h2⟩ := hNew_none h
    rw [newc_ne h2]
    exact sc.wf a h1
  · rw [at_cons hl, List.length_cons, sa.len]
    simp
  · rw [at_cons hl] at h
    cases i with
    | zero =>
      cases h
      exact ⟨.ref x, rfl, 1, by rw [newc_i], by rw [newc_i]; exact newc_same⟩
    | succ i =>
      have h' : (env0 own.length own ws).at i = some (fl, w) := h
      have z := sa.slots i fl w h'
      have hfl : fl = .v := by
        -- no own ones
        unfold Env.at env0 at h'
        rw [hl, Nat.sub_self] at h'
        simp only [List.replicate_zero, List.append_nil, List.getElem?_map] at h'
        cases q : (own.zip ws)[i]? with
        | none => rw [q] at h'; cases h'
        | some pr =>
          rw [q] at h'
          have hb := List.all_eq_true.mp ho pr.1 (List.of_mem_zip (List.mem_of_getElem? q)).1
          have hb' : pr.1 = false := by simpa using hb
          cases h'
          rw [hb']
          rfl
      subst hfl
      obtain ⟨v, e1, rr⟩ := z
      exact ⟨v, e1, e0.stay.repX rr⟩
  · by_cases hn : n < S.length
    · rw [List.getElem?_append_left hn] at hc
      exact cell_stay e0.stay (fun a _ ha => ⟨newc_ne fun z => ha (by rw [z]; exact hx), hNew_old hx hd ha⟩) (sc.cells n c hc)
    · have hn' : n = S.length := by
        have := (List.getElem?_eq_some_iff.mp hc).1
        simp at this
        omega
      subst hn'
      rw [List.getElem?_append_right (Nat.le_refl _)] at hc
      simp at hc
      subst hc
      exact ⟨by rw [newc_i]; exact newc_same, dx, [], ⟨by rw [newc_i]; exact hNew_x, hC, fun f hf => (by simp at hf), by simp, by simp⟩, .nil⟩
  · rw [List.length_append, List.length_singleton]
    by_cases e : a = x
    · rw [e, newc_same] at h
      cases h
      exact Nat.lt_succ_self _
    · rw [newc_ne e] at h
      exact Nat.lt_succ_of_lt (sc.fin a n h)
/-- what __init__'s promise gives, the object a cell -/
theorem spf_mk {f : Fn} {cl : Str} {own : List Bool} (ho : f.own = false :: own) (hp : (own.all fun b => !b) = true) (hfr : f.fresh = false) (hC : L2.Cls T.K (T.ca cl)) (s : Sim T g H env S σ) {vs : List V} {ws : List W} (r : Paired (RepX T g H) vs ws) (hl : own.length = ws.length) {c : Ctx} (hc : c ≠ .F) {Q : V → Hp → Prop}
    (p : Post T W' false (Res T c) g env σ H ((f.sem (S ++ [⟨cl, []⟩]) (.ref S.length :: ws)).bind fun r S' => match r.1 with | .non => .ok (.ref S.length) S' | _ => .bad) Q) {x dx : Addr} (hx : H x = none) (hd : H dx = none) :
    spF T f (.ref x :: vs) (hNew H x dx (T.ca cl)) (fun v H2 => v = .non ∧ Q (.ref x) H2) (L2.WE W' σ) := by
  have hlv : vs.length = own.length := by rw [r.length, hl]
  refine ⟨g.clean.newc x S.length, S ++ [⟨cl, []⟩], .ref S.length :: ws, by rw [ho, List.length_cons, List.length_cons, hlv], by rw [ho, List.length_cons, List.length_cons, hl], by rw [ho]; exact sim_mk s.c hC hx hd r hl hp, fun a i z => ?_, ?_⟩
  · exfalso
    by_cases e : a = x
    · rw [e, newc_same] at z; cases z
    · rw [newc_ne e] at z
      have z' : cleanL (g.L a) = .slot i := z
      cases q : g.L a <;> rw [q] at z' <;> cases z'
  have e0 := exts_newc (C := T.ca cl) s.c.clean hx hd
  cases hs : f.sem (S ++ [⟨cl, []⟩]) (.ref S.length :: ws) with
  | bad => rw [hs] at p; exact p
  | ok rr S' =>
    rw [hs] at p
    intro y g' H' e sc rt fin
    have ee : ExtS g.clean H g' H' := e0.trans e
    have z : Ext false g H (g.back H g') H' := ext_back s.wf ee
    have sb := sim_back s ee sc
    unfold RetOk at rt
    rw [hfr, if_neg Bool.false_ne_true] at rt
    rw [R.bind_ok] at p
    obtain ⟨rw', fs⟩ := rr
    dsimp only at p rt
    cases rw' with
    | non =>
      refine ⟨non_inv rt, ?_⟩
      have rx : RepX T (g.clean.newc x S.length) (hNew H x dx (T.ca cl)) (.ref x) (.ref S.length) := ⟨1, by rw [newc_i], by rw [newc_i]; exact newc_same⟩
      exact p (.ref x) _ H' z sb (res_val hc ((stay_back ee).repX (e.stay.repX rx)))
    | _ => exact p.elim
  | exn cc fs S' =>
    rw [hs] at p
    intro d g' H' e sc ex
    have ee : ExtS g.clean H g' H' := e0.trans e
    refine p d (g.back H g') H' (ext_back s.wf ee) (sim_back s ee sc) ?_
    obtain ⟨gs, h1, h2⟩ := ex
    exact ⟨gs, h1, paired_imp h2 fun _ _ z => ⟨z.1, (stay_back ee).repX z.2⟩⟩
/-- at __init__'s entry, the object one's own -/
theorem sim_mkF (s : SimC T g H S) {cl : Str} (hC : L2.Cls T.K (T.ca cl)) {x dx : Addr} (hx : H x = none) (hd : H dx = none) {vs : List V} {ws : List W} {own : List Bool} (r : Paired (RepX T g H) vs ws) (hl : own.length = ws.length) (ho : (own.all fun b => !b) = true) :
    Sim T (g.clean.lab x (.slot 0)) (hNew H x dx (T.ca cl)) (env0 (true :: own).length (true :: own) (.ins cl [] :: ws)) S ((V.ref x :: vs).map some) ∧ ExtS g.clean H (g.clean.lab x (.slot 0)) (hNew H x dx (T.ca cl)) := by
  have sc := s.clean
  have nx : ∀ a, H a ≠ none → a ≠ x := fun a n z => n (by rw [z]; exact hx)
  have e0 : ExtS g.clean H (g.clean.lab x (.slot 0)) (hNew H x dx (T.ca cl)) := by
    refine ⟨fun a n _ => ⟨lab_ne (nx a n), hNew_old hx hd n⟩, fun m l => ⟨rfl, ?_⟩, fun a n => by rw [hNew_old hx hd n]; exact n, fun a i n l => ⟨i, ?_⟩⟩
    · show (g.clean.lab x (.slot 0)).L (g.clean.ι m) = _
      rw [lab_ne fun z => by rw [z, sc.wf x hx] at l; cases l]
      exact l
    · rwa [lab_ne (nx a n)] at l
  have sa := sim_args s r hl ho
  refine ⟨⟨fun a h => ?_, ?_, fun i fl w h => ?_, fun n c hc => cell_stay e0.stay (fun a _ ha => ⟨lab_ne (nx a ha), hNew_old hx hd ha⟩) (sc.cells n c hc), fun a n h => sc.fin a n (lab_cell (by intro n h; cases h) h)⟩, e0⟩
  · obtain ⟨h1, h2⟩ := hNew_none h
    rw [lab_ne h2]
    exact sc.wf a h1
  · rw [at_cons hl, List.length_cons, sa.len]
    simp
  · rw [at_cons hl] at h
    cases i with
    | zero =>
      cases h
      exact ⟨x, rfl, lab_same, dx, [], ⟨hNew_x, hC, fun f hf => (by simp at hf), by simp, by simp⟩, .nil⟩
    | succ i =>
      have h' : (env0 own.length own ws).at i = some (fl, w) := h
      have z := sa.slots i fl w h'
      have hfl : fl = .v := by
        unfold Env.at env0 at h'
        rw [hl, Nat.sub_self] at h'
        simp only [List.replicate_zero, List.append_nil, List.getElem?_map] at h'
        cases q : (own.zip ws)[i]? with
        | none => rw [q] at h'; cases h'
        | some pr =>
          rw [q] at h'
          have hb := List.all_eq_true.mp ho pr.1 (List.of_mem_zip (List.mem_of_getElem? q)).1
          have hb' : pr.1 = false := by simpa using hb
          cases h'
          rw [hb']
          rfl
      subst hfl
      obtain ⟨v, e1, rr⟩ := z
      exact ⟨v, e1, e0.stay.repX rr⟩
theorem fin_vals {g' : Gh} {H' : Hp} {i : Nat} {own : List Bool} {vs : List V} {fs : List W} (h : FinOk T g' H' i own vs fs) (ho : (own.all fun b => !b) = true) : fs = [] := by
  induction h with
  | nil => rfl
  | own _ _ _ _ => rw [List.all_cons] at ho; cases ho
  | val _ ih => rw [List.all_cons, Bool.and_eq_true] at ho; exact ih ho.2
theorem spf_mkF {f : Fn} {cl : Str} {own : List Bool} (ho : f.own = true :: own) (hp : (own.all fun b => !b) = true) (hfr : f.fresh = false) (hC : L2.Cls T.K (T.ca cl)) (s : Sim T g H env S σ) {vs : List V} {ws : List W} (r : Paired (RepX T g H) vs ws) (hl : own.length = ws.length) {c : Ctx} {Q : V → Hp → Prop}
    (p : Post T W' false (Res T c) g env σ H ((f.sem S (.ins cl [] :: ws)).bind fun r S' => match r with | (.non, [w]) => .ok w S' | _ => .bad) Q) {x dx : Addr} (hx : H x = none) (hd : H dx = none) :
    spF T f (.ref x :: vs) (hNew H x dx (T.ca cl)) (fun v H2 => v = .non ∧ Q (.ref x) H2) (L2.WE W' σ) := by
  have hlv : vs.length = own.length := by rw [r.length, hl]
  obtain ⟨sm, e0⟩ := sim_mkF s.c hC hx hd r hl hp
  refine ⟨g.clean.lab x (.slot 0), S, .ins cl [] :: ws, by rw [ho, List.length_cons, List.length_cons, hlv], by rw [ho, List.length_cons, List.length_cons, hl], by rw [ho]; exact sm, fun a i z => ?_, ?_⟩
  · by_cases e : a = x
    · rw [e, lab_same] at z
      cases z
      rw [ho]
      rfl
    · exfalso
      rw [lab_ne e] at z
      have z' : cleanL (g.L a) = .slot i := z
      cases q : g.L a <;> rw [q] at z' <;> cases z'
  cases hs : f.sem S (.ins cl [] :: ws) with
  | bad => rw [hs] at p; exact p
  | ok rr S' =>
    rw [hs] at p
    intro y g' H' e sc rt fin
    have ee : ExtS g.clean H g' H' := e0.trans e
    have z : Ext false g H (g.back H g') H' := ext_back s.wf ee
    have sb := sim_back s ee sc
    unfold RetOk at rt
    rw [hfr, if_neg Bool.false_ne_true] at rt
    rw [R.bind_ok] at p
    obtain ⟨rw', fs⟩ := rr
    dsimp only at p rt fin
    rw [ho] at fin
    cases fin with
    | @own _ _ _ fs' _ w l o rfin =>
      have hfs := fin_vals rfin hp
      subst hfs
      cases rw' with
      | non =>
        refine ⟨non_inv rt, ?_⟩
        refine res_fresh hx z sb ?_ (o.stay (stay_back ee) rfl) p
        rw [back_none hx]
        show cleanL (g'.L x) = .out
        rw [l]
        rfl
      | _ => exact p.elim
  | exn cc fs S' =>
    rw [hs] at p
    intro d g' H' e sc ex
    have ee : ExtS g.clean H g' H' := e0.trans e
    refine p d (g.back H g') H' (ext_back s.wf ee) (sim_back s ee sc) ?_
    obtain ⟨gs, h1, h2⟩ := ex
    exact ⟨gs, h1, paired_imp h2 fun _ _ z => ⟨z.1, (stay_back ee).repX z.2⟩⟩
end
/-- a class that is made, and its __init__ -/
def MkK (T : Tx) (f : Fn) (cl : Str) : Prop := ∃ a fd ps, T.mg cl = some (.ref (T.ca cl)) ∧ L2.Cls T.K (T.ca cl) ∧ L2.Mk T.K (T.ca cl) a ∧ FOK T f a fd ps ∧ f.dfl = []
section
variable {X : Cx} {T : Tx} {W' : WX} {c : Ctx} {pos p : Pos}
theorem se_mk (G : XG X T) (tk : L2.Takes X W') {f : Fn} {cl : Str} {e : Expr} {es : List Expr} {es' : List E} {n : Nat} {own : List Bool} (M : MkK T f cl) (ho : f.own = false :: own) (hp : (own.all fun b => !b) = true) (hfr : f.fresh = false) (hr : L2.Room n X.A) (hn : f.lvl + 1 ≤ n) (hg : Gl X cl) (hd : (cl == ("__debug__" : Str)) = false)
    (he : PA X (e :: es) (tA T W' .V es')) (ok : okx e = true) (oks : okxs es = true) (hln : es'.length = own.length) : PE X (.Call (.Name cl p) (e :: es) [] pos) (tE T W' c (.mk cl f es')) := by
  obtain ⟨a, fd, ps, hm, hC, hM, F, hdf⟩ := M
  obtain ⟨ds, dvs, hb, hv, rv⟩ := F.dv 0 (Nat.zero_le _)
  have hdv : f.dv 0 = [] := by unfold Fn.dv; rw [hdf]; rfl
  rw [hdv] at rv
  cases rv
  cases hv
  rw [← G.eK] at hM hb
  rw [← G.eM] at hm
  have z := L2.pe_makeSD (p := p) (pos := pos) (E := L2.WE W') hM (f_ok G F) (hr.mono hn) hg hm hb .nil (L2.passAt tk) he hd (star_cons ok es) (star_none oks pos)
  refine pe_imp z fun σ H Q ⟨g, env, S, s, p⟩ => ?_
  unfold ev at p
  refine ⟨g, env, S, s, Post.bind (qa := quiets es') (qb := false) bm_res (by simp [quiet]) p fun av S1 xs g1 H1 ea e1 s1 r1 p1 => ?_⟩
  have r := resA_V r1
  split at p1
  · exact p1.elim
  · rename_i hc
    intro x dx hx hdx hne
    rw [List.append_nil]
    exact spf_mk ho hp hfr hC s1 r (by rw [evs_len ea]; exact hln.symm) hc p1 hx hdx
theorem se_mkF (G : XG X T) (tk : L2.Takes X W') {f : Fn} {cl : Str} {e : Expr} {es : List Expr} {es' : List E} {n : Nat} {own : List Bool} (M : MkK T f cl) (ho : f.own = true :: own) (hp : (own.all fun b => !b) = true) (hfr : f.fresh = false) (hr : L2.Room n X.A) (hn : f.lvl + 1 ≤ n) (hg : Gl X cl) (hd : (cl == ("__debug__" : Str)) = false)
    (he : PA X (e :: es) (tA T W' .V es')) (ok : okx e = true) (oks : okxs es = true) (hln : es'.length = own.length) : PE X (.Call (.Name cl p) (e :: es) [] pos) (tE T W' c (.mkF cl f es')) := by
  obtain ⟨a, fd, ps, hm, hC, hM, F, hdf⟩ := M
  obtain ⟨ds, dvs, hb, hv, rv⟩ := F.dv 0 (Nat.zero_le _)
  have hdv : f.dv 0 = [] := by unfold Fn.dv; rw [hdf]; rfl
  rw [hdv] at rv
  cases rv
  cases hv
  rw [← G.eK] at hM hb
  rw [← G.eM] at hm
  have z := L2.pe_makeSD (p := p) (pos := pos) (E := L2.WE W') hM (f_ok G F) (hr.mono hn) hg hm hb .nil (L2.passAt tk) he hd (star_cons ok es) (star_none oks pos)
  refine pe_imp z fun σ H Q ⟨g, env, S, s, p⟩ => ?_
  unfold ev at p
  refine ⟨g, env, S, s, Post.bind (qa := quiets es') (qb := false) bm_res (by simp [quiet]) p fun av S1 xs g1 H1 ea e1 s1 r1 p1 => ?_⟩
  have r := resA_V r1
  intro x dx hx hdx hne
  rw [List.append_nil]
  exact spf_mkF ho hp hfr hC s1 r (by rw [evs_len ea]; exact hln.symm) p1 hx hdx
end
end Wb

namespace Wb
open PySem PySem.Spec PyProof.Rows
open L2 (V Hp HO Rd upd upd_same upd_ne SqL SqT VK TE TT TA TS TG TI TO Ends WX XK R2 Cx Inv RelV Vals ne_of_none PE PT PA PS PSs PG PI OpR UnR CallR MtR Gl Vis Loc)
theorem upd_keys (f : Str) (x : Flag × W) : ∀ fs : List (Str × (Flag × W)), (updF f x fs).map (·.1) = if f ∈ fs.map (·.1) then fs.map (·.1) else fs.map (·.1) ++ [f]
  | [] => by simp [updF]
  | (k, y) :: r => by
    unfold updF
    by_cases hk : k = f
    · rw [if_pos hk, if_pos (by rw [hk]; simp)]
      rfl
    · rw [if_neg hk, List.map_cons, upd_keys f x r, List.map_cons]
      by_cases hm : f ∈ r.map (·.1)
      · rw [if_pos hm, if_pos (List.mem_cons_of_mem _ hm)]
      · rw [if_neg hm, if_neg (by rw [List.mem_cons, not_or]; exact ⟨fun z => hk z.symm, hm⟩)]
        rfl
theorem upd_nd (f : Str) (x : Flag × W) {fs : List (Str × (Flag × W))} (h : (fs.map (·.1)).Nodup) : ((updF f x fs).map (·.1)).Nodup := by
  rw [upd_keys]
  split
  · exact h
  · rename_i hm
    rw [List.nodup_append]
    exact ⟨h, by simp, fun a ha b hb => by rw [List.mem_singleton.mp hb]; exact fun z => hm (by rw [← z]; exact ha)⟩
/-- a field's container is another one -/
theorem chg_fld {F F' : Str → V → Flag × W → Prop} {f : Str} {x : V} {y : Flag × W} (hF : ∀ f' v q, f' ≠ f → F f' v q → F' f' v q) (hn : F' f x y) : ∀ {gs : List (Str × V)} {fs : List (Str × (Flag × W))}, Paired (fun (p : Str × V) (q : Str × (Flag × W)) => p.1 = q.1 ∧ F p.1 p.2 q.2) gs fs → (fs.map (·.1)).Nodup → gs.lookup f = some x → f ∈ fs.map (·.1) →
    Paired (fun (p : Str × V) (q : Str × (Flag × W)) => p.1 = q.1 ∧ F' p.1 p.2 q.2) gs (updF f y fs) := by
  intro gs fs h
  induction h with
  | nil => intro _ _ hm; simp at hm
  | @cons p q gs fs r rr ih =>
    intro nd hv hm
    obtain ⟨pf, pv⟩ := p
    obtain ⟨qf, qw⟩ := q
    obtain ⟨e1, r⟩ := r
    dsimp only at e1 r
    subst e1
    rw [L2.lookup_put] at hv
    rw [List.map_cons, List.nodup_cons] at nd
    unfold updF
    by_cases hk : pf = f
    · subst hk
      rw [if_pos rfl] at hv ⊢
      cases hv
      refine .cons ⟨rfl, hn⟩ ?_
      have nm := nd.1
      clear ih hm nd
      induction rr with
      | nil => exact .nil
      | @cons p2 q2 _ _ r2 _ ih2 =>
        rw [List.map_cons, List.mem_cons, not_or] at nm
        exact .cons ⟨r2.1, hF _ _ _ (by rw [r2.1]; exact fun z => nm.1 z.symm) r2.2⟩ (ih2 nm.2)
    · rw [if_neg hk]
      rw [if_neg (fun z => hk z.symm)] at hv
      rw [List.map_cons] at hm
      rcases List.mem_cons.mp hm with e | e
      · exact absurd e.symm hk
      · exact .cons ⟨rfl, hF _ _ _ hk r⟩ (ih nd.2 hv e)
theorem upd_names (f : Str) (x : Flag × W) : ∀ fs : List (Str × (Flag × W)), (∀ g ∈ (updF f x fs).map (·.1), g = f ∨ g ∈ fs.map (·.1)) ∧ (updF f x fs).length ≤ fs.length + 1 ∧ (f ∈ fs.map (·.1) → (updF f x fs).length = fs.length)
  | [] => ⟨fun g hg => by simp [updF] at hg; exact .inl hg, by simp [updF], fun h => by simp at h⟩
  | (k, y) :: r => by
    obtain ⟨i1, i2, i3⟩ := upd_names f x r
    unfold updF
    by_cases hk : k = f
    · rw [if_pos hk]
      exact ⟨fun g hg => .inr hg, by simp, fun _ => by simp⟩
    · rw [if_neg hk]
      refine ⟨fun g hg => ?_, by simp; omega, fun h => ?_⟩
      · rw [List.map_cons] at hg ⊢
        rcases List.mem_cons.mp hg with e | e
        · exact .inr (List.mem_cons.mpr (.inl e))
        · rcases i1 g e with e | e
          · exact .inl e
          · exact .inr (List.mem_cons_of_mem _ e)
      · rw [List.map_cons] at h
        rcases List.mem_cons.mp h with e | e
        · exact absurd e.symm hk
        · rw [List.length_cons, List.length_cons, i3 e]
theorem upd_insK {T : Tx} {cl f : Str} {x : Flag × W} {c : Cell} {S : Store} {n : Nat} (hs : S[n]? = some c) (hb : cellB S n cl f = true) (hn : L2.NoAttr T.K (T.ca cl) f) (k : InsK T c.cls (c.fs.map (·.1))) : c.cls = cl ∧ InsK T c.cls ((updF f x c.fs).map (·.1)) := by
  unfold cellB at hb
  rw [hs] at hb
  dsimp only at hb
  rw [Bool.and_eq_true, decide_eq_true_eq, Bool.or_eq_true, decide_eq_true_eq, decide_eq_true_eq] at hb
  obtain ⟨hc, hb⟩ := hb
  obtain ⟨u1, u2, u3⟩ := upd_names f x c.fs
  have kl := k.len
  rw [List.length_map] at kl
  refine ⟨hc, k.cls, fun g hg => ?_, ?_, upd_nd f x k.nd⟩
  · rcases u1 g hg with e | e
    · rw [e, hc]; exact hn
    · exact k.na g e
  · rw [List.length_map]
    rcases hb with hb | hb
    · rw [u3 hb]; exact kl
    · omega
theorem put_fld {T : Tx} {g : Gh} {H : Hp} {n : Nat} {f : Str} {y : V} {fl : Flag} {w : W} (hy : FldOk T g H n f y fl w) : ∀ {gs : List (Str × V)} {fs : List (Str × (Flag × W))}, Paired (fun (p : Str × V) (q : Str × (Flag × W)) => p.1 = q.1 ∧ FldOk T g H n p.1 p.2 q.2.1 q.2.2) gs fs →
    Paired (fun (p : Str × V) (q : Str × (Flag × W)) => p.1 = q.1 ∧ FldOk T g H n p.1 p.2 q.2.1 q.2.2) (L2.putF f y gs) (updF f (fl, w) fs) := by
  intro gs fs h
  induction h with
  | nil => exact .cons ⟨rfl, hy⟩ .nil
  | @cons p q gs fs r rr ih =>
    obtain ⟨pf, pv⟩ := p
    obtain ⟨qf, qw⟩ := q
    obtain ⟨e1, r⟩ := r
    dsimp only at e1 r
    subst e1
    unfold L2.putF updF
    by_cases hk : pf = f
    · rw [if_pos hk, if_pos hk]
      refine .cons ⟨rfl, ?_⟩ rr
      dsimp only
      rw [hk]
      exact hy
    · rw [if_neg hk, if_neg hk]
      exact .cons ⟨rfl, r⟩ ih
section
variable {T : Tx} {W' : WX} {g : Gh} {env : Env} {S : Store} {σ : L2.St} {H : Hp}
theorem setF_at {S : Store} {n m : Nat} {f : Str} {x : Flag × W} : (S.setF n f x)[m]? = if n = m then S[m]?.map (fun c => ⟨c.cls, updF f x c.fs⟩) else S[m]? := by
  unfold Store.setF
  rw [List.getElem?_modify]
  by_cases h : n = m
  · rw [if_pos h]
    cases S[m]? <;> simp [h]
  · rw [if_neg h]
    cases S[m]? <;> simp [h]
theorem setF_len {S : Store} {n : Nat} {f : Str} {x : Flag × W} : (S.setF n f x).length = S.length := by unfold Store.setF; rw [List.length_modify]
/-- a field of a cell is set -/
theorem Sim.setc (s : Sim T g H env S σ) {n : Nat} {c : Cell} (hs : S[n]? = some c) {f : Str} {fl : Flag} {w : W} {y : V} {dx : Addr} {gs : List (Str × V)} (hx : H (g.ι n) = some (.ins (T.ca c.cls) dx gs)) (hp : Paired (fun (p : Str × V) (q : Str × (Flag × W)) => p.1 = q.1 ∧ FldOk T g H n p.1 p.2 q.2.1 q.2.2) gs c.fs)
    (hk : InsK T c.cls ((updF f (fl, w) c.fs).map (·.1))) (hy : FldOk T g H n f y fl w) :
    Sim T g (upd H (g.ι n) (.ins (T.ca c.cls) dx (L2.putF f y gs))) env (S.setF n f (fl, w)) σ ∧ ExtS g H g (upd H (g.ι n) (.ins (T.ca c.cls) dx (L2.putF f y gs))) := by
  obtain ⟨ll, _⟩ := s.cells n c hs
  have st : Stay g H g (upd H (g.ι n) (.ins (T.ca c.cls) dx (L2.putF f y gs))) := stay_nf (by rw [ll]; simp)
  have fst : ∀ {m f' v fl' w'}, FldOk T g H m f' v fl' w' → FldOk T g (upd H (g.ι n) (.ins (T.ca c.cls) dx (L2.putF f y gs))) m f' v fl' w' := by
    intro m f' v fl' w' h
    cases fl' with
    | v => exact st.repX h
    | o =>
      obtain ⟨a, e, l, o⟩ := h
      exact ⟨a, e, l, o.stay st (upd_ne fun z => by rw [z, ll] at l; cases l)⟩
    | k =>
      obtain ⟨a, e, l, o⟩ := h
      exact ⟨a, e, l, o.stay st (upd_ne fun z => by rw [z, ll] at l; cases l)⟩
  refine ⟨⟨fun a h => ?_, s.len, fun i fl' w' h => ?_, fun m c' hc => ?_, fun a m h => by rw [setF_len]; exact s.fin a m h⟩, ⟨fun a hn pp => ⟨rfl, upd_ne fun z => ?_⟩, fun m h => ⟨rfl, h⟩, fun a hn => ?_, fun a i _ h => ⟨i, h⟩⟩⟩
  · by_cases e : a = g.ι n
    · rw [e, upd_same] at h; cases h
    · rw [upd_ne e] at h; exact s.wf a h
  · have z := s.slots i fl' w' h
    cases fl' with
    | v => obtain ⟨x, q1, q2⟩ := z; exact ⟨x, q1, st.repX q2⟩
    | o => obtain ⟨b, q1, q2, q3⟩ := z; exact ⟨b, q1, q2, q3.stay st (upd_ne fun z => by rw [z, ll] at q2; cases q2)⟩
    | k => obtain ⟨b, q1, q2, q3⟩ := z; exact ⟨b, q1, q2, q3.stay st (upd_ne fun z => by rw [z, ll] at q2; cases q2)⟩
  · rw [setF_at] at hc
    by_cases e : n = m
    · subst e
      rw [if_pos rfl, hs] at hc
      cases hc
      exact ⟨ll, dx, _, ⟨upd_same, hk⟩, paired_imp (put_fld hy hp) fun p q z => ⟨z.1, fst z.2⟩⟩
    · rw [if_neg e] at hc
      refine cell_stay st (fun a la ha => ⟨rfl, upd_ne fun z => ?_⟩) (s.cells m c' hc)
      rw [z, ll] at la
      rcases la with la | ⟨f', la⟩
      · cases la; exact e rfl
      · cases la
  · rw [z, ll] at pp
    rcases pp with pp | pp <;> cases pp
  · by_cases e : a = g.ι n
    · rw [e, upd_same]; simp
    · rw [upd_ne e]; exact hn
/-- a container in a field is changed -/
theorem Sim.chgF (s : Sim T g H env S σ) {n : Nat} {c : Cell} (hs : S[n]? = some c) {f : Str} {w w' : W} {b : Addr} {o : HO} {dx : Addr} {gs : List (Str × V)} (hx : H (g.ι n) = some (.ins (T.ca c.cls) dx gs)) (hp : Paired (fun (p : Str × V) (q : Str × (Flag × W)) => p.1 = q.1 ∧ FldOk T g H n p.1 p.2 q.2.1 q.2.2) gs c.fs)
    (hf : c.fs.lookup f = some (.o, w)) (hv : gs.lookup f = some (.ref b)) (hl : g.L b = .fld n f) (hn : H b ≠ none) (ow : Own T g (upd H b o) .o b w') :
    Sim T g (upd H b o) env (S.setF n f (.o, w')) σ ∧ ExtS g H g (upd H b o) := by
  obtain ⟨ll, _, _, hx', _⟩ := s.cells n c hs
  have st : Stay g H g (upd H b o) := stay_nf (by rw [hl]; simp)
  have nb : ∀ {a : Addr} {l : Lab}, g.L a = l → l ≠ .fld n f → a ≠ b := fun h hne z => hne (by rw [← h, z, hl])
  refine ⟨⟨fun a h => ?_, s.len, fun i fl' u h => ?_, fun m c' hc => ?_, fun a m h => by rw [setF_len]; exact s.fin a m h⟩, ⟨fun a hn' pp => ⟨rfl, upd_ne fun z => ?_⟩, fun m h => ⟨rfl, h⟩, fun a hn' => ?_, fun a i _ h => ⟨i, h⟩⟩⟩
  · by_cases e : a = b
    · rw [e, upd_same] at h; cases h
    · rw [upd_ne e] at h; exact s.wf a h
  · have z := s.slots i fl' u h
    cases fl' with
    | v => obtain ⟨x, q1, q2⟩ := z; exact ⟨x, q1, st.repX q2⟩
    | o => obtain ⟨a, q1, q2, q3⟩ := z; exact ⟨a, q1, q2, q3.stay st (upd_ne (nb q2 (by simp)))⟩
    | k => obtain ⟨a, q1, q2, q3⟩ := z; exact ⟨a, q1, q2, q3.stay st (upd_ne (nb q2 (by simp)))⟩
  · rw [setF_at] at hc
    by_cases e : n = m
    · subst e
      rw [if_pos rfl, hs] at hc
      cases hc
      -- the names stay
      have hk : InsK T c.cls ((updF f (.o, w') c.fs).map (·.1)) := by
        obtain ⟨u1, u2, u3⟩ := upd_names f (.o, w') c.fs
        have hmem := lookup_mem hf
        have k := hx'.2
        refine ⟨k.cls, fun g' hg => ?_, ?_, upd_nd f _ k.nd⟩
        · rcases u1 g' hg with e | e
          · rw [e]; exact k.na f hmem
          · exact k.na g' e
        · rw [List.length_map, u3 hmem]
          have := k.len
          rwa [List.length_map] at this
      refine ⟨ll, dx, gs, ⟨by rw [upd_ne (nb ll (by simp))]; exact hx, hk⟩, ?_⟩
      -- field by field
      have fo : ∀ {f' v fl' u}, f' ≠ f → FldOk T g H n f' v fl' u → FldOk T g (upd H b o) n f' v fl' u := by
        intro f' v fl' u hne h
        cases fl' with
        | v => exact st.repX h
        | o => obtain ⟨a, e, l, o⟩ := h; exact ⟨a, e, l, o.stay st (upd_ne (nb l (by intro z; cases z; exact hne rfl)))⟩
        | k => obtain ⟨a, e, l, o⟩ := h; exact ⟨a, e, l, o.stay st (upd_ne (nb l (by intro z; cases z; exact hne rfl)))⟩
      exact chg_fld (F := fun f' v (q : Flag × W) => FldOk T g H n f' v q.1 q.2) (F' := fun f' v (q : Flag × W) => FldOk T g (upd H b o) n f' v q.1 q.2) (x := V.ref b) (y := ((Flag.o, w') : Flag × W)) (fun f' v q hne h => fo hne h) (show FldOk T g (upd H b o) n f (.ref b) .o w' from ⟨b, rfl, hl, ow⟩) hp hx'.2.nd hv (lookup_mem hf)
    · rw [if_neg e] at hc
      refine cell_stay st (fun a la ha => ⟨rfl, upd_ne ?_⟩) (s.cells m c' hc)
      rcases la with la | ⟨f', la⟩
      · exact nb la (by simp)
      · exact nb la (by intro z; cases z; exact e rfl)
  · rw [z, hl] at pp
    rcases pp with pp | pp <;> cases pp
  · by_cases e : a = b
    · rw [e, upd_same]; simp
    · rw [upd_ne e]; exact hn'
end
end Wb

namespace Wb
open PySem PySem.Spec PyProof.Rows
open L2 (V Hp HO Rd upd upd_same upd_ne SqL SqT VK TE TT TA TS TG TI TO Ends WX XK R2 Cx Inv RelV Vals ne_of_none PE PT PA PS PSs PG PI OpR UnR CallR MtR Gl Vis Loc)
section
variable {X : Cx} {T : Tx} {W' : WX} {B : Bd} {pos p : Pos} {g g1 : Gh} {env env1 : Env} {S S1 : Store} {σ σ1 : L2.St} {H H1 : Hp} {D : Ends}
/-- o.f = e, a value -/
theorem ss_seta (G : XG X T) {cl f : Str} {o e : Expr} {o' e' : E} {p2 : Pos} (hn : L2.NoAttr T.K (T.ca cl) f) (he : PE X e (tE T W' .V e')) (ho : PE X o (tE T W' .V o')) (hs : swapsWith e (some (.Attribute o f p2)) pos.line X.env = pure false) :
    PS X (.Assign [.Attribute o f p2] e pos) (tS T W' B (.seta cl o' f e')) := by
  refine ps_imp (L2.ps_fld ho he hs) fun D σ H ⟨g, env, S, s, p⟩ => ?_
  unfold exec at p
  refine ⟨g, env, S, s, p.out (qa := quiet e') fun w S1 y g1 H1 _ e1 s1 r1 p1 => ⟨g1, env, S1, s1, p1.out (qa := quiet o') fun x S2 xv g2 H2 _ e2 s2 r2 p2 => ?_⟩⟩
  cases x with
  | ref n =>
    dsimp only at p2
    by_cases hb : cellB S2 n cl f = true
    · rw [if_pos hb] at p2
      obtain ⟨ex, l⟩ := ref_inv r2
      cases hc : S2[n]? with
      | none => unfold cellB at hb; rw [hc] at hb; cases hb
      | some c =>
        obtain ⟨_, dx, gs, hx, rr⟩ := s2.cells n c hc
        obtain ⟨ecl, hk⟩ := upd_insK (x := (.v, w)) hc hb hn hx.2
        have hy : FldOk T g2 H2 n f y .v w := e2.stay.repX r1
        obtain ⟨s3, e3⟩ := s2.setc hc hx.1 rr hk hy
        rw [G.eK]
        have hlen : gs.length < 1000 := by
          have := rr.length
          have k := hx.2.len
          rw [List.length_map] at k
          omega
        exact ⟨_, _, dx, gs, ex, hx.1, hx.2.cls, by rw [ecl]; exact hn, hlen, p2 g2 _ σ e3 s3 Kp.refl⟩
    · rw [if_neg hb] at p2; exact p2.elim
  | _ => exact p2.elim
/-- o.f = e, a new container -/
theorem ss_setaO (G : XG X T) {cl f : Str} {o e : Expr} {o' e' : E} {p2 : Pos} (hn : L2.NoAttr T.K (T.ca cl) f) (he : PE X e (tE T W' .F e')) (ho : PE X o (tE T W' .V o')) (hs : swapsWith e (some (.Attribute o f p2)) pos.line X.env = pure false) :
    PS X (.Assign [.Attribute o f p2] e pos) (tS T W' B (.setaO cl o' f e')) := by
  refine ps_imp (L2.ps_fld ho he hs) fun D σ H ⟨g, env, S, s, p⟩ => ?_
  unfold exec at p
  refine ⟨g, env, S, s, ?_⟩
  revert p
  cases hx : ev .F e' env S with
  | bad => exact fun p => p
  | exn c fs S' => exact fun p d g' H' e s ex => p d g' H' σ e.toS s Kp.refl ex
  | ok w S1 =>
    intro p y g1 H1 e1 s1 r1
    obtain ⟨b, rfl, nb, lb, ob⟩ := r1
    rw [R.out_ok] at p
    by_cases hq : quiet o' = true
    · rw [if_pos hq] at p
      refine ⟨g1, env, S1, s1, ?_⟩
      rw [hq]
      revert p
      cases hxo : ev .V o' env S1 with
      | bad => exact fun p => p
      | exn c fs S' => exact fun p d g' H' e' s' ex => p d g' H' σ (e1.toS.trans e'.toS) s' Kp.refl ex
      | ok x S2 =>
        intro p xv g2 H2 e2 s2 r2
        rw [R.out_ok] at p
        cases x with
        | ref n =>
          dsimp only at p
          by_cases hb : cellB S2 n cl f = true
          · rw [if_pos hb] at p
            obtain ⟨ex, l⟩ := ref_inv (show RepX T g2 H2 xv (.ref n) from r2)
            obtain ⟨kb1, kb2⟩ := e2.keep b ob.some (.inl rfl)
            have lb2 : g2.L b = .out := kb1.trans lb
            have hb2 : H2 b ≠ none := by rw [kb2]; exact ob.some
            have ob2 : Own T g2 H2 .o b w := ob.stay e2.stay kb2
            have s3 := s2.lab (l := .fld n f) lb2 hb2
            cases hc : S2[n]? with
            | none => unfold cellB at hb; rw [hc] at hb; cases hb
            | some c =>
              obtain ⟨_, dx, gs, hx, rr⟩ := s3.cells n c hc
              have hi : (g2.lab b (.fld n f)).ι n = g2.ι n := rfl
              rw [hi] at hx
              obtain ⟨ecl, hk⟩ := upd_insK (x := (.o, w)) hc hb hn hx.2
              have hy : FldOk T (g2.lab b (.fld n f)) H2 n f (.ref b) .o w := ⟨b, rfl, lab_same, ob2.stay (stay_lab lb2) rfl⟩
              obtain ⟨s4, e4⟩ := s3.setc hc (by rw [hi]; exact hx.1) rr hk hy
              rw [hi] at s4 e4
              rw [G.eK]
              have hlen : gs.length < 1000 := by
                have := rr.length
                have k := hx.2.len
                rw [List.length_map] at k
                omega
              refine ⟨_, _, dx, gs, ex, hx.1, hx.2.cls, by rw [ecl]; exact hn, hlen, p _ _ σ ?_ s4 Kp.refl⟩
              have e12 := e1.toS.trans e2.toS
              have na : ∀ a, H a ≠ none → a ≠ b := fun a ha z => ha (by rw [z]; exact nb)
              refine ⟨fun a ha pp => ?_, fun m hm => ?_, fun a ha => ?_, fun a i ha h => ?_⟩
              · obtain ⟨k1, k2⟩ := e12.keep a ha pp
                refine ⟨(lab_ne (na a ha)).trans k1, (upd_ne fun z => ?_).trans k2⟩
                rw [z, l] at k1
                rw [← z] at k1
                rcases pp with pp | pp <;> (rw [← k1] at pp; cases pp)
              · obtain ⟨k1, k2⟩ := e12.cel m hm
                refine ⟨k1, ?_⟩
                rw [lab_ne fun z => by rw [z, lb2] at k2; cases k2]
                exact k2
              · exact e4.some a (e12.some a ha)
              · rw [lab_ne (na a ha)] at h
                exact e12.slot a i ha h
          · rw [if_neg hb] at p; exact p.elim
        | _ => exact p.elim
    · rw [if_neg hq] at p; exact p.elim
/-- self.f = e in an __init__ of an object that stays as it is made -/
theorem ss_self (G : XG X T) {cl f : Str} {i : Nat} {y : Str} {e : Expr} {e' : E} {p1 p2 : Pos} (hn : L2.NoAttr T.K (T.ca cl) f) (hi : X.N[i]? = some y) (hv : Vis X.env.scope y) (hd : (y == ("__debug__" : Str)) = false) (hcd : (y == ("__classdict__" : Str)) = false) (he : PE X e (tE T W' .V e')) (hs : swapsWith e (some (.Attribute (.Name y p1) f p2)) pos.line X.env = pure false) :
    PS X (.Assign [.Attribute (.Name y p1) f p2] e pos) (tS T W' B (.self cl i f e')) := by
  refine ps_imp (L2.ps_fld (L2.pe_var hi hv hd hcd) he hs) fun D σ H ⟨g, env, S, s, p⟩ => ?_
  unfold exec at p
  refine ⟨g, env, S, s, p.out (qa := quiet e') fun w S1 v g1 H1 _ e1 s1 r1 p1 => ?_⟩
  split at p1
  · rename_i c fs hw
    split at p1
    · rename_i hb
      obtain ⟨hcl, hnf, hlen⟩ := hb
      subst hcl
      obtain ⟨a, ea, l, dx, gs, hx, rr⟩ := s1.slots i _ _ hw
      have hgs : gs.length = fs.length := rr.length
      have hput : ∀ {gs : List (Str × V)} {fs : List (Str × W)}, Paired (fun (p : Str × V) (q : Str × W) => p.1 = q.1 ∧ RepX T g1 H1 p.2 q.2) gs fs → f ∉ fs.map (·.1) → L2.putF f v gs = gs ++ [(f, v)] := by
        intro gs fs h
        induction h with
        | nil => intro _; rfl
        | @cons p q _ _ r _ ih =>
          intro hm
          rw [List.map_cons, List.mem_cons, not_or] at hm
          unfold L2.putF
          rw [if_neg (fun z => hm.1 (by rw [← r.1, z])), ih hm.2]
          rfl
      rw [G.eK]
      have st : Stay g1 H1 g1 (upd H1 a (.ins (T.ca c) dx (gs ++ [(f, v)]))) := stay_nf (by rw [l]; simp)
      have z := s1.chg l (by rw [hx.1]; simp) ea (w' := .ins c (fs ++ [(f, w)])) (o := .ins (T.ca c) dx (gs ++ [(f, v)])) ⟨dx, _, ⟨upd_same, hx.2.cls, fun g' hg => by
          rw [List.map_append] at hg
          rcases List.mem_append.mp hg with hg | hg
          · exact hx.2.na g' hg
          · rw [List.mem_singleton.mp hg]; exact hn, by simp; omega, by
          rw [List.map_append, List.nodup_append]
          exact ⟨hx.2.nd, by simp, fun a ha b hb z => hnf (by have hb' : b = f := List.mem_singleton.mp hb; rw [← hb', ← z]; exact ha)⟩⟩, paired_append (paired_imp rr fun _ _ z => ⟨z.1, st.repX z.2⟩) (.cons ⟨rfl, st.repX r1⟩ .nil)⟩
      refine ⟨.ref a, ea, a, _, dx, gs, rfl, hx.1, hx.2.cls, hn, by omega, ?_⟩
      rw [hput rr hnf]
      exact p1 g1 _ σ z.2 z.1 Kp.refl
    · exact p1.elim
  · exact p1.elim
end
end Wb

namespace Wb
open PySem PySem.Spec PyProof.Rows
open L2 (V Hp HO Rd upd upd_same upd_ne SqL SqT VK TE TT TA TS TG TI TO Ends WX XK R2 Cx Inv RelV Vals ne_of_none PE PT PA PS PSs PG PI OpR UnR CallR MtR Gl Vis Loc)
section
variable {T : Tx} {g g2 : Gh} {env : Env} {S S2 : Store} {σ : L2.St} {H H2 : Hp}
/-- a container in a field, and where it is -/
def FldAt (T : Tx) (g : Gh) (H : Hp) (S : Store) (n : Nat) (f : Str) (b : Addr) (w : W) : Prop :=
  ∃ c dx gs, S[n]? = some c ∧ g.L (g.ι n) = .cell n ∧ (H (g.ι n) = some (.ins (T.ca c.cls) dx gs) ∧ InsK T c.cls (c.fs.map (·.1))) ∧ Paired (fun (p : Str × V) (q : Str × (Flag × W)) => p.1 = q.1 ∧ FldOk T g H n p.1 p.2 q.2.1 q.2.2) gs c.fs ∧
    c.fs.lookup f = some (.o, w) ∧ gs.lookup f = some (.ref b) ∧ g.L b = .fld n f ∧ Own T g H .o b w
theorem fldAt (s : Sim T g H env S σ) {n : Nat} {f : Str} {w : W} (h : S.getF n f = some (.o, w)) : ∃ b, FldAt T g H S n f b w := by
  unfold Store.getF at h
  cases hc : S[n]? with
  | none => rw [hc] at h; cases h
  | some c =>
    rw [hc, Option.bind_some] at h
    obtain ⟨l, dx, gs, hx, rr⟩ := s.cells n c hc
    obtain ⟨v, hv, b, e, lb, ob⟩ := lookup_paired (F := fun f v (q : Flag × W) => FldOk T g H n f v q.1 q.2) rr h
    subst e
    exact ⟨b, c, dx, gs, hc, l, hx, rr, h, hv, lb, ob⟩
theorem FldAt.move {n : Nat} {f : Str} {b : Addr} {w w2 : W} (a : FldAt T g H S n f b w) (e : Ext true g H g2 H2) (s2 : Sim T g2 H2 env S2 σ) (h : S2.getF n f = some (.o, w2)) : FldAt T g2 H2 S2 n f b w2 := by
  obtain ⟨b2, c2, dx2, gs2, hc2, l2, hx2, rr2, hl2, hv2, lb2, ob2⟩ := fldAt s2 h
  obtain ⟨c, dx, gs, hc, l, hx, rr, hl, hv, lb, ob⟩ := a
  have hi := (e.cel n l).1
  have hH := (e.keep (g.ι n) (by rw [hx.1]; simp) (.inl rfl)).2
  have q := hx2.1
  rw [hi, hH, hx.1] at q
  injection q with q
  injection q with _ _ q
  rw [← q, hv] at hv2
  cases hv2
  exact ⟨c2, dx2, gs2, hc2, l2, hx2, rr2, hl2, by rw [← q]; exact hv, lb2, ob2⟩
theorem FldAt.chg (s : Sim T g H env S σ) {n : Nat} {f : Str} {b : Addr} {w w' : W} (a : FldAt T g H S n f b w) {o : HO} (ow : Own T g (upd H b o) .o b w') : Sim T g (upd H b o) env (S.setF n f (.o, w')) σ ∧ ExtS g H g (upd H b o) := by
  obtain ⟨c, dx, gs, hc, l, hx, rr, hl, hv, lb, ob⟩ := a
  exact s.chgF hc hx.1 rr hl hv lb ob.some ow
theorem FldAt.own {n : Nat} {f : Str} {b : Addr} {w : W} (a : FldAt T g H S n f b w) : Own T g H .o b w ∧ g.L b = .fld n f := by
  obtain ⟨_, _, _, _, _, _, _, _, _, lb, ob⟩ := a
  exact ⟨ob, lb⟩
theorem FldAt.get {n : Nat} {f : Str} {b : Addr} {w : W} (a : FldAt T g H S n f b w) : S.getF n f = some (.o, w) := by
  obtain ⟨c, _, _, hc, _, _, _, hl, _⟩ := a
  unfold Store.getF
  rw [hc, Option.bind_some, hl]
theorem chg_fldE {n : Nat} {f : Str} {w : W} {G : W → Option W} (h : S.getF n f = some (.o, w)) : chg (.fld n f) G env S = match G w with | some w' => .nx env (S.setF n f (.o, w')) | none => .bad := by
  unfold chg
  rw [show PR.get (.fld n f) env S = S.getF n f from rfl, h]
  rfl
/-- x[k] = v, whatever the container's place -/
theorem set_gen {w w' kw v : W} {kx vx : V} {a : Addr} (o : Own T g H .o a w) (lf : g.L a ≠ .frz) (e : setItW w kw v = some w') (rk : RepX T g H kx kw) (rv : RepX T g H vx v) {Q : Hp → Prop} (k : ∀ o', Own T g (upd H a o') .o a w' → Q (upd H a o')) : rSetB (.ref a) kx vx H Q := by
  unfold setItW at e
  split at e
  · rename_i ws
    obtain ⟨xs, hxs, r⟩ := o
    split at e
    · rename_i i'
      cases hj : L2.ixN ws.length i' with
      | none => rw [hj] at e; cases e
      | some j =>
        rw [hj] at e
        cases e
        refine .inl ⟨a, xs, i', j, rfl, int_inv rk, hxs, by rw [r.length]; exact hj, ?_⟩
        have st : Stay g H g (upd H a (.lst (xs.set j vx))) := stay_nf lf
        exact k _ ⟨_, upd_same, paired_set (paired_imp r fun _ _ z => st.repX z) (st.repX rv) j⟩
    · cases e
  · rename_i kvs
    obtain ⟨xs, hxs, r⟩ := o
    rw [if_neg (by simp)] at hxs
    split at e
    · rename_i key hk
      obtain ⟨hz, e⟩ := if_some e
      cases e
      refine .inr ⟨a, _, rfl, .inl ⟨xs, key, hxs, key_rdx rk.rdX hk, by rw [r.length, ← sizeL_eq]; exact hz, rfl⟩, ?_⟩
      have st : Stay g H g (upd H a (.dK (L2.putK xs key vx))) := stay_nf lf
      exact k _ ⟨_, by simp [upd_same], put_paired (paired_imp r fun _ _ z => ⟨z.1, st.repX z.2⟩) (st.repX rv)⟩
    · cases e
  · cases e
end
section
variable {X : Cx} {T : Tx} {W' : WX} {B : Bd} {pos p : Pos} {g : Gh} {env : Env} {S : Store} {σ : L2.St} {H : Hp} {D : Ends}
/-- a field as a place -/
theorem plF (G : XG X T) (s : Sim T g H env S σ) {o' : E} {f : Str} {F : PR → Store → Out} (hF : ∀ n S1, F (.fld n f) S1 ≠ .bad → ∃ w, S1.getF n f = some (.o, w)) (p : PostS T W' B g σ H ((plc (.fld o' f) env S).out env F) D) {Q : V → Hp → Prop}
    (k : ∀ n S1 g1 H1 b w, Ext false g H g1 H1 → Sim T g1 H1 env S1 σ → FldAt T g1 H1 S1 n f b w → PostS T W' B g1 σ H1 (F (.fld n f) S1) D → Q (.ref b) H1) : L2.tFld X.K (tE T W' .V o') f σ H Q := by
  simp only [plc] at p
  refine ⟨g, env, S, s, ?_⟩
  revert p
  cases hx : ev .V o' env S with
  | bad => exact fun p => p
  | exn c fs S' => exact fun p d g' H' e s ex => p d g' H' σ e.toS s Kp.refl ex
  | ok x S1 =>
    intro p xv g1 H1 e1 s1 r1
    rw [R.bind_ok] at p
    cases x with
    | ref n =>
      dsimp only at p
      rw [R.out_ok] at p
      have p1 := PostS.rest e1.toS (Kp.refl (P := B.P) (σ := σ)) p
      by_cases hb : F (.fld n f) S1 = .bad
      · rw [hb] at p1; exact p1.elim
      · obtain ⟨w, hw⟩ := hF n S1 hb
        obtain ⟨b, a⟩ := fldAt s1 hw
        obtain ⟨ex, l⟩ := ref_inv (show RepX T g1 H1 xv (.ref n) from r1)
        have a' := a
        obtain ⟨c, dx, gs, hc, l', hx', rr, hl, hv, lb, ob⟩ := a
        rw [G.eK]
        exact ⟨_, _, dx, gs, _, ex, hx'.1, hx'.2.cls, hx'.2.na f (lookup_mem hl), hv, k n S1 g1 H1 b w (e1.weak (by simp)) s1 a' p1⟩
    | _ => exact p.elim
theorem own_F {n : Nat} {f : Str} {S : Store} {env : Env} (h : ownA (.fld n f) env S = true) : ∃ w, S.getF n f = some (.o, w) := by
  have h' : (match S.getF n f with | some (.o, _) => true | _ => false) = true := h
  split at h'
  · exact ⟨_, by assumption⟩
  · cases h'
theorem own_FL {n : Nat} {f : Str} {S : Store} {env : Env} (h : ownL (.fld n f) env S = true) : ∃ ws, S.getF n f = some (.o, .lst ws) := by
  have h' : (match S.getF n f with | some (.o, .lst _) => true | _ => false) = true := h
  split at h'
  · exact ⟨_, by assumption⟩
  · cases h'
/-- o.f.append(e) -/
theorem ss_appF (G : XG X T) {f : Str} {o e : Expr} {o' e' : E} {p2 ap cp : Pos} (ho : PE X o (tE T W' .V o')) (oko : okx o = true) (he : PE X e (tE T W' .V e')) (hq : quiet e' = true) (ok : okx e = true) (hl : (ap.endLine == cp.line) = true) :
    PS X (.Expr (.Call (.Attribute (.Attribute o f p2) "append" ap) [e] [] cp) pos) (tS T W' B (.app (.fld o' f) e')) := by
  have z := L2.pe_bm (apos := ap) (cpos := cp) PySem.F.plainAttrs_list PySem.F.slot_list_append PySem.F.type_list_append L2.mt_append (L2.pe_fld (pos := p2) (f := f) ho (base_ok oko f)) (L2.pa_cons he L2.pa_nil (star_cons ok [])) (base_ok rfl _) (few_one ok) hl (star_cons ok []) (star_none rfl cp)
  refine ps_imp (L2.ps_expr z rfl) fun D σ H ⟨g, env, S, s, p⟩ => ?_
  unfold exec at p
  refine plF G s (fun n S1 h => ?_) p fun n S1 g1 H1 b w e1 s1 a p1 => ?_
  · by_cases q : ownL (.fld n f) env S1 = true
    · obtain ⟨ws, h⟩ := own_FL q
      exact ⟨_, h⟩
    · exact absurd (if_neg q) h
  · split at p1
    · rename_i hw
      obtain ⟨ws, hw⟩ := own_FL hw
      have hw2 := a.get
      rw [hw] at hw2
      cases hw2
      obtain ⟨⟨xs, hxs, r⟩, lb⟩ := a.own
      refine .inl ⟨rfl, xs, .inl (.inl hxs)⟩ |> fun h0 => ⟨h0, g1, env, S1, s1, p1.out (qa := quiet e') fun v S2 y g2 H2 _ x1 s2 r1 p2 => ?_⟩
      rw [hq] at x1
      cases hg2 : S2.getF n f with
      | none =>
        unfold chg at p2
        rw [show PR.get (.fld n f) env S2 = S2.getF n f from rfl, hg2] at p2
        exact p2.elim
      | some fw =>
        obtain ⟨fl, w2⟩ := fw
        cases fl with
        | o =>
          have a2 := a.move x1 s2 hg2
          rw [chg_fldE hg2] at p2
          obtain ⟨ob2, lb2⟩ := a2.own
          have h1 := (x1.keep b (by rw [hxs]; simp) (.inl rfl)).2
          cases w2 with
          | lst ws2 =>
            obtain ⟨xs2, hxs2, r2⟩ := ob2
            rw [h1, hxs] at hxs2
            cases hxs2
            rw [show appW (.lst ws2) v = if ws2.length < sizeL then some (.lst (ws2 ++ [v])) else none from rfl] at p2
            by_cases hz : ws2.length < sizeL
            · rw [if_pos hz] at p2
              refine ⟨b, xs, y, rfl, rfl, h1.trans hxs, by rw [r2.length, ← sizeL_eq]; exact hz, ?_⟩
              have st : Stay g2 H2 g2 (upd H2 b (.lst (xs ++ [y]))) := stay_nf (by rw [lb2]; simp)
              have z := a2.chg s2 (w' := .lst (ws2 ++ [v])) (o := .lst (xs ++ [y])) ⟨_, upd_same, paired_append (paired_imp r2 fun _ _ z => st.repX z) (.cons (st.repX r1) .nil)⟩
              exact p2 g2 _ σ z.2 z.1 Kp.refl
            · rw [if_neg hz] at p2; exact p2.elim
          | _ => exact p2.elim
        | _ =>
          unfold chg at p2
          rw [show PR.get (.fld n f) env S2 = S2.getF n f from rfl, hg2] at p2
          exact p2.elim
    · exact p1.elim
/-- o.f[k] = e -/
theorem ss_setiF (G : XG X T) {f : Str} {o k e : Expr} {o' k' e' : E} {p2 sp : Pos} (ho : PE X o (tE T W' .V o')) (oko : okx o = true) (he : PE X e (tE T W' .V e')) (hk : PE X k (tE T W' .V k')) (hq : quiet k' = true) (ok : okx k = true)
    (hs : swapsWithSole [.Subscript (.Attribute o f p2) k sp] e pos.line X.env = pure false) (hw : swappedStores [.Subscript (.Attribute o f p2) k sp] e X.env = pure none) : PS X (.Assign [.Subscript (.Attribute o f p2) k sp] e pos) (tS T W' B (.seti (.fld o' f) k' e')) := by
  have z : PG X (.Subscript (.Attribute o f p2) k sp) _ := L2.pg_sub (L2.pe_fld (pos := p2) (f := f) ho (base_ok oko f)) hk (setB (by have := G.hu; omega)) (by intro v; cases k <;> first | rfl | exact absurd ok Bool.false_ne_true)
  refine ps_imp (L2.ps_asg he z hs hw rfl) fun D σ H ⟨g, env, S, s, p⟩ => ?_
  unfold exec at p
  refine ⟨g, env, S, s, p.out (qa := quiet e') fun v S1 vx g1 H1 _ x1 s1 r1 p1 => ?_⟩
  refine plF G s1 (fun n S2 h => ?_) p1 fun n S2 g2 H2 b w e2 s2 a p2 => ?_
  · by_cases q : ownA (.fld n f) env S2 = true
    · exact own_F q
    · exact absurd (if_neg q) h
  · split at p2
    · refine ⟨g2, env, S2, s2, p2.out (qa := quiet k') fun kw S3 kx g3 H3 _ x3 s3 r3 p3 => ?_⟩
      rw [hq] at x3
      cases hg3 : S3.getF n f with
      | none =>
        unfold chg at p3
        rw [show PR.get (.fld n f) env S3 = S3.getF n f from rfl, hg3] at p3
        exact p3.elim
      | some fw =>
        obtain ⟨fl, w3⟩ := fw
        cases fl with
        | o =>
          have a3 := a.move x3 s3 hg3
          rw [chg_fldE hg3] at p3
          cases hset : setItW w3 kw v with
          | none => rw [hset] at p3; exact p3.elim
          | some w' =>
            rw [hset] at p3
            obtain ⟨ob, lb⟩ := a3.own
            exact set_gen ob (by rw [lb]; simp) hset r3 (x3.stay.repX (e2.stay.repX r1)) fun o' ow => by
              have z := a3.chg s3 ow
              exact p3 g3 _ σ z.2 z.1 Kp.refl
        | _ =>
          unfold chg at p3
          rw [show PR.get (.fld n f) env S3 = S3.getF n f from rfl, hg3] at p3
          exact p3.elim
    · exact p2.elim
end
end Wb

namespace Wb
open PySem PySem.Spec PyProof.Rows
open L2 (V Hp HO Rd upd upd_same upd_ne SqL SqT VK TE TT TA TS TG TI TO Ends WX XK R2 Cx Inv RelV Vals ne_of_none PE PT PA PS PSs PG PI OpR UnR CallR MtR Gl Vis Loc)
section
variable {T : Tx} {W' : WX} {g g2 : Gh} {env : Env} {S S2 : Store} {σ : L2.St} {H H2 : Hp} {d : Addr} {od : Obj} {ks : List (Key × V)}
def FldG (T : Tx) (fl : Flag) (g : Gh) (H : Hp) (S : Store) (n : Nat) (f : Str) (b : Addr) (w : W) : Prop :=
  ∃ c dx gs, S[n]? = some c ∧ g.L (g.ι n) = .cell n ∧ (H (g.ι n) = some (.ins (T.ca c.cls) dx gs) ∧ InsK T c.cls (c.fs.map (·.1))) ∧ Paired (fun (p : Str × V) (q : Str × (Flag × W)) => p.1 = q.1 ∧ FldOk T g H n p.1 p.2 q.2.1 q.2.2) gs c.fs ∧
    c.fs.lookup f = some (fl, w) ∧ gs.lookup f = some (.ref b) ∧ g.L b = .fld n f ∧ Own T g H fl b w
theorem fldG {fl : Flag} (hfl : fl ≠ .v) (s : Sim T g H env S σ) {n : Nat} {f : Str} {w : W} (h : S.getF n f = some (fl, w)) : ∃ b, FldG T fl g H S n f b w := by
  unfold Store.getF at h
  cases hc : S[n]? with
  | none => rw [hc] at h; cases h
  | some c =>
    rw [hc, Option.bind_some] at h
    obtain ⟨l, dx, gs, hx, rr⟩ := s.cells n c hc
    obtain ⟨v, hv, z⟩ := lookup_paired (F := fun f v (q : Flag × W) => FldOk T g H n f v q.1 q.2) rr h
    cases fl with
    | v => exact absurd rfl hfl
    | o => obtain ⟨b, e, lb, ob⟩ := z; subst e; exact ⟨b, c, dx, gs, hc, l, hx, rr, h, hv, lb, ob⟩
    | k => obtain ⟨b, e, lb, ob⟩ := z; subst e; exact ⟨b, c, dx, gs, hc, l, hx, rr, h, hv, lb, ob⟩
theorem FldG.move {fl fl2 : Flag} (hfl : fl2 ≠ .v) {n : Nat} {f : Str} {b : Addr} {w w2 : W} (a : FldG T fl g H S n f b w) (e : Ext true g H g2 H2) (s2 : Sim T g2 H2 env S2 σ) (h : S2.getF n f = some (fl2, w2)) : FldG T fl2 g2 H2 S2 n f b w2 := by
  obtain ⟨b2, c2, dx2, gs2, hc2, l2, hx2, rr2, hl2, hv2, lb2, ob2⟩ := fldG hfl s2 h
  obtain ⟨c, dx, gs, hc, l, hx, rr, hl, hv, lb, ob⟩ := a
  have hi := (e.cel n l).1
  have hH := (e.keep (g.ι n) (by rw [hx.1]; simp) (.inl rfl)).2
  have q := hx2.1
  rw [hi, hH, hx.1] at q
  injection q with q
  injection q with _ _ q
  rw [← q, hv] at hv2
  cases hv2
  exact ⟨c2, dx2, gs2, hc2, l2, hx2, rr2, hl2, by rw [← q]; exact hv, lb2, ob2⟩
/-- the container in a field is changed, or its flag -/
theorem FldG.chg {fl fl' : Flag} (hfl : fl' ≠ .v) (s : Sim T g H env S σ) {n : Nat} {f : Str} {b : Addr} {w w' : W} (A : FldG T fl g H S n f b w) {o : HO} (hn : H b ≠ none) (ow : Own T g (upd H b o) fl' b w') :
    Sim T g (upd H b o) env (S.setF n f (fl', w')) σ := by
  obtain ⟨c, dx, gs, hs, ll, hx, hp, hf, hv, hl, _⟩ := A
  have st : Stay g H g (upd H b o) := stay_nf (by rw [hl]; simp)
  have nb : ∀ {a : Addr} {l : Lab}, g.L a = l → l ≠ .fld n f → a ≠ b := fun h hne z => hne (by rw [← h, z, hl])
  refine ⟨fun a h => ?_, s.len, fun i fl' u h => ?_, fun m c' hc => ?_, fun a m h => by rw [setF_len]; exact s.fin a m h⟩
  · by_cases e : a = b
    · rw [e, upd_same] at h; cases h
    · rw [upd_ne e] at h; exact s.wf a h
  · have z := s.slots i fl' u h
    cases fl' with
    | v => obtain ⟨x, q1, q2⟩ := z; exact ⟨x, q1, st.repX q2⟩
    | o => obtain ⟨a, q1, q2, q3⟩ := z; exact ⟨a, q1, q2, q3.stay st (upd_ne (nb q2 (by simp)))⟩
    | k => obtain ⟨a, q1, q2, q3⟩ := z; exact ⟨a, q1, q2, q3.stay st (upd_ne (nb q2 (by simp)))⟩
  · rw [setF_at] at hc
    by_cases e : n = m
    · subst e
      rw [if_pos rfl, hs] at hc
      cases hc
      have hk : InsK T c.cls ((updF f (fl', w') c.fs).map (·.1)) := by
        obtain ⟨u1, u2, u3⟩ := upd_names f (fl', w') c.fs
        have hmem := lookup_mem hf
        have k := hx.2
        refine ⟨k.cls, fun g' hg => ?_, ?_, upd_nd f _ k.nd⟩
        · rcases u1 g' hg with e | e
          · rw [e]; exact k.na f hmem
          · exact k.na g' e
        · rw [List.length_map, u3 hmem]
          have := k.len
          rwa [List.length_map] at this
      refine ⟨ll, dx, gs, ⟨by rw [upd_ne (nb ll (by simp))]; exact hx.1, hk⟩, ?_⟩
      have fo : ∀ {f' v fl'' u}, f' ≠ f → FldOk T g H n f' v fl'' u → FldOk T g (upd H b o) n f' v fl'' u := by
        intro f' v fl'' u hne h
        cases fl'' with
        | v => exact st.repX h
        | o => obtain ⟨a, e, l, o⟩ := h; exact ⟨a, e, l, o.stay st (upd_ne (nb l (by intro z; cases z; exact hne rfl)))⟩
        | k => obtain ⟨a, e, l, o⟩ := h; exact ⟨a, e, l, o.stay st (upd_ne (nb l (by intro z; cases z; exact hne rfl)))⟩
      have new : FldOk T g (upd H b o) n f (.ref b) fl' w' := by
        cases fl' with
        | v => exact absurd rfl hfl
        | o => exact ⟨b, rfl, hl, ow⟩
        | k => exact ⟨b, rfl, hl, ow⟩
      exact chg_fld (F := fun f' v (q : Flag × W) => FldOk T g H n f' v q.1 q.2) (F' := fun f' v (q : Flag × W) => FldOk T g (upd H b o) n f' v q.1 q.2) (x := V.ref b) (y := ((fl', w') : Flag × W)) (fun f' v q hne h => fo hne h) new hp hx.2.nd hv (lookup_mem hf)
    · rw [if_neg e] at hc
      refine cell_stay st (fun a la ha => ⟨rfl, upd_ne fun z => ?_⟩) (s.cells m c' hc)
      rw [z, hl] at la
      rcases la with la | ⟨f', la⟩
      · cases la
      · cases la; exact e rfl
theorem Lk.resF {c : Ctx} {x : V} {w : W} {H0 H02 : Hp} {n : Nat} {f : Str} (k0 : Lk d od ks H0 H02) (k : Lk d od ks H H2) (l : g.L d = .fld n f) (h : Res T c H0 g H x w) : Res T c H02 g H2 x w := by
  cases c with
  | V => exact (k.stay (g := g)).repX h
  | S =>
    rcases h with h | ⟨a, fl, e, o, la, n⟩
    · exact .inl ((k.stay (g := g)).repX h)
    · have ne : a ≠ d := fun e => by rw [e, l] at la; rcases la with la | ⟨i, la⟩ <;> cases la
      exact .inr ⟨a, fl, e, o.stay (k.stay (g := g)) (k.ne a ne), la, fun z => n ((k.nn a).mp z)⟩
  | B =>
    rcases h with h | ⟨a, fl, e, o⟩
    · exact .inl ((k.stay (g := g)).repX h)
    · subst e
      rcases k.own o with r | ⟨fl', r⟩
      · exact .inl r
      · exact .inr ⟨a, fl', rfl, r⟩
  | F =>
    obtain ⟨a, e, n, la, o⟩ := h
    have ne : a ≠ d := fun e => by rw [e, l] at la; cases la
    exact ⟨a, e, (k0.nn a).mpr n, la, o.stay (k.stay (g := g)) (k.ne a ne)⟩
theorem it_keysF {n : Nat} {f : Str} {kvs : List (Key × W)} (h : H d = some (.frz od (.dK ks))) (r : Paired (fun (p : Key × V) (q : Key × W) => p.1 = q.1 ∧ RepX T g H p.2 q.2) ks kvs) :
    ItE T true g H (L2.Itk d od ks) (kvs.map fun kv => kW kv.1) := by
  intro g2 H2 e i
  have hr : H2 d = some (.frz od (.dK ks)) := (e.keep d (by rw [h]; simp) (.inl rfl)).2.trans h
  have r2 : Paired (RepX T g2 H2) (ks.map fun kv => L2.kV kv.1) (kvs.map fun kv => kW kv.1) := keys_paired r
  refine ⟨fun hi => ⟨hr, by rw [r.length]; simpa using hi⟩, fun w hw => ?_⟩
  obtain ⟨x, hx, rx⟩ := paired_get r2 hw
  rw [List.getElem?_map] at hx
  cases hk : ks[i]? with
  | none => rw [hk] at hx; cases hx
  | some kv =>
    rw [hk] at hx
    cases hx
    refine ⟨⟨hr, (List.getElem?_eq_some_iff.mp hk).1⟩, fun y H3 hy => .inl ⟨hy.1, ?_⟩⟩
    obtain ⟨_, k, v, e1, e2⟩ := hy
    rw [hk] at e1
    cases e1
    rw [e2]
    exact rx
end
section
variable {X : Cx} {T : Tx} {W' : WX} {c : Ctx} {pos p : Pos} {g : Gh} {env : Env} {S : Store} {σ : L2.St} {H : Hp}
/-- a quiet evaluation, while the dict in the field is locked -/
theorem lock_postF {n : Nat} {f : Str} {d : Addr} {od : Obj} {ks : List (Key × V)} {kvs : List (Key × W)} {r : R W} {Q : VK} (hd : H d = some (.dK ks)) (rr : Paired (fun (p : Key × V) (q : Key × W) => p.1 = q.1 ∧ RepX T g H p.2 q.2) ks kvs)
    (A : FldG T .k g (upd H d (.frz od (.dK ks))) (S.setF n f (.k, .dct kvs)) n f d (.dct kvs)) (hx : ∀ x fs S', r ≠ .exn x fs S')
    (h : Post T W' false (Res T c) g env σ H (r.bind fun w S' => match S'.getF n f with | some (.k, _) => .ok w (S'.setF n f (.o, .dct kvs)) | _ => .bad) Q) :
    Post T W' true (Res T c) g env σ (upd H d (.frz od (.dK ks))) r fun v H' => H' d = some (.frz od (.dK ks)) ∧ Q v (upd H' d (.dK ks)) := by
  have l : g.L d = .fld n f := by obtain ⟨_, _, _, _, _, _, _, _, _, l, _⟩ := A; exact l
  cases r with
  | bad => exact h
  | exn x fs S' => exact absurd rfl (hx x fs S')
  | ok w S' =>
    intro x g' H' e s r
    rw [R.bind_ok] at h
    split at h
    · rename_i w2 hg
      obtain ⟨l1, h1⟩ := e.keep d (by rw [upd_same]; simp) (.inl rfl)
      have h2 : H' d = some (.frz od (.dK ks)) := h1.trans upd_same
      have ld : g'.L d = .fld n f := l1.trans l
      have k1 : Lk d od ks H' (upd H' d (.dK ks)) := .unlock h2
      have k0 : Lk d od ks (upd H d (.frz od (.dK ks))) H := ⟨fun b n => (upd_ne n).symm, .inr upd_same, .inl hd⟩
      have k0' : Lk d od ks H (upd H d (.frz od (.dK ks))) := .lock hd
      have A2 := A.move (fl2 := .k) (by simp) e s hg
      have ow : Own T g' (upd H' d (.dK ks)) .o d (.dct kvs) := ⟨ks, by simp [upd_same], paired_imp rr fun _ _ z => ⟨z.1, (k1.stay (g := g')).repX (e.stay.repX ((k0'.stay (g := g)).repX z.2))⟩⟩
      have s3 := A2.chg (fl' := .o) (by simp) s (by rw [h2]; simp) ow
      refine ⟨h2, h x g' _ ⟨fun a n p => ?_, e.cel, fun a n => ?_, fun a i n la => e.slot a i (fun z => n ((k0.nn a).mpr z)) la⟩ s3 (k0.resF k1 ld r)⟩
      · have n' : upd H d (.frz od (.dK ks)) a ≠ none := fun z => n ((k0.nn a).mpr z)
        obtain ⟨e1, e2⟩ := e.keep a n' (.inl rfl)
        refine ⟨e1, ?_⟩
        by_cases ea : a = d
        · subst ea; rw [upd_same, hd]
        · rw [upd_ne ea, e2, upd_ne ea]
      · exact fun z => e.some a (fun z' => n ((k0.nn a).mpr z')) ((k1.nn a).mp z)
    · exact h.elim
theorem se_lcF (G : XG X T) {elt tgE iter : Expr} {scope : Scope} {own : List (Str × Nat)} {tg : Tg} {elt' : E} {i : Nat} {f : Str} (hi : PE X iter (L2.tFld T.K (L2.tVar i) f)) (ok : L2.BlkOk X.N X.env.scope scope own) (sub : ∀ j ∈ tg.ixs, j ∈ own.map (·.2))
    (hg : ∀ (s : Shared) (H : Hp) (C : Addr) (cl : List (Str × Addr)) (fp : List Addr), PG (X.blk s H scope (compEnvC scope cl C X.env) fp) tgE (gOf T.K tg))
    (he : ∀ (s : Shared) (H : Hp) (C : Addr) (cl : List (Str × Addr)) (fp : List Addr), PE (X.blk s H scope (compEnvC scope cl C X.env) fp) elt (tE T WF .V elt'))
    (hs : ∀ x, foldedSetIterable iter X.env x = pure x) : PE X (.ListComp elt [⟨tgE, iter, [], 0⟩] scope pos) (tE T W' c (.lcF tg i f elt' own)) := by
  have z := L2.pe_lc (pos := pos) G.calm G.nd (L2.pi_keys (tg := tgE) hi) ok hg (fun _ _ _ _ _ => sc_nil (T := T)) he hs
  refine pe_imp (L2.pe_lock z) fun σ H Q ⟨g, env, S, s, p⟩ => ?_
  unfold ev at p
  split at p
  · rename_i fl n hei
    split at p
    · rename_i kvs hS
      split at p
      · rename_i hq
        obtain ⟨d, A⟩ := fldG (fl := .o) (by simp) s hS
        have A0 := A
        obtain ⟨cl, dx, gs, hc, ll, hx, hp, hf, hv, l, ks, hd0, rr⟩ := A
        have hd : H d = some (.dK ks) := by simpa using hd0
        refine ⟨d, .dK ks, hd, trivial, fun od => ?_⟩
        have k1 : Lk d od ks H (upd H d (.frz od (.dK ks))) := .lock hd
        have rr2 : Paired (fun (p : Key × V) (q : Key × W) => p.1 = q.1 ∧ RepX T g (upd H d (.frz od (.dK ks))) p.2 q.2) ks kvs := paired_imp rr fun _ _ z => ⟨z.1, (k1.stay (g := g)).repX z.2⟩
        have ow : Own T g (upd H d (.frz od (.dK ks))) .k d (.dct kvs) := ⟨ks, by simp [upd_same], rr2⟩
        have s2 := A0.chg (fl' := .k) (by simp) s (by rw [hd]; simp) ow
        have hg2 : (S.setF n f (.k, .dct kvs)).getF n f = some (.k, .dct kvs) := by
          unfold Store.getF
          rw [setF_at, if_pos rfl, hc, Option.map_some, Option.bind_some]
          have hm := lookup_mem hf
          clear hp hx hf hS hv hc
          dsimp only
          generalize cl.fs = fs at hm
          induction fs with
          | nil => cases hm
          | cons q r ih =>
            obtain ⟨q1, q2⟩ := q
            unfold updF
            by_cases e : q1 = f
            · rw [if_pos e, e]; simp [List.lookup]
            · rw [if_neg e]
              have e' : (f == q1) = false := by rw [beq_eq_false_iff_ne]; exact fun z => e z.symm
              simp only [List.lookup, e']
              rw [List.map_cons, List.mem_cons] at hm
              rcases hm with hm | hm
              · exact absurd hm.symm e
              · exact ih hm
        obtain ⟨d2, A2⟩ := fldG (fl := .k) (by simp) s2 hg2
        have ed : d2 = d := by
          obtain ⟨cl2, dx2, gs2, hc2, ll2, hx2, hp2, hf2, hv2, l2, _⟩ := A2
          have hne : g.ι n ≠ d := fun z => by rw [z, l] at ll; cases ll
          have q := hx2.1
          rw [upd_ne hne, hx.1] at q
          injection q with q
          injection q with _ _ q
          rw [← q, hv] at hv2
          cases hv2
          rfl
        rw [ed] at A2
        have nx2 : ∀ x fs S'', noExn ((lcGo tg (fun env' S' => evc [] env' S') (fun env' S' => ev .V elt' env' S') (wipeE env (own.map (·.2))) (kvs.map fun kv => kW kv.1) [] (S.setF n f (.k, .dct kvs))).bind fun ws S' => .ok (W.lst ws) S') ≠ .exn x fs S'' := by
          intro x fs S'' h
          generalize (lcGo tg (fun env' S' => evc [] env' S') (fun env' S' => ev .V elt' env' S') (wipeE env (own.map (·.2))) (kvs.map fun kv => kW kv.1) [] (S.setF n f (.k, .dct kvs))).bind (fun ws S' => R.ok (W.lst ws) S') = r at h
          cases r <;> cases h
        have ec : (fun (_ : Env) (S' : Store) => (R.ok true S' : R Bool)) = fun env' S' => evc [] env' S' := by funext e s; rw [evc]
        rw [ec] at p
        obtain ⟨x, hxs, rx⟩ := slot_rdx s hei
        refine keys_R (kvs := kvs) upd_same (fun Q' q => ?_) ?_
        · have hne : g.ι n ≠ d := fun z => by rw [z, l] at ll; cases ll
          exact ⟨x, hxs, g.ι n, _, dx, gs, _, (rdx_ref rx).1, (upd_ne hne).trans hx.1, hx.2.cls, hx.2.na f (lookup_mem hf), hv, q⟩
        · exact lc_rest sub (qq := true) (fun _ => ⟨rfl, hq⟩) s2 (it_keysF (n := n) (f := f) upd_same rr2) (lock_postF hd rr A2 nx2 (by
            have hqf : quiet (.lcF tg i f elt' own) = false := rfl
            rw [hqf] at p
            exact p))
      · exact p.elim
    · exact p.elim
  · exact p.elim
end
end Wb

namespace Wb
open PySem PySem.Spec PyProof.Rows
open L2 (V Hp HO Rd upd upd_same upd_ne SqL SqT VK TE TT TA TS TG TI TO Ends WX XK R2 Cx Inv RelV Vals ne_of_none PE PT PA PS PSs PG PI OpR UnR CallR MtR Gl Vis Loc)
section
variable {X : Cx} {T : Tx} {W' : WX} {B : Bd} {pos p : Pos} {g g1 : Gh} {env env1 : Env} {S S1 : Store} {σ σ1 : L2.St} {H H1 : Hp} {D : Ends}
/-- xs[k], by values -/
theorem get_list : L2.PGet X (L2.rIxL X.K) := by
  intro pins s σ H x y v u Q I rx ry h
  obtain ⟨p, xs, i, z, rfl, rfl, hq, he, q⟩ := h
  cases rx
  obtain ⟨t, rfl⟩ := ry
  obtain ⟨its, r, pl, hz⟩ := I.list hq
  obtain ⟨j, h1, h2, h3, h4, h5⟩ := L2.atI_get he
  obtain ⟨w, ew, rw'⟩ := r.get h2
  have hl := r.length
  have hn := L2.line63
  have fin : L2.EP X pins σ Q w s := ⟨z, H, I, rw', q⟩
  by_cases h0 : 0 ≤ i
  · have hj : i.toNat = j := by
      rw [seqIndex_of h0 h5] at h1
      exact Option.some.inj h1
    exact wpAny_getItem_list pl.isList h0 (by omega) (by rw [hj]; simpa using ew) fin
  · have hj : (i + (its.toArray.size : Int)).toNat = j := by
      rw [seqIndex_neg (by omega) h4] at h1
      rw [List.size_toArray, ← hl]
      exact Option.some.inj h1
    exact wpAny_getItem_list_neg pl.isList (by omega) (by rw [List.size_toArray] <;> omega) (by omega) (by rw [hj]; simpa using ew) fin
def rGet (K : PySem.W.Frag) : V → V → Hp → VK → Prop := fun o i H Q => L2.rIxL K o i H Q ∨ ∃ a v, o = .ref a ∧ L2.DGet H a i (some v) ∧ Q v H
theorem getB (hu : X.A.units + 1 < cLine) : L2.PGet X (rGet X.K) := by
  intro pins s σ H o i ov iv Q I ro ri h
  rcases h with h | ⟨a, v, rfl, d, q⟩
  · exact get_list pins s σ H o i ov iv Q I ro ri h
  · obtain rfl : ov = Value.ref a := ro
    exact L2.d_getItem hu I d ri fun w' s3 I3 rw' => ⟨v, H, I3, rw', q⟩
theorem get_gen {w kw r : W} {kx : V} {a : Addr} (o : Own T g H .o a w) (e : subW w kw = some r) (rk : RepX T g H kx kw) {Q : V → Hp → Prop} (k : ∀ v, RepX T g H v r → Q v H) : rGet T.K (.ref a) kx H Q := by
  unfold subW at e
  split at e
  · obtain ⟨xs, hxs, r⟩ := o
    obtain ⟨v, e2, r2⟩ := at_paired r e
    exact .inl ⟨a, xs, _, v, rfl, rdx_int rk.rdX, .inl (.inl hxs), e2, k v r2⟩
  · exact o.elim
  · exact o.elim
  · exact o.elim
  · rename_i kvs
    cases hk : keyW kw with
    | none => rw [hk] at e; cases e
    | some key =>
      rw [hk] at e
      obtain ⟨p, ov, e1, d, ho⟩ := get_rdx (T := T) (x := .ref a) (.inr ⟨a, .o, rfl, o⟩) rk.rdX hk
      cases e1
      rcases ho with ⟨h1, rfl⟩ | ⟨w', v, h1, rfl, h3⟩
      · rw [Option.bind_some, h1] at e; cases e
      · rw [Option.bind_some, h1] at e; cases e
        exact .inr ⟨_, v, rfl, d, k v h3⟩
  · cases e
/-- xs[k] op= e, xs a slot -/
theorem ss_augiS (G : XG X T) {i : Nat} {x : Str} {p2 sp : Pos} {k e : Expr} {k' e' : E} {o : Bin} (ho : ipO o = true) (okk : okx k = true) (hi : X.N[i]? = some x) (hv : Vis X.env.scope x) (hd : (x == ("__debug__" : Str)) = false) (hcd : (x == ("__classdict__" : Str)) = false) (hk : PE X k (tE T W' .V k')) (he : PE X e (tE T W' .B e')) :
    PS X (.AugAssign (.Subscript (.Name x p2) k sp) (opOf o) e pos) (tS T W' B (.augi (.slot i) k' o e')) := by
  refine ps_imp (L2.ps_augS (L2.pe_var (pos := p2) hi hv hd hcd) hk (getB (by have := G.hu; omega)) he (ipOk o) (setB (by have := G.hu; omega)) (by intro _ _ _; cases k <;> first | rfl | exact absurd okk Bool.false_ne_true)) fun D σ H ⟨g, env, S, s, p⟩ => ?_
  unfold exec plc at p
  rw [R.out_ok] at p
  split at p
  · rename_i hown
    obtain ⟨w, hw⟩ := ownA_slot hown
    obtain ⟨a, e1, l, ow⟩ := s.slots i _ _ hw
    refine ⟨.ref a, e1, g, env, S, s, p.out (qa := quiet k') fun kw S1 kx g1 H1 _ x1 s1 r1 p1 => ?_⟩
    rw [show PR.get (.slot i) env S1 = env.at i from rfl, hw] at p1
    dsimp only at p1
    obtain ⟨a1, e11, l1, ow1⟩ := s1.slots i _ _ hw
    rw [e1] at e11
    cases e11
    cases hs : subW w kw with
    | none => rw [hs] at p1; exact p1.elim
    | some r =>
      rw [hs] at p1
      dsimp only at p1
      rw [G.eK]
      refine get_gen ow1 hs r1 fun v rv => ⟨g1, env, S1, s1, p1.out (qa := quiet e') fun y S2 yv g2 H2 _ x2 s2 r2 p2 => ?_⟩
      split at p2
      · rename_i z hz
        refine ip_sem (T := T) (g := g2) ho (x2.stay.repX rv).rdX r2 hz fun v' rv' => ?_
        rw [chg_slot hw] at p2
        cases hq : setItW w kw z with
        | none => rw [hq] at p2; exact p2.elim
        | some w' =>
          rw [hq] at p2
          exact set_sem (T := T) s2 hw hq (x2.stay.repX r1) rv' e1 fun H' e' s' => p2 g2 H' σ e' s' Kp.refl
      · exact p2.elim
  · exact p.elim
/-- o.f[k] op= e -/
theorem ss_augiF (G : XG X T) {f : Str} {o k e : Expr} {o' k' e' : E} {p2 sp : Pos} {b : Bin} (hb : ipO b = true) (okk : okx k = true) (ho : PE X o (tE T W' .V o')) (oko : okx o = true) (hk : PE X k (tE T W' .V k')) (hqk : quiet k' = true) (he : PE X e (tE T W' .B e')) (hqe : quiet e' = true) :
    PS X (.AugAssign (.Subscript (.Attribute o f p2) k sp) (opOf b) e pos) (tS T W' B (.augi (.fld o' f) k' b e')) := by
  refine ps_imp (L2.ps_augS (L2.pe_fld (pos := p2) (f := f) ho (base_ok oko f)) hk (getB (by have := G.hu; omega)) he (ipOk b) (setB (by have := G.hu; omega)) (by intro _ _ _; cases k <;> first | rfl | exact absurd okk Bool.false_ne_true)) fun D σ H ⟨g, env, S, s, p⟩ => ?_
  unfold exec at p
  refine plF G s (fun n S1 h => ?_) p fun n S1 g1 H1 bb w e1 s1 a p1 => ?_
  · by_cases q : ownA (.fld n f) env S1 = true
    · exact own_F q
    · exact absurd (if_neg q) h
  · split at p1
    · refine ⟨g1, env, S1, s1, p1.out (qa := quiet k') fun kw S2 kx g2 H2 _ x2 s2 r2 p2 => ?_⟩
      rw [hqk] at x2
      cases hg2 : S2.getF n f with
      | none =>
        rw [show PR.get (.fld n f) env S2 = S2.getF n f from rfl, hg2] at p2
        exact p2.elim
      | some fw =>
        obtain ⟨fl, w2⟩ := fw
        rw [show PR.get (.fld n f) env S2 = S2.getF n f from rfl, hg2] at p2
        cases fl with
        | o =>
          dsimp only at p2
          have a2 := a.move x2 s2 hg2
          obtain ⟨ow2, lb2⟩ := a2.own
          cases hs : subW w2 kw with
          | none => rw [hs] at p2; exact p2.elim
          | some r =>
            rw [hs] at p2
            dsimp only at p2
            rw [G.eK]
            refine get_gen ow2 hs r2 fun v rv => ⟨g2, env, S2, s2, p2.out (qa := quiet e') fun y S3 yv g3 H3 _ x3 s3 r3 p3 => ?_⟩
            rw [hqe] at x3
            split at p3
            · rename_i z hz
              refine ip_sem (T := T) (g := g3) hb (x3.stay.repX rv).rdX r3 hz fun v' rv' => ?_
              cases hg3 : S3.getF n f with
              | none =>
                unfold chg at p3
                rw [show PR.get (.fld n f) env S3 = S3.getF n f from rfl, hg3] at p3
                exact p3.elim
              | some fw =>
                obtain ⟨fl, w3⟩ := fw
                cases fl with
                | o =>
                  have a3 := a2.move x3 s3 hg3
                  rw [chg_fldE hg3] at p3
                  cases hset : setItW w3 kw z with
                  | none => rw [hset] at p3; exact p3.elim
                  | some w' =>
                    rw [hset] at p3
                    obtain ⟨ob, lb⟩ := a3.own
                    exact set_gen ob (by rw [lb]; simp) hset (x3.stay.repX r2) rv' fun o' ow => by
                      have zz := a3.chg s3 ow
                      exact p3 g3 _ σ zz.2 zz.1 Kp.refl
                | _ =>
                  unfold chg at p3
                  rw [show PR.get (.fld n f) env S3 = S3.getF n f from rfl, hg3] at p3
                  exact p3.elim
            · exact p3.elim
        | _ => exact p2.elim
    · exact p1.elim
/-- o.f op= e -/
theorem ss_augA (G : XG X T) {cl f : Str} {o e : Expr} {o' e' : E} {p2 : Pos} {b : Bin} (hb : ipO b = true) (hn : L2.NoAttr T.K (T.ca cl) f) (ho : PE X o (tE T W' .V o')) (he : PE X e (tE T W' .B e')) :
    PS X (.AugAssign (.Attribute o f p2) (opOf b) e pos) (tS T W' B (.augA cl o' f b e')) := by
  refine ps_imp (L2.ps_fldaug ho he (ipOk b)) fun D σ H ⟨g, env, S, s, p⟩ => ?_
  unfold exec at p
  refine ⟨g, env, S, s, p.out (qa := quiet o') fun x S1 xv g1 H1 _ e1 s1 r1 p1 => ?_⟩
  cases x with
  | ref n =>
    dsimp only at p1
    obtain ⟨ex, l⟩ := ref_inv r1
    cases hg : S1.getF n f with
    | none => rw [hg] at p1; exact p1.elim
    | some fw =>
      obtain ⟨fl, a⟩ := fw
      rw [hg] at p1
      cases fl with
      | v =>
        dsimp only at p1
        have hg' := hg
        unfold Store.getF at hg'
        cases hc : S1[n]? with
        | none => rw [hc] at hg'; cases hg'
        | some c =>
          rw [hc, Option.bind_some] at hg'
          obtain ⟨l', dx, gs, hx, rr⟩ := s1.cells n c hc
          obtain ⟨v, hv, rv⟩ := lookup_paired (F := fun f v (q : Flag × W) => FldOk T g1 H1 n f v q.1 q.2) rr hg'
          by_cases hb1 : cellB S1 n cl f = true
          case neg => rw [if_neg hb1] at p1; exact p1.elim
          rw [if_pos hb1] at p1
          have ec1 : c.cls = cl := (upd_insK (x := (.v, a)) hc hb1 hn hx.2).1
          rw [G.eK]
          refine ⟨_, _, dx, gs, v, ex, hx.1, hx.2.cls, hx.2.na f (lookup_mem hg'), hv, g1, env, S1, s1, p1.out (qa := quiet e') fun y S2 yv g2 H2 _ e2 s2 r2 p2 => ?_⟩
          split at p2
          · rename_i z hz
            refine ip_sem (T := T) (g := g2) hb (e2.stay.repX rv).rdX r2 hz fun v' rv' => ?_
            by_cases hbb : cellB S2 n cl f = true
            · rw [if_pos hbb] at p2
              have hi := (e2.cel n l).1
              cases hc2 : S2[n]? with
              | none => unfold cellB at hbb; rw [hc2] at hbb; cases hbb
              | some c2 =>
                obtain ⟨_, dx2, gs2, hx2, rr2⟩ := s2.cells n c2 hc2
                obtain ⟨ecl, hk⟩ := upd_insK (x := (.v, z)) hc2 hbb hn hx2.2
                have hy : FldOk T g2 H2 n f v' .v z := rv'
                obtain ⟨s3, e3⟩ := s2.setc hc2 hx2.1 rr2 hk hy
                have hlen : gs2.length < 1000 := by
                  have := rr2.length
                  have k := hx2.2.len
                  rw [List.length_map] at k
                  omega
                rw [hi] at hx2 s3 e3
                rw [ecl] at hx2
                rw [ec1]
                rw [ecl] at s3 e3
                exact ⟨dx2, gs2, hx2.1, hlen, p2 g2 _ σ e3 s3 Kp.refl⟩
            · rw [if_neg hbb] at p2; exact p2.elim
          · exact p2.elim
      | _ => exact p1.elim
  | _ => exact p1.elim
end
end Wb

namespace Wb
open PySem PySem.Spec PyProof.Rows
open L2 (V Hp HO Rd upd upd_same upd_ne SqL SqT VK TE TT TA TS TG TI TO Ends WX XK R2 Cx Inv RelV Vals ne_of_none PE PT PA PS PSs PG PI OpR UnR CallR MtR Gl Vis Loc)
section
variable {T : Tx} {W' : WX} {B : Bd} {g g1 g' g2 : Gh} {env env1 : Env} {S S1 S' : Store} {σ σ1 : L2.St} {H H1 H' H2 : Hp} {D : Ends}
inductive IoR (T : Tx) (g : Gh) (H : Hp) (σ : L2.St) : List (Nat ⊕ E) → List Bool → List V → List W → Prop where
  | nil : IoR T g H σ [] [] [] []
  | own {i : Nat} {as : List (Nat ⊕ E)} {bs : List Bool} {vs : List V} {ws : List W} {a : Addr} {w : W} (e : σ[i]? = some (some (.ref a))) (l : g.L a = .slot i) (o : Own T g H .o a w) (r : IoR T g H σ as bs vs ws) : IoR T g H σ (.inl i :: as) (true :: bs) (.ref a :: vs) (w :: ws)
  | val {e : E} {as : List (Nat ⊕ E)} {bs : List Bool} {vs : List V} {ws : List W} {v : V} {w : W} (q : RepX T g H v w) (r : IoR T g H σ as bs vs ws) : IoR T g H σ (.inr e :: as) (false :: bs) (v :: vs) (w :: ws)
theorem IoR.len {as : List (Nat ⊕ E)} {bs : List Bool} {vs : List V} {ws : List W} (h : IoR T g H σ as bs vs ws) : vs.length = bs.length ∧ ws.length = bs.length ∧ as.length = bs.length := by
  induction h with
  | nil => exact ⟨rfl, rfl, rfl⟩
  | own _ _ _ _ ih => simp [ih]
  | val _ _ ih => simp [ih]
/-- by place -/
theorem IoR.at {as : List (Nat ⊕ E)} {bs : List Bool} {vs : List V} {ws : List W} (h : IoR T g H σ as bs vs ws) : ∀ (k : Nat) (b : Bool), bs[k]? = some b → (b = true ∧ ∃ (i : Nat) (a : Addr) (w : W), as[k]? = some (Sum.inl i) ∧ vs[k]? = some (V.ref a) ∧ ws[k]? = some w ∧ σ[i]? = some (some (.ref a)) ∧ g.L a = .slot i ∧ Own T g H .o a w) ∨
    (b = false ∧ ∃ (e : E) (v : V) (w : W), as[k]? = some (Sum.inr e) ∧ vs[k]? = some v ∧ ws[k]? = some w ∧ RepX T g H v w) := by
  induction h with
  | nil => intro k b hk; simp at hk
  | @own i as bs vs ws a w e l o r ih =>
    intro k b hk
    cases k with
    | zero => cases hk; exact .inl ⟨rfl, i, a, w, rfl, rfl, rfl, e, l, o⟩
    | succ k => exact ih k b hk
  | @val e as bs vs ws v w q r ih =>
    intro k b hk
    cases k with
    | zero => cases hk; exact .inr ⟨rfl, e, v, w, rfl, rfl, rfl, q⟩
    | succ k => exact ih k b hk
theorem distinct_at : ∀ {as : List (Nat ⊕ E)} {k k' i : Nat}, distinct as = true → as[k]? = some (Sum.inl i) → as[k']? = some (Sum.inl i) → k = k'
  | [], k, k', i, _, h, _ => by simp at h
  | .inr e :: as, k, k', i, hd, h, h' => by
    cases k with
    | zero => cases h
    | succ k =>
      cases k' with
      | zero => cases h'
      | succ k' => exact congrArg _ (distinct_at (as := as) hd h h')
  | .inl j :: as, k, k', i, hd, h, h' => by
    have hd' : ((as.all fun a => match a with | .inl j' => j != j' | _ => true) && distinct as) = true := hd
    obtain ⟨h1, h2⟩ := (Bool.and_eq_true _ _).mp hd'
    have no : ∀ m : Nat, as[m]? ≠ some (Sum.inl j) := fun m hm => by
      have := List.all_eq_true.mp h1 _ (List.mem_of_getElem? hm)
      simp at this
    cases k with
    | zero =>
      cases h
      cases k' with
      | zero => rfl
      | succ k' => exact absurd h' (no k')
    | succ k =>
      cases k' with
      | zero => cases h'; exact absurd h (no k)
      | succ k' => exact congrArg _ (distinct_at h2 h h')
/-- lent: where, and to which of the callee's slots -/
def Lent (own : List Bool) (vs : List V) (b : Addr) (k : Nat) : Prop := own[k]? = some true ∧ vs[k]? = some (.ref b)
noncomputable def Gh.give (g : Gh) (own : List Bool) (vs : List V) : Gh := by
  classical
  exact ⟨fun b => if h : ∃ k, Lent own vs b k then .slot h.choose else g.clean.L b, g.ι⟩
theorem give_at {own : List Bool} {vs : List V} (u : ∀ b k k', Lent own vs b k → Lent own vs b k' → k = k') {b : Addr} {k : Nat} (h : Lent own vs b k) : (g.give own vs).L b = .slot k := by
  have e : ∃ k, Lent own vs b k := ⟨k, h⟩
  classical
  show (if h : ∃ k, Lent own vs b k then Lab.slot h.choose else g.clean.L b) = _
  rw [dif_pos e, u b _ _ e.choose_spec h]
theorem give_ne {own : List Bool} {vs : List V} {b : Addr} (h : ¬∃ k, Lent own vs b k) : (g.give own vs).L b = g.clean.L b := by
  classical
  show (if h : ∃ k, Lent own vs b k then Lab.slot h.choose else g.clean.L b) = _
  rw [dif_neg h]
section
variable {as : List (Nat ⊕ E)} {own : List Bool} {vs : List V} {ws : List W}
theorem IoR.lent (h : IoR T g H σ as own vs ws) {b : Addr} {k : Nat} (q : Lent own vs b k) : ∃ (i : Nat) (w : W), as[k]? = some (Sum.inl i) ∧ ws[k]? = some w ∧ σ[i]? = some (some (.ref b)) ∧ g.L b = .slot i ∧ Own T g H .o b w := by
  rcases h.at k true q.1 with ⟨_, i, a, w, h1, h2, h3, h4, h5, h6⟩ | ⟨z, _⟩
  · rw [q.2] at h2
    cases h2
    exact ⟨i, w, h1, h3, h4, h5, h6⟩
  · cases z
theorem IoR.uniq (h : IoR T g H σ as own vs ws) (hd : distinct as = true) (b : Addr) (k k' : Nat) (q : Lent own vs b k) (q' : Lent own vs b k') : k = k' := by
  obtain ⟨i, _, h1, _, _, l, _⟩ := h.lent q
  obtain ⟨i', _, h1', _, _, l', _⟩ := h.lent q'
  rw [l] at l'
  cases l'
  exact distinct_at hd h1 h1'
theorem stay_give (h : IoR T g H σ as own vs ws) : Stay g H (g.give own vs) H := by
  refine ⟨fun a l _ => ?_, fun _ _ _ _ r => r, fun _ _ _ _ _ r => r, fun m l => ⟨rfl, ?_⟩⟩
  · rw [give_ne fun ⟨k, q⟩ => by obtain ⟨i, _, _, _, _, z, _⟩ := h.lent q; rw [l] at z; cases z]
    exact (clean_ne fun i z => by rw [l] at z; cases z).trans l
  · show (g.give own vs).L (g.ι m) = _
    rw [give_ne fun ⟨k, q⟩ => by obtain ⟨i, _, _, _, _, z, _⟩ := h.lent q; rw [l] at z; cases z]
    exact (clean_ne fun i z => by rw [l] at z; cases z).trans l
theorem env0_at (hl : ws.length = own.length) {k : Nat} {fl : Flag} {w : W} (h : (env0 own.length own ws).at k = some (fl, w)) : ∃ b, own[k]? = some b ∧ ws[k]? = some w ∧ fl = (if b then Flag.o else Flag.v) := by
  unfold Env.at env0 at h
  rw [hl, Nat.sub_self] at h
  simp only [List.replicate_zero, List.append_nil, List.getElem?_map] at h
  cases q : (own.zip ws)[k]? with
  | none => rw [q] at h; cases h
  | some pr =>
    rw [q] at h
    cases h
    obtain ⟨q1, q2⟩ := List.getElem?_zip_eq_some.mp q
    exact ⟨pr.1, q1, q2, rfl⟩
/-- at the callee's entry -/
theorem sim_give (s : Sim T g H env S σ) (h : IoR T g H σ as own vs ws) (hd : distinct as = true) : Sim T (g.give own vs) H (env0 own.length own ws) S (vs.map some) := by
  have st := stay_give h
  obtain ⟨l1, l2, l3⟩ := h.len
  refine ⟨fun a hn => ?_, ?_, fun k fl w hk => ?_, fun n c hc => cell_stay st (fun a l _ => ⟨?_, rfl⟩) (s.cells n c hc), fun a n l => ?_⟩
  · rw [give_ne fun ⟨k, q⟩ => by obtain ⟨_, _, _, _, _, _, o⟩ := h.lent q; exact o.some hn]
    exact clean_out (s.wf a hn)
  · unfold env0
    simp [l1, l2]
  · obtain ⟨b, hb, hw, rfl⟩ := env0_at l2 hk
    rcases h.at k b hb with ⟨rfl, i, a, w', h1, h2, h3, h4, h5, h6⟩ | ⟨rfl, e, v, w', h1, h2, h3, h4⟩
    · rw [hw] at h3
      cases h3
      exact ⟨a, by rw [List.getElem?_map, h2]; rfl, give_at (h.uniq hd) ⟨hb, h2⟩, h6.stay st rfl⟩
    · rw [hw] at h3
      cases h3
      exact ⟨v, by rw [List.getElem?_map, h2]; rfl, st.repX h4⟩
  · rw [give_ne fun ⟨k, q⟩ => by obtain ⟨i, _, _, _, _, z, _⟩ := h.lent q; rcases l with l | ⟨f, l⟩ <;> (rw [l] at z; cases z)]
    exact clean_ne fun i z => by rcases l with l | ⟨f, l⟩ <;> (rw [l] at z; cases z)
  · by_cases q : ∃ k, Lent own vs a k
    · obtain ⟨k, q⟩ := q
      rw [give_at (h.uniq hd) q] at l
      cases l
    · rw [give_ne q] at l
      exact s.fin a n (clean_cell l)
/-- the caller's labels again, where P -/
noncomputable def Gh.backP (g : Gh) (H : Hp) (g' : Gh) (P : Addr → Prop) : Gh := by
  classical
  exact ⟨fun a => if (∃ i, g.L a = .slot i) ∧ H a ≠ none ∧ P a then g.L a else g'.clean.L a, g'.ι⟩
theorem backP_slot {P : Addr → Prop} {a : Addr} {i : Nat} (h : g.L a = .slot i) (n : H a ≠ none) (p : P a) : (g.backP H g' P).L a = .slot i := by
  classical
  show (if (∃ i, g.L a = .slot i) ∧ H a ≠ none ∧ P a then g.L a else g'.clean.L a) = _
  rw [if_pos ⟨⟨i, h⟩, n, p⟩]; exact h
theorem backP_ne {P : Addr → Prop} {a : Addr} (h : ¬((∃ i, g.L a = .slot i) ∧ H a ≠ none ∧ P a)) : (g.backP H g' P).L a = g'.clean.L a := by
  classical
  show (if (∃ i, g.L a = .slot i) ∧ H a ≠ none ∧ P a then g.L a else g'.clean.L a) = _
  rw [if_neg h]
/-- where the callee's label is no slot and not out, it stands -/
theorem backP_at {P : Addr → Prop} (hP : ∀ a, (∃ i, g.L a = .slot i) → H a ≠ none → P a → g'.L a = .out ∨ ∃ k, g'.L a = .slot k) {a : Addr} (h : g'.L a ≠ .out) (h2 : ∀ i, g'.L a ≠ .slot i) : (g.backP H g' P).L a = g'.L a := by
  rw [backP_ne fun ⟨i, n, p⟩ => by
    rcases hP a i n p with z | ⟨k, z⟩
    · exact h z
    · exact h2 k z]
  exact clean_ne h2
theorem stay_backP {P : Addr → Prop} (hP : ∀ a, (∃ i, g.L a = .slot i) → H a ≠ none → P a → g'.L a = .out ∨ ∃ k, g'.L a = .slot k) : Stay g' H' (g.backP H g' P) H' := by
  refine ⟨fun a l _ => ?_, fun _ _ _ _ r => r, fun _ _ _ _ _ r => r, fun m l => ⟨rfl, ?_⟩⟩
  · rw [backP_at hP (by rw [l]; simp) (by rw [l]; simp)]; exact l
  · show (g.backP H g' P).L (g'.ι m) = _
    rw [backP_at hP (by rw [l]; simp) (by rw [l]; simp)]; exact l
theorem exts_backP {P : Addr → Prop} (h : IoR T g H σ as own vs ws) (hP : ∀ a, (∃ i, g.L a = .slot i) → H a ≠ none → P a → g'.L a = .out ∨ ∃ k, g'.L a = .slot k) (e : ExtS (g.give own vs) H g' H') : ExtS g H (g.backP H g' P) H' := by
  have nl : ∀ a, (∀ i, g.L a ≠ .slot i) → (g.give own vs).L a = g.L a := fun a ha => by
    rw [give_ne fun ⟨k, q⟩ => by obtain ⟨i, _, _, _, _, z, _⟩ := h.lent q; exact ha i z]
    exact clean_ne ha
  refine ⟨fun a n p => ?_, fun m l => ?_, e.some, fun a i n l => ?_⟩
  · have ns : ∀ i, g.L a ≠ .slot i := fun i z => by rcases p with p | p <;> (rw [p] at z; cases z)
    obtain ⟨k1, k2⟩ := e.keep a n (by rw [nl a ns]; exact p)
    refine ⟨?_, k2⟩
    rw [backP_ne fun ⟨⟨i, z⟩, _⟩ => ns i z]
    rw [nl a ns] at k1
    rw [clean_ne fun i z => by rw [k1] at z; exact ns i z]
    exact k1
  · have ns : ∀ i, g.L (g.ι m) ≠ .slot i := fun i z => by rw [l] at z; cases z
    obtain ⟨k1, k2⟩ := e.cel m (by show (g.give own vs).L (g.ι m) = _; rw [nl _ ns]; exact l)
    refine ⟨k1, ?_⟩
    show (g.backP H g' P).L (g.ι m) = _
    have k3 : g'.L (g.ι m) = .cell m := k2
    rw [backP_at hP (by rw [k3]; simp) (by rw [k3]; simp)]
    exact k3
  · by_cases q : (∃ i, g.L a = .slot i) ∧ H a ≠ none ∧ P a
    · exact q.1
    · rw [backP_ne q] at l
      exfalso
      have z : cleanL (g'.L a) = .slot i := l
      cases q : g'.L a <;> rw [q] at z <;> cases z
/-- the caller's slots that are not lent -/
theorem slot_backP {P : Addr → Prop} (s : Sim T g H env S σ) (h : IoR T g H σ as own vs ws) (hd : distinct as = true) (hP : ∀ a, (∃ i, g.L a = .slot i) → H a ≠ none → P a → g'.L a = .out ∨ ∃ k, g'.L a = .slot k) (e : ExtS (g.give own vs) H g' H')
    (hp : ∀ a, (¬∃ k, Lent own vs a k) → P a) {i : Nat} {fl : Flag} {w : W} (hi : ∀ k : Nat, as[k]? ≠ some (Sum.inl i)) (ha : env.at i = some (fl, w)) : SlotOk T (g.backP H g' P) H' σ i fl w := by
  have x := exts_backP h hP e
  have z := s.slots i fl w ha
  have key : ∀ a, g.L a = .slot i → H a ≠ none → (g.backP H g' P).L a = .slot i ∧ H' a = H a := by
    intro a l n
    have nq : ¬∃ k, Lent own vs a k := fun ⟨k, q⟩ => by
      obtain ⟨j, _, h1, _, _, z, _⟩ := h.lent q
      rw [l] at z
      cases z
      exact hi k h1
    refine ⟨backP_slot l n (hp a nq), (e.keep a n (.inl ?_)).2⟩
    rw [give_ne nq]
    exact clean_slot l
  cases fl with
  | v => obtain ⟨v, e1, r⟩ := z; exact ⟨v, e1, x.stay.repX r⟩
  | o =>
    obtain ⟨a, e1, l, o⟩ := z
    obtain ⟨l2, h2⟩ := key a l o.some
    exact ⟨a, e1, l2, o.stay x.stay h2⟩
  | k =>
    obtain ⟨a, e1, l, o⟩ := z
    obtain ⟨l2, h2⟩ := key a l o.some
    exact ⟨a, e1, l2, o.stay x.stay h2⟩
theorem ioBack_len : ∀ (as : List (Nat ⊕ E)) (fs : List W) (env : Env), (ioBack as fs env).length = env.length
  | [], _, env => by unfold ioBack; rfl
  | .inr _ :: as, fs, env => by rw [show ioBack (.inr _ :: as) fs env = ioBack as fs env by rw [ioBack]]; exact ioBack_len as fs env
  | .inl i :: as, [], env => by rw [ioBack] <;> simp
  | .inl i :: as, w :: fs, env => by rw [show ioBack (.inl i :: as) (w :: fs) env = ioBack as fs (env.put i (.o, w)) by rw [ioBack], ioBack_len]; unfold Env.put; rw [List.length_set]
theorem io_back (h : IoR T g H σ as own vs ws) : ∀ {j : Nat} {fs : List W} {env : Env} {i : Nat} {fl : Flag} {w : W}, FinOk T g' H' j own vs fs → (ioBack as fs env).at i = some (fl, w) →
    (fl = .o ∧ ∃ (a : Addr) (k : Nat), σ[i]? = some (some (V.ref a)) ∧ g.L a = .slot i ∧ Lent own vs a k ∧ Own T g' H' .o a w) ∨ ((∀ k : Nat, as[k]? ≠ some (Sum.inl i)) ∧ env.at i = some (fl, w)) := by
  induction h with
  | nil =>
    intro j fs env i fl w _ ha
    unfold ioBack at ha
    exact .inr ⟨fun k => by simp, ha⟩
  | @own i0 as bs vs ws a w0 e l o r ih =>
    intro j fs env i fl w f ha
    cases f with
    | @own _ _ _ fs' _ w1 fl1 o1 r1 =>
      rw [show ioBack (.inl i0 :: as) (w1 :: fs') env = ioBack as fs' (env.put i0 (.o, w1)) by rw [ioBack]] at ha
      rcases ih r1 ha with ⟨rfl, a', k, h1, h2, h3, h4⟩ | ⟨h1, h2⟩
      · exact .inl ⟨rfl, a', k + 1, h1, h2, ⟨h3.1, h3.2⟩, h4⟩
      · rcases at_put h2 with ⟨rfl, q⟩ | ⟨q1, q2⟩
        · cases q
          exact .inl ⟨rfl, a, 0, e, l, ⟨rfl, rfl⟩, o1⟩
        · refine .inr ⟨fun k hk => ?_, q2⟩
          cases k with
          | zero => cases hk; exact q1 rfl
          | succ k => exact h1 k hk
  | @val e0 as bs vs ws v w0 q r ih =>
    intro j fs env i fl w f ha
    cases f with
    | val r1 =>
      rw [show ioBack (.inr e0 :: as) fs env = ioBack as fs env by rw [ioBack]] at ha
      rcases ih r1 ha with ⟨rfl, a', k, h1, h2, h3, h4⟩ | ⟨h1, h2⟩
      · exact .inl ⟨rfl, a', k + 1, h1, h2, ⟨h3.1, h3.2⟩, h4⟩
      · refine .inr ⟨fun k hk => ?_, h2⟩
        cases k with
        | zero => cases hk
        | succ k => exact h1 k hk
theorem ioGone_len : ∀ (as : List (Nat ⊕ E)) (env : Env), (ioGone as env).length = env.length
  | [], env => by unfold ioGone; rfl
  | .inr _ :: as, env => by rw [show ioGone (.inr _ :: as) env = ioGone as env by rw [ioGone]]; exact ioGone_len as env
  | .inl i :: as, env => by rw [show ioGone (.inl i :: as) env = ioGone as (env.set i none) by rw [ioGone], ioGone_len, List.length_set]
theorem ioGone_at : ∀ {as : List (Nat ⊕ E)} {env : Env} {i : Nat} {x : Flag × W}, (ioGone as env).at i = some x → (∀ k : Nat, as[k]? ≠ some (Sum.inl i)) ∧ env.at i = some x
  | [], env, i, x, h => by unfold ioGone at h; exact ⟨fun k => by simp, h⟩
  | .inr e :: as, env, i, x, h => by
    rw [show ioGone (.inr e :: as) env = ioGone as env by rw [ioGone]] at h
    obtain ⟨h1, h2⟩ := ioGone_at h
    refine ⟨fun k hk => ?_, h2⟩
    cases k with
    | zero => cases hk
    | succ k => exact h1 k hk
  | .inl j :: as, env, i, x, h => by
    rw [show ioGone (.inl j :: as) env = ioGone as (env.set j none) by rw [ioGone]] at h
    obtain ⟨h1, h2⟩ := ioGone_at h
    have hij : i ≠ j := fun z => by
      subst z
      unfold Env.at at h2
      by_cases hi : i < env.length
      · rw [List.getElem?_set_self hi] at h2; cases h2
      · rw [List.getElem?_eq_none (by rw [List.length_set]; omega)] at h2; cases h2
    refine ⟨fun k hk => ?_, ?_⟩
    · cases k with
      | zero => cases hk; exact hij rfl
      | succ k => exact h1 k hk
    · unfold Env.at at h2 ⊢
      rwa [List.getElem?_set_ne (Ne.symm hij)] at h2
theorem fin_lent (h : IoR T g H σ as own vs ws) {fs : List W} (f : FinOk T g' H' 0 own vs fs) {a : Addr} {k : Nat} (q : Lent own vs a k) : ∃ k', g'.L a = .slot k' := by
  have key : ∀ {j : Nat} {own : List Bool} {vs : List V} {fs : List W}, FinOk T g' H' j own vs fs → ∀ k, Lent own vs a k → ∃ k', g'.L a = .slot k' := by
    intro j own vs fs f
    induction f with
    | nil => intro k q; cases (show ([] : List Bool)[k]? = some true from q.1) ▸ (by simp : ([] : List Bool)[k]? = none)
    | own l _ _ ih =>
      intro k q
      cases k with
      | zero => cases q.2; exact ⟨_, l⟩
      | succ k => exact ih k ⟨q.1, q.2⟩
    | val _ ih =>
      intro k q
      cases k with
      | zero => cases q.1
      | succ k => exact ih k ⟨q.1, q.2⟩
  exact key f k q
end
end
end Wb

namespace Wb
open PySem PySem.Spec PyProof.Rows
open L2 (V Hp HO Rd upd upd_same upd_ne SqL SqT VK TE TT TA TS TG TI TO Ends WX XK R2 Cx Inv RelV Vals ne_of_none PE PT PA PS PSs PG PI OpR UnR CallR MtR Gl Vis Loc)
section
variable {X : Cx} {T : Tx} {W' : WX} {B : Bd} {pos p : Pos} {g g1 g' g2 : Gh} {env env1 : Env} {S S1 S' : Store} {σ σ1 : L2.St} {H H1 H' H2 : Hp} {D : Ends}
def ResIO (T : Tx) (σ : L2.St) (as : List (Nat ⊕ E)) (own : List Bool) (H : Hp) (g' : Gh) (H' : Hp) (xs : List V) (ws : List W) : Prop := IoR T g' H' σ as own xs ws
theorem bm_resIO {as : List (Nat ⊕ E)} {own : List Bool} : BaseMono (ResIO T σ as own) := fun _ _ _ _ _ _ _ h => h
def tIO (T : Tx) (W' : WX) (as : List (Nat ⊕ E)) (own : List Bool) : TA := fun σ H Q => ∃ g env S, Sim T g H env S σ ∧ Post T W' false (ResIO T σ as own) g env σ H (ioArgs as own env S) Q
theorem so_nil : PA X [] (tIO T W' [] []) := by
  refine pa_imp L2.pa_nil fun σ H Q ⟨g, env, S, s, p⟩ => ?_
  unfold ioArgs at p
  exact p [] g H Ext.refl s .nil
theorem so_val {e : Expr} {es : List Expr} {e' : E} {as : List (Nat ⊕ E)} {own : List Bool} (he : PE X e (tE T W' .V e')) (hs : PA X es (tIO T W' as own)) (ok : okx e = true) : PA X (e :: es) (tIO T W' (.inr e' :: as) (false :: own)) := by
  refine pa_imp (L2.pa_cons he hs (star_cons ok es)) fun σ H Q ⟨g, env, S, s, p⟩ => ?_
  unfold ioArgs at p
  refine ⟨g, env, S, s, Post.bind (qa := quiet e') (qb := false) bm_resIO (by simp) p fun av S1 x g1 H1 _ e1 s1 r1 p1 => ?_⟩
  refine ⟨g1, env, S1, s1, Post.bind (qa := false) (qb := true) bm_resIO (by simp) p1 fun bv S2 y g2 H2 _ e2 s2 r2 p2 => ?_⟩
  exact p2 (x :: y) g2 H2 Ext.refl s2 (.val (e2.stay.repX r1) r2)
theorem so_var {i : Nat} {x : Str} {es : List Expr} {as : List (Nat ⊕ E)} {own : List Bool} (hi : X.N[i]? = some x) (hv : Vis X.env.scope x) (hd : (x == ("__debug__" : Str)) = false) (hcd : (x == ("__classdict__" : Str)) = false) (hs : PA X es (tIO T W' as own)) : PA X (.Name x p :: es) (tIO T W' (.inl i :: as) (true :: own)) := by
  refine pa_imp (L2.pa_cons (L2.pe_var (pos := p) hi hv hd hcd) hs (star_cons rfl es)) fun σ H Q ⟨g, env, S, s, p⟩ => ?_
  unfold ioArgs at p
  split at p
  · rename_i w hw
    obtain ⟨a, e1, l, o⟩ := s.slots i _ _ hw
    refine ⟨.ref a, e1, g, env, S, s, Post.bind (qa := false) (qb := true) bm_resIO (by simp) p fun bv S2 y g2 H2 _ e2 s2 r2 p2 => ?_⟩
    obtain ⟨a2, e3, l3, o3⟩ := s2.slots i _ _ hw
    rw [e1] at e3
    cases e3
    exact p2 (.ref a :: y) g2 H2 Ext.refl s2 (.own e1 l3 o3 r2)
  · exact p.elim
/-- what is wished for behind such a call -/
def Qt (t : Option Nat) (σ : L2.St) (D : Ends) : V → Hp → Prop := fun x H' => match t with
  | none => D.nx σ H'
  | some i => D.nx (σ.set i (some x)) H'
theorem spf_io {f : Fn} {as : List (Nat ⊕ E)} {vs : List V} {ws : List W} {t : Option Nat} (s : Sim T g H env S σ) (h : IoR T g H σ as f.own vs ws) (hd : distinct as = true) (hfr : f.fresh = false) (ht : ∀ i, t = some i → B.P i = false) (p : PostS T W' B g σ H (ioEnd t as (f.sem S ws) env) D) :
    spF T f vs H (Qt t σ D) (L2.WE W' σ) := by
  obtain ⟨l1, l2, l3⟩ := h.len
  refine ⟨g.give f.own vs, S, ws, l1, l2, sim_give s h hd, fun a i z => ?_, ?_⟩
  · by_cases q : ∃ k, Lent f.own vs a k
    · obtain ⟨k, q⟩ := q
      rw [give_at (h.uniq hd) q] at z
      cases z
      rw [List.getD_eq_getElem?_getD, q.1]
      rfl
    · exfalso
      rw [give_ne q] at z
      have z' : cleanL (g.L a) = .slot i := z
      cases q : g.L a <;> rw [q] at z' <;> cases z'
  cases hs : f.sem S ws with
  | bad => rw [hs] at p; exact p
  | ok r S' =>
    rw [hs] at p
    intro x g' H' e sc rt fin
    have hP : ∀ a, (∃ i, g.L a = .slot i) → H a ≠ none → True → g'.L a = .out ∨ ∃ k, g'.L a = .slot k := by
      intro a ⟨i, l⟩ n _
      by_cases q : ∃ k, Lent f.own vs a k
      · obtain ⟨k, q⟩ := q
        exact .inr (fin_lent h fin q)
      · have z : (g.give f.own vs).L a = .out := by rw [give_ne q]; exact clean_slot l
        exact .inl ((e.keep a n (.inl z)).1.trans z)
    have x1 := exts_backP (P := fun _ => True) h hP e
    have st2 := stay_backP (g := g) (H := H) (H' := H') (P := fun _ => True) hP
    have sb : Sim T (g.backP H g' fun _ => True) H' (ioBack as r.2 env) S' σ := by
      refine ⟨fun a n => ?_, by rw [ioBack_len]; exact s.len, fun i fl w ha => ?_, fun n cl hc => cell_stay st2 (fun a l _ => ⟨?_, rfl⟩) (sc.cells n cl hc), fun a n hl => ?_⟩
      · rw [backP_ne fun ⟨_, hn, _⟩ => e.some a hn n]
        exact clean_out (sc.wf a n)
      · rcases io_back h fin ha with ⟨rfl, a, k, h1, h2, h3, h4⟩ | ⟨h1, h2⟩
        · obtain ⟨_, _, _, _, _, _, o⟩ := h.lent h3
          exact ⟨a, h1, backP_slot h2 o.some trivial, h4.stay st2 rfl⟩
        · exact slot_backP s h hd hP e (fun _ _ => trivial) h1 h2
      · rcases l with l | ⟨f, l⟩
        · exact backP_at hP (by rw [l]; simp) (by rw [l]; simp)
        · exact backP_at hP (by rw [l]; simp) (by rw [l]; simp)
      · by_cases q : (∃ i, g.L a = .slot i) ∧ H a ≠ none ∧ True
        · obtain ⟨⟨i, q⟩, n', _⟩ := q
          rw [backP_slot q n' trivial] at hl
          cases hl
        · rw [backP_ne q] at hl
          exact sc.fin a n (clean_cell hl)
    unfold RetOk at rt
    rw [hfr, if_neg Bool.false_ne_true] at rt
    cases t with
    | none => exact p _ H' σ x1 sb Kp.refl
    | some i => exact p _ H' _ x1 (sb.put (st2.repX rt)) (Kp.refl.set (ht i rfl))
  | exn cc fs S' =>
    rw [hs] at p
    intro d g' H' e sc ex
    have hP : ∀ a, (∃ i, g.L a = .slot i) → H a ≠ none → (¬∃ k, Lent f.own vs a k) → g'.L a = .out ∨ ∃ k, g'.L a = .slot k := by
      intro a ⟨i, l⟩ n q
      have z : (g.give f.own vs).L a = .out := by rw [give_ne q]; exact clean_slot l
      exact .inl ((e.keep a n (.inl z)).1.trans z)
    have x1 := exts_backP (P := fun a => ¬∃ k, Lent f.own vs a k) h hP e
    have st2 := stay_backP (g := g) (H := H) (H' := H') (P := fun a => ¬∃ k, Lent f.own vs a k) hP
    have sb : Sim T (g.backP H g' fun a => ¬∃ k, Lent f.own vs a k) H' (ioGone as env) S' σ := by
      refine ⟨fun a n => ?_, by rw [ioGone_len]; exact s.len, fun i fl w ha => ?_, fun n cl hc => cell_stay st2 (fun a l _ => ⟨?_, rfl⟩) (sc.cells n cl hc), fun a n hl => ?_⟩
      · rw [backP_ne fun ⟨_, hn, _⟩ => e.some a hn n]
        exact clean_out (sc.wf a n)
      · obtain ⟨h1, h2⟩ := ioGone_at ha
        exact slot_backP s h hd hP e (fun _ q => q) h1 h2
      · rcases l with l | ⟨f, l⟩
        · exact backP_at hP (by rw [l]; simp) (by rw [l]; simp)
        · exact backP_at hP (by rw [l]; simp) (by rw [l]; simp)
      · by_cases q : (∃ i, g.L a = .slot i) ∧ H a ≠ none ∧ (¬∃ k, Lent f.own vs a k)
        · obtain ⟨⟨i, q⟩, n', q3⟩ := q
          rw [backP_slot q n' q3] at hl
          cases hl
        · rw [backP_ne q] at hl
          exact sc.fin a n (clean_cell hl)
    obtain ⟨gs, h1, h2⟩ := ex
    exact p d _ H' σ x1 sb Kp.refl ⟨gs, h1, paired_imp h2 fun _ _ z => ⟨z.1, st2.repX z.2⟩⟩
section
variable {f : Fn} {as : List (Nat ⊕ E)} {e : Expr} {es : List Expr} {n : Nat}
/-- f(xs, ..), a call that is lent own containers -/
theorem pe_io (G : XG X T) (tk : L2.Takes X W') {a : Addr} {fd : FuncData} {ps : List Str} (F : FOK T f a fd ps) (hdf : f.dfl = []) (hr : L2.Room n X.A) (hn : f.lvl ≤ n) (hg : Gl X f.nm) (hm : T.mg f.nm = some (.ref a))
    (hd : (f.nm == ("__debug__" : Str)) = false) (he : PA X (e :: es) (tIO T W' as f.own)) (ok : okx e = true) (oks : okxs es = true) (t : Option Nat) (ht : ∀ i, t = some i → B.P i = false) :
    PE X (.Call (.Name f.nm p) (e :: es) [] pos) (fun σ H Q => ∃ D g env S, Sim T g H env S σ ∧ PostS T W' B g σ H (exec (.callO t f as) env S) D ∧ ∀ x H', Qt t σ D x H' → Q x H') := by
  obtain ⟨ds, dvs, hb, hv, rv⟩ := F.dv 0 (Nat.zero_le _)
  have hdv : f.dv 0 = [] := by unfold Fn.dv; rw [hdf]; rfl
  rw [hdv] at rv
  cases rv
  cases hv
  have kp := F.kp
  rw [← G.eK] at hb kp
  rw [← G.eM] at hm
  have z := L2.pe_callSD (p := p) (pos := pos) (E := L2.WE W') (f_ok G F) (hr.mono hn) hg hm kp hb .nil (L2.passAt tk) he hd (star_cons ok es) (star_none oks pos)
  refine pe_imp z fun σ H Q ⟨D, g, env, S, s, p, hQ⟩ => ?_
  unfold exec at p
  split at p
  · rename_i hh
    refine ⟨g, env, S, s, p.out fun ws S1 vs g1 H1 _ e1 s1 r1 p1 => ?_⟩
    rw [List.append_nil]
    have z := spf_io s1 (show IoR T g1 H1 σ as f.own vs ws from r1) hh.1 hh.2 ht p1
    obtain ⟨g2, S2, ws2, q1, q2, q3, q4, q5⟩ := z
    refine ⟨g2, S2, ws2, q1, q2, q3, q4, ?_⟩
    revert q5
    cases f.sem S2 ws2 with
    | ok r S' => exact fun q x g' H' a1 a2 a3 a4 => hQ x H' (q x g' H' a1 a2 a3 a4)
    | _ => exact fun q => q
  · exact p.elim
/-- o.f(xs, ..) -/
theorem pe_mio (G : XG X T) (tk : L2.Takes X W') {o : Expr} {o' : E} {ap : Pos} (M : MthK T f) (hdf : f.dfl = []) (hr : L2.Room n X.A) (hn : f.lvl ≤ n) (ho : PE X o (tE T W' .V o')) (oko : okx o = true) (hlen : (e :: es).length < 29) (hl : (ap.endLine == pos.line) = true)
    (he : PA X (e :: es) (tIO T W' as f.own.tail)) (ok : okx e = true) (oks : okxs es = true) (t : Option Nat) (ht : ∀ i, t = some i → B.P i = false) :
    PE X (.Call (.Attribute o f.nm ap) (e :: es) [] pos) (fun σ H Q => ∃ D g env S, Sim T g H env S σ ∧ PostS T W' B g σ H (exec (.methO t f o' as) env S) D ∧ ∀ x H', Qt t σ D x H' → Q x H') := by
  obtain ⟨cl, a, fd, ps, hcl, hC, hM, F⟩ := M
  obtain ⟨ds, dvs, hb, hv, rv⟩ := F.dv 0 (Nat.zero_le _)
  have hdv : f.dv 0 = [] := by unfold Fn.dv; rw [hdf]; rfl
  rw [hdv] at rv
  cases rv
  cases hv
  rw [← G.eK] at hb hC hM
  have z := L2.pe_methSD (pos := pos) (E := L2.WE W') ho hC hM (f_ok G F) (hr.mono hn) hb .nil (L2.passAt tk) he (star_cons ok es) (star_none oks pos) (mcallN oko (by unfold okxs at oks ⊢; simp [ok, oks]) hlen hl)
  refine pe_imp z fun σ H Q ⟨D, g, env, S, s, p, hQ⟩ => ?_
  unfold exec at p
  split at p
  · rename_i hh
    refine ⟨g, env, S, s, p.out (qa := quiet o') fun ow S1 x g1 H1 eo e1 s1 r1 p1 => ?_⟩
    split at p1
    · rename_i hcs
      have hcs1 : clsOf ow S1 = some cl := hcs.1.trans hcl
      obtain ⟨ad, dx, gs, names, ex, hx, hk1, hnm⟩ := obj_at s1 (show RepX T g1 H1 x ow from r1).rdX hcs1
      refine ⟨ad, dx, gs, ex, hx, lookup_not (by rw [hnm]; rw [G.eK] at hM; exact meth_free hk1 hM), g1, env, S1, s1, p1.out fun ws S2 vs g2 H2 _ e2 s2 r2 p2 => ?_⟩
      rw [List.append_nil]
      have ho2 : f.own = false :: f.own.tail := by
        cases q : f.own with
        | nil => rw [q] at hcs; cases hcs.2.2
        | cons b r => rw [q] at hcs; have : b = false := hcs.2.2; rw [this]; rfl
      have hio : IoR T g2 H2 σ (.inr o' :: as) f.own (x :: vs) (ow :: ws) := by
        rw [ho2]
        exact .val (e2.stay.repX r1) r2
      have hend : ioEnd t as (f.sem S2 (ow :: ws)) env = ioEnd t (.inr o' :: as) (f.sem S2 (ow :: ws)) env := by
        unfold ioEnd
        cases f.sem S2 (ow :: ws) with
        | ok r S' => dsimp only; rw [show ioBack (.inr o' :: as) r.2 env = ioBack as r.2 env by rw [ioBack]]
        | exn c fs S' => dsimp only; rw [show ioGone (.inr o' :: as) env = ioGone as env by rw [ioGone]]
        | bad => rfl
      rw [hend] at p2
      have z := spf_io s2 hio hh.1 hh.2 ht p2
      obtain ⟨g3, S3, ws3, q1, q2, q3, q4, q5⟩ := z
      refine ⟨g3, S3, ws3, q1, q2, q3, q4, ?_⟩
      revert q5
      cases f.sem S3 ws3 with
      | ok r S' => exact fun q x g' H' a1 a2 a3 a4 => hQ x H' (q x g' H' a1 a2 a3 a4)
      | _ => exact fun q => q
    · exact p1.elim
  · exact p.elim
end
theorem ss_ioE {e : Expr} {st : Wb.S} (he : PE X e (fun σ H Q => ∃ D g env S, Sim T g H env S σ ∧ PostS T W' B g σ H (exec st env S) D ∧ ∀ x H', Qt none σ D x H' → Q x H')) (hs : swapsWith e none pos.line X.env = pure false) : PS X (.Expr e pos) (tS T W' B st) :=
  ps_imp (L2.ps_expr he hs) fun D σ H ⟨g, env, S, s, p⟩ => ⟨D, g, env, S, s, p, fun _ _ q => q⟩
theorem ss_ioA (G : XG X T) {i : Nat} {x : Str} {p2 : Pos} {e : Expr} {st : Wb.S} (hi : X.N[i]? = some x) (hx : Loc X.env.scope x) (hf : X.fn x = true ∨ X.env.scope.names.lookup x = some .local)
    (he : PE X e (fun σ H Q => ∃ D g env S, Sim T g H env S σ ∧ PostS T W' B g σ H (exec st env S) D ∧ ∀ x H', Qt (some i) σ D x H' → Q x H')) (hs : swapsWith e (some (.Name x p2)) pos.line X.env = pure false) : PS X (.Assign [.Name x p2] e pos) (tS T W' B st) :=
  ps_imp (L2.ps_set G.nd hi hx he hs hf) fun D σ H ⟨g, env, S, s, p⟩ => ⟨D, g, env, S, s, p, fun _ _ q => q⟩
end
end Wb

namespace Wb
open PySem PySem.Spec PyProof.Rows
open L2 (V Hp HO Rd upd upd_same upd_ne SqL SqT VK TE TT TA TS TG TI TO Ends WX XK R2 Cx Inv RelV Vals ne_of_none PE PT PA PS PSs PG PI OpR UnR CallR MtR Gl Vis Loc)
section
variable {X : Cx} {T : Tx} {W' : WX} {c : Ctx} {pos p : Pos} {g g1 g' g2 : Gh} {env env1 : Env} {S S1 S' : Store} {σ σ1 : L2.St} {H H1 H' H2 : Hp}
def flatV (ps : List (V × V)) : List V := ps.flatMap fun p => [p.1, p.2]
def ResP (T : Tx) (H : Hp) (g' : Gh) (H' : Hp) (ps : List (V × V)) (ws : List W) : Prop := Paired (RepX T g' H') (flatV ps) ws
theorem bm_resP : BaseMono (ResP T) := fun _ _ _ _ _ _ _ h => h
inductive PPr (X : Cx) (T : Tx) (W' : WX) : List (Option Expr) → List Expr → List E → Prop where
  | nil : PPr X T W' [] [] []
  | cons {k v : Expr} {k' v' : E} {ks : List (Option Expr)} {vs : List Expr} {es' : List E} (hk : PE X k (tE T W' .V k')) (hv : PE X v (tE T W' .V v')) (r : PPr X T W' ks vs es') : PPr X T W' (some k :: ks) (v :: vs) (k' :: v' :: es')
theorem PPr.pps {ks : List (Option Expr)} {vs : List Expr} {es' : List E} (h : PPr X T W' ks vs es') : ∃ trs, L2.PPs X pos ks vs trs ∧ ks.all (·.isSome) = true ∧ ks.length = vs.length ∧ ∀ {g env S σ H Q}, Sim T g H env S σ → Post T W' (quiets es') (ResP T) g env σ H (evs .V es' env S) Q → L2.tPairs trs σ H Q := by
  induction h with
  | nil =>
    refine ⟨[], L2.pps_nil, rfl, rfl, fun {g env S σ H Q} s p => ?_⟩
    unfold evs at p
    exact p [] g H Ext.refl s .nil
  | @cons k v k' v' ks vs es' hk hv r ih =>
    obtain ⟨trs, i1, i2, i3, i4⟩ := ih
    refine ⟨(_, _) :: trs, L2.pps_cons hk hv i1, by rw [List.all_cons, i2]; rfl, by rw [List.length_cons, List.length_cons, i3], fun {g env S σ H Q} s p => ?_⟩
    unfold evs at p
    refine ⟨g, env, S, s, Post.bind (qa := quiet k') (qb := quiet v' && quiets es') bm_resP (by simp [quiets]) p fun kw S1 x g1 H1 _ e1 s1 r1 p1 => ?_⟩
    unfold evs at p1
    rw [R.bind_assoc] at p1
    refine ⟨g1, env, S1, s1, Post.bind (qa := quiet v') (qb := quiets es') bm_resP (by simp) p1 fun vw S2 y g2 H2 _ e2 s2 r2 p2 => ?_⟩
    rw [R.bind_assoc] at p2
    refine i4 s2 (Post.bind (qa := quiets es') (qb := true) bm_resP (by simp) p2 fun ws S3 ps g3 H3 _ e3 s3 r3 p3 => ?_)
    rw [R.bind_ok] at p3
    exact p3 ((x, y) :: ps) g3 H3 Ext.refl s3 (.cons (e3.stay.repX (e2.stay.repX r1)) (.cons (e3.stay.repX r2) r3))
theorem pairs_of {ps : List (V × V)} : ∀ {ws : List W} {kws : List (Key × W)}, Paired (RepX T g H) (flatV ps) ws → pairsW ws = some kws → ∃ kvs : List (Key × V), ps = kvs.map (fun kv => (L2.kV kv.1, kv.2)) ∧ Paired (fun (p : Key × V) (q : Key × W) => p.1 = q.1 ∧ RepX T g H p.2 q.2) kvs kws := by
  induction ps with
  | nil =>
    intro ws kws r e
    cases r
    cases e
    exact ⟨[], rfl, .nil⟩
  | cons p ps ih =>
    intro ws kws r e
    obtain ⟨x, y⟩ := p
    have r' : Paired (RepX T g H) (x :: y :: flatV ps) ws := r
    cases r' with
    | @cons _ kw _ _ rk r2 =>
      cases r2 with
      | @cons _ vw _ ws' rv r3 =>
        have e' : (match keyW kw, pairsW ws' with | some k, some ps => some ((k, vw) :: ps) | _, _ => none) = some kws := e
        cases hk : keyW kw with
        | none => rw [hk] at e'; cases e'
        | some key =>
          cases hp : pairsW ws' with
          | none => rw [hk, hp] at e'; cases e'
          | some kws' =>
            rw [hk, hp] at e'
            cases e'
            obtain ⟨kvs, h1, h2⟩ := ih r3 hp
            refine ⟨(key, y) :: kvs, ?_, .cons ⟨rfl, rv⟩ h2⟩
            rw [List.map_cons, ← h1, key_rdx rk.rdX hk]
theorem merge_paired : ∀ {kvs : List (Key × V)} {kws : List (Key × W)} {ks : List (Key × V)} {acc : List (Key × W)}, Paired (fun (p : Key × V) (q : Key × W) => p.1 = q.1 ∧ RepX T g H p.2 q.2) kvs kws → Paired (fun (p : Key × V) (q : Key × W) => p.1 = q.1 ∧ RepX T g H p.2 q.2) ks acc →
    Paired (fun (p : Key × V) (q : Key × W) => p.1 = q.1 ∧ RepX T g H p.2 q.2) (L2.mergeK ks kvs) (kws.foldl (fun acc p => putW acc p.1 p.2) acc) := by
  intro kvs kws ks acc r
  induction r generalizing ks acc with
  | nil => exact fun h => h
  | @cons p q ps qs h _ ih =>
    intro ha
    refine ih (ks := L2.putK ks p.1 p.2) ?_
    have z := put_paired ha (k := p.1) h.2
    rw [h.1] at z
    rw [h.1]
    exact z
theorem se_dct {keys : List (Option Expr)} {values : List Expr} {es' : List E} (h : PPr X T W' keys values es') (h0 : keys ≠ []) (h15 : keys.length ≤ 15) : PE X (.Dict keys values pos) (tE T W' c (.dct es')) := by
  obtain ⟨trs, i1, i2, i3, i4⟩ := h.pps (pos := pos)
  refine pe_imp (L2.pe_disp i1 i2 i3 h0 h15) fun σ H Q ⟨g, env, S, s, p⟩ => ?_
  unfold ev at p
  intro d hd
  have xD := ext_new (o := .dK []) (l := .out) hd (s.wf d hd)
  have s0 := s.new (o := .dK []) .out hd
  refine i4 s0 ?_
  revert p
  cases hx : evs .V es' env S with
  | bad => exact fun p => p
  | exn cc fs S' => exact fun p dd g2 H2 e2 s2 ex => p dd g2 H2 ((xD.weak (by simp)).trans e2) s2 ex
  | ok ws S' =>
    intro p ps g2 H2 e2 s2 r2
    rw [R.bind_ok] at p
    have xd : Ext (quiets es') g H g2 H2 := (xD.weak (by simp)).trans e2
    obtain ⟨ld, hd2⟩ := e2.keep d (by rw [upd_same]; simp) (.inr (.inl lab_same))
    rw [lab_same] at ld
    rw [upd_same] at hd2
    refine ⟨hd2, ?_⟩
    cases hp : pairsW ws with
    | none => rw [hp] at p; exact p.elim
    | some kws =>
      rw [hp] at p
      dsimp only at p
      by_cases hz : kws.length ≤ 15
      · rw [if_pos hz] at p
        obtain ⟨kvs, h1, h2⟩ := pairs_of (show Paired (RepX T g2 H2) (flatV ps) ws from r2) hp
        refine ⟨kvs, h1, by rw [h2.length]; exact hz, ?_⟩
        have st2 : Stay g2 H2 g2 (upd H2 d (.dK (L2.mergeK [] kvs))) := stay_out ld
        have e7 : Ext (quiet (.dct es')) g H g2 (upd H2 d (.dK (L2.mergeK [] kvs))) := by
          refine ⟨fun a n pp => ?_, xd.cel, fun a n => ?_, xd.slot⟩
          · obtain ⟨k1, k2⟩ := xd.keep a n pp
            exact ⟨k1, (upd_ne fun z => n (by rw [z]; exact hd)).trans k2⟩
          · rw [upd_ne fun z => n (by rw [z]; exact hd)]; exact xd.some a n
        have p2 : ∀ x g' H', Ext (quiet (.dct es')) g H g' H' → Sim T g' H' env S' σ → Res T c H g' H' x (.dct (kws.foldl (fun acc p => putW acc p.1 p.2) [])) → Q x H' := p
        refine res_fresh (c := c) (w := .dct (kws.foldl (fun acc p => putW acc p.1 p.2) [])) hd e7 (s2.out ld) ld ⟨L2.mergeK [] kvs, by rw [if_neg (by simp)]; exact upd_same, ?_⟩ p2
        exact merge_paired (paired_imp h2 fun _ _ z => ⟨z.1, st2.repX z.2⟩) .nil
      · rw [if_neg hz] at p; exact p.elim
end
end Wb

namespace Wb
open PySem PySem.Spec PyProof.Rows
open L2 (V Hp HO Rd upd upd_same upd_ne SqL SqT VK TE TT TA TS TG TI TO Ends WX XK R2 Cx Inv RelV Vals ne_of_none PE PT PA PS PSs PG PI OpR UnR CallR MtR Gl Vis Loc OexC exo exd)
def XF.v (us : List V) : XF → V
  | .arg i => us.getD i .non
  | .cst s => .str s
/-- while the fields are stored -/
def IniS (a C : Addr) (H0 : Hp) (acc : List (Str × V)) (H : Hp) : Prop :=
  (acc = [] ∧ H = H0) ∨ ∃ d, d ≠ a ∧ H0 d = none ∧ H a = some (exo a C (some d)) ∧ H d = some (exd d acc) ∧ ∀ b, b ≠ a → b ≠ d → H b = H0 b
def accX (us : List V) : List (Str × XF) → List (Str × V) → List (Str × V)
  | [], acc => acc
  | p :: r, acc => accX us r ((p.1, p.2.v us) :: acc)
/-- what an __init__ of an exception promises -/
def spX (C : Addr) (x : Xc) : L2.Sp := fun vs H Q _ => ∃ a us, vs = .ref a :: us ∧ us.length = x.n ∧ H a = some (exo a C none) ∧ ∀ H', IniS a C H (accX us x.flds []) H' → Q .non H'
def locN (N : List Str) (sc : Scope) (i : Nat) (y : Str) : Bool := decide (N[i]? = some y) && (decide (sc.names.lookup y = some .local) && (!(y == ("__debug__" : Str)) && !(y == ("__classdict__" : Str))))
def mXF (N : List Str) (sc : Scope) (n : Nat) : Expr → XF → Bool
  | .Name y _, .arg i => locN N sc (i + 1) y && decide (i < n)
  | .Constant (.str t) _ _, .cst s => decide (t = s)
  | _, _ => false
def mIni (N : List Str) (sc : Scope) (n : Nat) : List Stmt → List (Str × XF) → Bool
  | [], [] => true
  | .Assign [.Attribute (.Name y _) f _] e _ :: r, (g, xf) :: rs => locN N sc 0 y && (decide (f = g) && (mXF N sc n e xf && mIni N sc n r rs))
  | _, _ => false
def mArg (N : List Str) (sc : Scope) (n : Nat) : Expr → Bool
  | .Name y _ => (List.range n).any fun i => locN N sc (i + 1) y
  | .Constant (.str _) _ _ => true
  | _ => false
def mIniD (N : List Str) (sc : Scope) (x : Xc) : List Stmt → Bool
  | .Expr (.Call (.Attribute (.Call (.Name s _) [] [] _) m ap) [e1] [] cp) _ :: rest => decide (s = "super") && (decide (m = "__init__") && ((ap.endLine == cp.line) && (mArg N sc x.n e1 && (decide (x.flds.length ≤ 900) && (decide (1 ≤ x.n) && mIni N sc x.n rest x.flds)))))
  | _ => false
theorem a2 {a b : Bool} (h : (a && b) = true) : a = true ∧ b = true := by rwa [Bool.and_eq_true] at h
section
variable {X : Cx} {sc : Scope}
end
/-- the class at hand -/
def XOK (T : Tx) (x : Xc) : Prop := OexC T.K (T.ca x.nm) ∧ ∃ fI fd ps, PySem.W.findIn T.K (.ref (T.ca x.nm)) "__init__" = some (some (.ref fI)) ∧ PySem.W.typeIn T.K (.ref fI) = some (.type "function") ∧
  L2.FnOk T.prog T.w T.K T.mg T.base (L2.CX T.prog T.w) 1 fI fd ps (spX (T.ca x.nm) x) ∧ L2.Binds T.K fd ps [] ∧ T.mg x.nm = some (.ref (T.ca x.nm))
end Wb

namespace Wb
open PySem PySem.Spec PyProof.Rows
open L2 (V Hp HO Rd upd upd_same upd_ne SqL SqT VK TE TT TA TS TG TI TO Ends WX XK R2 Cx Inv RelV Vals ne_of_none PE PT PA PS PSs PG PI OpR UnR CallR MtR Gl Vis Loc OexC exo exd)
theorem accX_eq (us : List V) : ∀ (fl : List (Str × XF)) (acc : List (Str × V)), accX us fl acc = (fl.reverse.map fun p => (p.1, p.2.v us)) ++ acc
  | [], acc => rfl
  | p :: r, acc => by
    unfold accX
    rw [accX_eq us r]
    simp
section
variable {X : Cx} {T : Tx} {W' : WX} {B : Bd} {pos p : Pos} {g : Gh} {H : Hp}
theorem paired_getD {F : V → W → Prop} (h0 : F .non .non) {xs : List V} {ws : List W} (h : Paired F xs ws) (i : Nat) : F (xs.getD i .non) (ws.getD i .non) := by
  induction h generalizing i with
  | nil => simpa using h0
  | cons r _ ih =>
    cases i with
    | zero => simpa using r
    | succ i => simpa using ih i
theorem vals_rep {x : Xc} {us : List V} {ws : List W} (r : Paired (RepX T g H) us ws) : Paired (fun (p : Str × V) (q : Str × W) => p.1 = q.1 ∧ RepX T g H p.2 q.2) (accX us x.flds []) (x.vals ws) := by
  rw [accX_eq, List.append_nil]
  unfold Xc.vals
  induction x.flds.reverse with
  | nil => exact .nil
  | cons a l ih =>
    refine .cons ⟨rfl, ?_⟩ ih
    obtain ⟨f, xf⟩ := a
    cases xf with
    | arg i => exact paired_getD repX_non r i
    | cst s => exact repX_str
theorem ss_raise (G : XG X T) (tk : L2.Takes X W') {x : Xc} (K : XOK T x) (hr : L2.Room 2 X.A) (hg : Gl X x.nm) (hd : (x.nm == ("__debug__" : Str)) = false) {e : Expr} {es : List Expr} {es' : List E} (he : PA X (e :: es) (tA T W' .V es')) (ok : okx e = true) (oks : okxs es = true)
    (hn : x.n ≤ 1000) (hf : x.flds ≠ []) {p0 : Pos} : PS X (.Raise (some (.Call (.Name x.nm p) (e :: es) [] pos)) none p0) (tS T W' B (.raise x es')) := by
  obtain ⟨O, fI, fd, ps, iC, tI, F1, hb, hm⟩ := K
  rw [← G.eK] at O iC tI hb
  rw [← G.eM] at hm
  have F1' : L2.FnOk X.prog X.w X.K X.mg X.base (L2.CX X.prog X.w) 1 fI fd ps (spX (T.ca x.nm) x) := by
    rw [G.eP, G.eW, G.eK, G.eM, G.eB]
    exact F1
  have z := L2.pmk_oex (p := p) (pos := pos) O iC tI F1' hr hb .nil (L2.passes_call tk fun _ _ _ _ h => h.elim) hg hm he hd (star_cons ok es) (star_none oks pos)
  refine ps_imp (L2.ps_raise G.calm tk z) fun D σ H ⟨g, env, S, s, p⟩ => ?_
  unfold exec at p
  refine ⟨g, env, S, s, p.out fun ws S1 vs g1 H1 _ e1 s1 r1 p1 => ?_⟩
  have r := resA_V r1
  split at p1
  · rename_i hl
    refine ⟨by rw [r.length, hl]; exact hn, fun a ha => ⟨a, vs, by rw [List.append_nil], by rw [r.length, hl], upd_same, fun H' i => ⟨rfl, ?_⟩⟩⟩
    rcases i with ⟨i, _⟩ | ⟨d, na, nd, e1', e2, e3⟩
    · exfalso
      rw [accX_eq, List.append_nil, List.map_eq_nil_iff, List.reverse_eq_nil_iff] at i
      exact hf i
    · rw [upd_ne na] at nd
      refine ⟨d, _, e1', e2, nd, ?_⟩
      have eh : upd (L2.del H' a) d (.xd (accX vs x.flds [])) = upd H1 d (.xd (accX vs x.flds [])) := by
        funext b
        by_cases hb : b = d
        · rw [hb, upd_same, upd_same]
        · rw [upd_ne hb, upd_ne hb]
          by_cases hba : b = a
          · rw [hba, L2.del_same, ha]
          · rw [L2.del_ne hba, e3 b hba hb, upd_ne hba]
      rw [eh]
      have ex := ext_new (g := g1) (o := .xd (accX vs x.flds [])) (l := .out) nd (s1.wf d nd)
      exact p1 d _ _ σ ex.toS (s1.new .out nd) Kp.refl ⟨_, upd_same, vals_rep (paired_imp r fun _ _ => ex.stay.repX)⟩
  · exact p1.elim
end
end Wb

namespace Wb
open PySem PySem.Spec PyProof.Rows
open L2 (V Hp HO Rd upd upd_same upd_ne SqL SqT VK TE TT TA TS TG TI TO Ends WX XK R2 Cx Inv RelV Vals ne_of_none PE PT PA PS PSs PG PI OpR UnR CallR MtR Gl Vis Loc)
/-- what is known of the place where a text stands -/
structure Inf where
  N : List Str
  sc : Scope
  own : Str → Bool
  lvl : Nat
structure XI (X : Cx) (T : Tx) (I : Inf) : Prop extends XG X T where
  eN : X.N = I.N
  eS : X.env.scope = I.sc
  eF : X.fn = I.own
  room : L2.Room I.lvl X.A
def nmOk (x : Str) : Bool := !(x == ("__debug__" : Str)) && !(x == ("__classdict__" : Str))
def visB (I : Inf) (x : Str) : Bool := match I.sc.names.lookup x with
  | some .local => true | some .cell => true | some .free => true | _ => false
def glB (I : Inf) (x : Str) : Bool := match I.sc.names.lookup x with
  | some .globalImplicit => true | _ => false
def locB (I : Inf) (x : Str) : Bool := match I.sc.names.lookup x with
  | some .local => true | some .cell => I.own x | _ => false
def varB (I : Inf) (i : Nat) (x : Str) : Bool := decide (I.N[i]? = some x) && visB I x && nmOk x
def stB (I : Inf) (i : Nat) (x : Str) : Bool := decide (I.N[i]? = some x) && locB I x
/-- a dict that is walked: a name, a field of a name's -/
def mK (I : Inf) (e : Expr) (ss : List E) : Bool := match ss, e with
  | [.var i], .Name x _ => varB I i x
  | [.attr (.var i) f], .Attribute (.Name x _) f2 _ => decide (f2 = f) && varB I i x
  | _, _ => false
/-- an own list that a comprehension walks: a name -/
def mOw (I : Inf) (e : Expr) (ss : List E) : Bool := match ss, e with
  | [.var i], .Name x _ => varB I i x
  | _, _ => false
def isO : Src → Bool
  | .own => true
  | _ => false
def isK : Src → Bool
  | .keys => true
  | _ => false
def notK : E → Bool
  | .lc _ .own _ _ _ _ => false
  | .lcF _ _ _ _ _ => false
  | _ => true
def cstB : Const → W → Bool
  | .none, .non => true
  | .bool b, .bl c => b == c
  | .int i, .int j => decide (i = j)
  | .str x, .str y => decide (x = y)
  | _, _ => false
def tyB (x : Str) (t : Ty) : Bool := decide (x = tyNs t)
/-- the built-ins' names that a text may use -/
def bltNs : List Str := ["len", "int", "str", "abs", "min", "max", "sum", "sorted", "list", "tuple", "dict", "divmod", "range", "zip", "isinstance", "bool"]
def BLT (T : Tx) : Prop := ∀ x ∈ bltNs, T.mg x = none
/-- what a text leans on: defs, globals -/
inductive Rq where
  | fn (f : Fn) | glob (x : Str) (w : W)
  | mth (f : Fn) | mk (f : Fn) (cl : Str) | fld (cl f : Str)
  | tupG (x : Str) | dicG (x : Str) (kvs : List (Key × W))
  | exc (x : Xc) | cat (cs : List Str) (x : Str) | xcl (cs : List Str) | xfl (cs : List Str) (f : Str)
/-- a class that is named in an except clause, or behind isinstance -/
def CatOk (T : Tx) (cs : List Str) (x : Str) : Prop := ∃ (cv : V) (v : Value), (∀ u, RelV cv u ↔ u = v) ∧ (x == ("__debug__" : Str)) = false ∧ (T.mg x = some v ∨ (T.mg x = none ∧ bootBuiltins x = some v ∧ x ≠ "__name__")) ∧
  ∀ c ∈ cs, PySem.W.exmOne T.K (.ref (T.ca c)) v = some (isSub c x) ∧ PySem.W.kitOne T.K (.ref (T.ca c)) v = some (isSub c x)
def Rq.ok (T : Tx) : Rq → Prop
  | .fn f => FnK T f
  | .mth f => MthK T f
  | .mk f cl => MkK T f cl
  | .fld cl f => L2.NoAttr T.K (T.ca cl) f
  | .glob x w => ∃ u v, T.mg x = some u ∧ RelV v u ∧ Stable T v w
  | .tupG x => ∃ q ob, T.mg x = some (.ref q) ∧ T.K.lookup q = some ob ∧ ob.cls = .type "tuple" ∧ ob.dict = none
  | .dicG x kvs => ∃ q ss, T.mg x = some (.ref q) ∧ DicK T.prog T.w T.K q ss ∧ kvs = ss.map dcW ∧ ss.length ≤ sizeLine
  | .exc x => XOK T x
  | .cat cs x => CatOk T cs x
  | .xcl cs => ∀ c ∈ cs, L2.XfC T.K (T.ca c) ∧ L2.ExcC T.K (T.ca c)
  | .xfl cs f => ∀ c ∈ cs, PySem.W.findIn T.K (.ref (T.ca c)) f = some none
def rqB : BM → E → List Rq
  | .indexT, .glob x _ => [.tupG x]
  | .subG x, .cst (.dct kvs) => [.dicG x kvs]
  | .tupG x, .cst (.dct kvs) => [.dicG x kvs]
  | _, _ => []
mutual
def rqE : E → List Rq
  | .glob x w => [.glob x w]
  | .bin _ a b => rqE a ++ rqE b
  | .neg a => rqE a
  | .not a => rqE a
  | .cmp _ a b => rqE a ++ rqE b
  | .chain _ _ a b c => rqE a ++ rqE b ++ rqE c
  | .and a b => rqE a ++ rqE b
  | .or a b => rqE a ++ rqE b
  | .ite c a b => rqE c ++ rqE a ++ rqE b
  | .tup es => rqEs es
  | .lst es => rqEs es
  | .dct es => rqEs es
  | .lc _ _ ss cs e _ => rqEs ss ++ rqEs cs ++ rqE e
  | .lcF _ _ _ e _ => rqE e
  | .dc _ _ ss cs k e _ => rqEs ss ++ rqEs cs ++ rqE k ++ rqE e
  | .fstr es => rqEs es
  | .fmt a => rqE a
  | .fmtw _ a => rqE a
  | .sub a b => rqE a ++ rqE b
  | .slice a l h => rqE a ++ rqEs l ++ rqEs h
  | .rev a => rqE a
  | .attr a _ => rqE a
  | .call f es _ => .fn f :: rqEs es
  | .meth f o es _ => .mth f :: (rqE o ++ rqEs es)
  | .pmeth f o es => .mth f :: (rqE o ++ rqEs es)
  | .pcall f es => .fn f :: rqEs es
  | .mk cl f es => .mk f cl :: rqEs es
  | .mkF cl f es => .mk f cl :: rqEs es
  | .bcall _ es => rqEs es
  | .bmeth b o es => rqB b o ++ (rqE o ++ rqEs es)
  | .isi a _ => rqE a
  | .tru a => rqE a
  | _ => []
def rqEs : List E → List Rq
  | [] => []
  | e :: es => rqE e ++ rqEs es
end
def RqOk (T : Tx) (l : List Rq) : Prop := ∀ r ∈ l, r.ok T
theorem RqOk.left {T : Tx} {a b : List Rq} (h : RqOk T (a ++ b)) : RqOk T a := fun r hr => h r (List.mem_append_left _ hr)
theorem RqOk.right {T : Tx} {a b : List Rq} (h : RqOk T (a ++ b)) : RqOk T b := fun r hr => h r (List.mem_append_right _ hr)
def mTgs (I : Inf) : List Expr → List Nat → Bool
  | [], [] => true
  | .Name x _ :: es, i :: is => stB I i x && mTgs I es is
  | _, _ => false
def mTg (I : Inf) : Expr → Tg → Bool
  | .Name x _, .one i => stB I i x
  | .Tuple es _ _, .many is => mTgs I es is
  | _, _ => false
def blkI (I : Inf) (scope : Scope) : Inf := { N := I.N, sc := L2.relS scope I.sc, own := fun x => scope.names.lookup x == some .cell, lvl := I.lvl }
/-- a module's name -/
def gnB (I : Inf) : Expr → E → Bool
  | .Name z _, .glob y _ => decide (z = y) && (glB I z && nmOk z)
  | _, _ => false
theorem gnB_ok {I : Inf} {o : Expr} {o' : E} (h : gnB I o o' = true) : ∃ z p w, o = .Name z p ∧ o' = .glob z w ∧ glB I z = true ∧ nmOk z = true := by
  unfold gnB at h
  split at h
  · rename_i z p y w
    rw [Bool.and_eq_true, Bool.and_eq_true] at h
    have e := of_decide_eq_true h.1
    subst e
    exact ⟨_, _, _, rfl, rfl, h.2.1, h.2.2⟩
  · cases h
mutual
def mE : Nat → Inf → Expr → E → Bool
  | 0, _, _, _ => false
  | n + 1, I, e, .var i => match e with
    | .Name x _ => varB I i x
    | _ => false
  | n + 1, I, e, .glob y w => match e with
    | .Name x _ => decide (x = y) && glB I x && nmOk x
    | _ => false
  | n + 1, I, e, .cst w => match e with
    | .Constant c _ _ => cstB c w
    | _ => false
  | n + 1, I, e, .bin o a' b' => match e with
    | .BinOp a op b _ => decide (op = opOf o) && (mE n I a a' && mE n I b b')
    | _ => false
  | n + 1, I, e, .neg a' => match e with
    | .UnaryOp .USub a _ => mE n I a a'
    | _ => false
  | n + 1, I, e, .not a' => match e with
    | .UnaryOp .Not a _ => mE n I a a'
    | _ => false
  | n + 1, I, e, .cmp o a' b' => match e with
    | .Compare a [op] [b] _ => decide (op = cmpOf o) && (okx b && (mE n I a a' && mE n I b b'))
    | _ => false
  | n + 1, I, e, .chain o1 o2 a' b' d' => match e with
    | .Compare a [p1, p2] [b, d] _ => decide (p1 = cmpOf o1) && (decide (p2 = cmpOf o2) && (okx d && (mE n I a a' && (mE n I b b' && mE n I d d'))))
    | _ => false
  | n + 1, I, e, .and a' b' => match e with
    | .BoolOp .And (a :: b :: r) p => mE n I a a' && mE n I (match r with | [] => b | _ => .BoolOp .And (b :: r) p) b'
    | _ => false
  | n + 1, I, e, .or a' b' => match e with
    | .BoolOp .Or (a :: b :: r) p => mE n I a a' && mE n I (match r with | [] => b | _ => .BoolOp .Or (b :: r) p) b'
    | _ => false
  | n + 1, I, e, .ite t' a' b' => match e with
    | .IfExp t a b _ => mT n I t t' && (mE n I a a' && mE n I b b')
    | _ => false
  | n + 1, I, e, .tup es' => match e with
    | .Tuple es _ _ => mEs n I es es'
    | _ => false
  | n + 1, I, e, .lst es' => match e with
    | .List es _ => mEs n I es es'
    | _ => false
  | n + 1, I, e, .dct es' => match e, es' with
    | .Dict [] [] _, [] => true
    | .Dict ks vs _, es' => !ks.isEmpty && (decide (ks.length ≤ 15) && mP n I ks vs es')
    | _, _ => false
  | n + 1, I, e, .lc tg' k ss' cs' elt' own => match e with
    | .ListComp elt [⟨tg, iter, ifs, 0⟩] scope _ => L2.blkC I.N I.sc scope own && (tg'.ixs.all (fun j => (own.map (·.2)).contains j) && (mTg (blkI I scope) tg tg' && (okx iter && ((if isK k then mK I iter ss' else if isO k then mOw I iter ss' else mI n I tg iter k ss') && (mC n (blkI I scope) ifs cs' && mE n (blkI I scope) elt elt')))))
    | _ => false
  | n + 1, I, e, .lcF tg' i f elt' own => match e with
    | .ListComp elt [⟨tg, .Attribute (.Name x _) f2 _, [], 0⟩] scope _ => decide (f2 = f) && (varB I i x && (L2.blkC I.N I.sc scope own && (tg'.ixs.all (fun j => (own.map (·.2)).contains j) && (mTg (blkI I scope) tg tg' && mE n (blkI I scope) elt elt'))))
    | _ => false
  | n + 1, I, e, .dc tg' k ss' cs' ke' ve' own => match e with
    | .DictComp ke ve [⟨tg, iter, ifs, 0⟩] scope _ => L2.blkC I.N I.sc scope own && (tg'.ixs.all (fun j => (own.map (·.2)).contains j) && (mTg (blkI I scope) tg tg' && (okx iter && ((if isK k then mK I iter ss' else mI n I tg iter k ss') && (mC n (blkI I scope) ifs cs' && (mE n (blkI I scope) ke ke' && mE n (blkI I scope) ve ve'))))))
    | _ => false
  | n + 1, I, e, .fstr es' => match e with
    | .JoinedStr (v :: es) _ => mJ n I (v :: es) es'
    | _ => false
  | n + 1, I, e, .fmt a' => match e with
    | .FormattedValue a (-1) none _ => mE n I a a'
    | _ => false
  | n + 1, I, e, .fmtw k a' => match e with
    | .FormattedValue a (-1) (some (.JoinedStr [.Constant (.str sp) _ _] _)) _ => decide (k = 2 ∨ k = 4) && (decide (sp = padS k) && mE n I a a')
    | _ => false
  | n + 1, I, e, .sub a' b' => match e with
    | .Subscript a b _ => okx b && (mE n I a a' && mE n I b b')
    | _ => false
  | n + 1, I, e, .slice a' lo' hi' => match e with
    | .Subscript a (.Slice lo hi none _) _ => mE n I a a' && (mO n I lo lo' && mO n I hi hi')
    | _ => false
  | n + 1, I, e, .rev a' => match e with
    | .Subscript a (.Slice none none (some (.UnaryOp .USub (.Constant (.int 1) _ _) _)) _) _ => mE n I a a'
    | _ => false
  | n + 1, I, e, .attr a' f => match e with
    | .Attribute a f2 _ => decide (f2 = f) && (okx a && mE n I a a')
    | _ => false
  | n + 1, I, e, .call f es' k => match e with
    | .Call (.Name x _) es [] _ => decide (x = f.nm) && (nmOk x && (glB I x && (decide (f.lvl ≤ I.lvl) && (decide (k ≤ f.dfl.length) && (decide (es'.length + k = f.own.length) && (match f.cls with | none => mEs n I es es' | some _ => false))))))
    | _ => false
  | n + 1, I, e, .meth f o' es' k => match e with
    | .Call (.Attribute o m ap) es [] p => decide (m = f.nm) && (okx o && ((ap.endLine == p.line) && (decide (f.lvl ≤ I.lvl) && (decide (k ≤ f.dfl.length) && (decide (es'.length + k + 1 = f.own.length) && (decide (es.length < 29) && (mE n I o o' && mEs n I es es')))))))
    | _ => false
  | n + 1, I, e, .pmeth f o' es' => match e with
    | .Call (.Attribute o m ap) es [] p => decide (m = f.nm) && (okx o && ((ap.endLine == p.line) && (decide (f.lvl ≤ I.lvl) && ((decide (es'.length + 1 = f.own.length) && (decide (es.length < 29) && (mE n I o o' && mEs n I es es')))))))
    | _ => false
  | n + 1, I, e, .pcall f es' => match e with
    | .Call (.Name x _) es [] _ => decide (x = f.nm) && (nmOk x && (glB I x && (decide (f.lvl ≤ I.lvl) && (decide (es'.length = f.own.length) && (!es.isEmpty && (match f.cls with | none => mEs n I es es' | some _ => false))))))
    | _ => false
  | n + 1, I, e, .mk cl f es' => match e with
    | .Call (.Name x _) es [] _ => decide (x = cl) && (nmOk x && (glB I x && (decide (f.lvl + 1 ≤ I.lvl) && (!f.fresh && (!es.isEmpty && ((match f.own with | false :: own => (own.all fun b => !b) && decide (es'.length = own.length) | _ => false) && mEs n I es es'))))))
    | _ => false
  | n + 1, I, e, .mkF cl f es' => match e with
    | .Call (.Name x _) es [] _ => decide (x = cl) && (nmOk x && (glB I x && (decide (f.lvl + 1 ≤ I.lvl) && (!f.fresh && (!es.isEmpty && ((match f.own with | true :: own => (own.all fun b => !b) && decide (es'.length = own.length) | _ => false) && mEs n I es es'))))))
    | _ => false
  | n + 1, I, e, .bcall b es' => match e with
    | .Call (.Name x _) es [] _ => decide (x = nB b) && (glB I x && (match es, es' with
      | [a], [a'] => okx a && mE n I a a'
      | [a1, a2], [a1', a2'] => mEs n I [a1, a2] [a1', a2']
      | _, _ => false))
    | _ => false
  | n + 1, I, e, .bmeth b o' es' => match e with
    | .Call (.Attribute o m ap) es [] p => okx o && ((ap.endLine == p.line) && (mE n I o o' && (match b, es, es' with
      | .get1, [a], [a'] => decide (m = "get") && (okx a && mE n I a a')
      | .get2, [a, d], [a', d'] => decide (m = "get") && (okx a && (okx d && (mE n I a a' && mE n I d d')))
      | .join, [a], [a'] => decide (m = "join") && (okx a && mE n I a a')
      | .split, [a], [a'] => decide (m = "split") && (okx a && mE n I a a')
      | .index, [a], [a'] => decide (m = "index") && (okx a && mE n I a a')
      | .indexT, [a], [a'] => decide (m = "index") && (okx a && (mE n I a a' && gnB I o o'))
      | _, _, _ => false)))
    | .Subscript (.Name z _) a _ => (match b, o', es' with
      | .subG y, .cst (.dct _), [a'] => decide (z = y) && (glB I z && (nmOk z && (okx a && mE n I a a')))
      | _, _, _ => false)
    | .Call (.Name t _) [.Name z _] [] _ => (match b, o', es' with
      | .tupG y, .cst (.dct _), [] => decide (t = "tuple") && (glB I "tuple" && (decide (z = y) && (glB I z && nmOk z)))
      | _, _, _ => false)
    | _ => false
  | n + 1, I, e, .isi a' t => match e with
    | .Call (.Name x _) [a, .Name y _] [] _ => decide (x = "isinstance") && (glB I "isinstance" && (decide (y = tyNs t) && (glB I y && (okx a && mE n I a a'))))
    | _ => false
  | n + 1, I, e, .tru _ => false
/-- a test -/
def mT : Nat → Inf → Expr → E → Bool
  | 0, _, _, _ => false
  | n + 1, I, e, ir => match e with
    | .UnaryOp .Not a _ => match ir with
      | .not a' => mT n I a a'
      | _ => false
    | .BoolOp .And (a :: b :: r) p => match ir with
      | .and a' b' => mT n I a a' && mT n I (match r with | [] => b | _ => .BoolOp .And (b :: r) p) b'
      | _ => false
    | .BoolOp .Or (a :: b :: r) p => match ir with
      | .or a' b' => mT n I a a' && mT n I (match r with | [] => b | _ => .BoolOp .Or (b :: r) p) b'
      | _ => false
    | .BoolOp _ _ _ => false
    | .IfExp _ _ _ _ => false
    | .UnaryOp _ _ _ => false
    | .Compare a [op] [b] _ => match ir with
      | .cmp o a' b' => decide (op = cmpOf o) && (okx b && (mE n I a a' && mE n I b b'))
      | _ => false
    | .Compare a [p1, p2] [b, d] _ => match ir with
      | .chain o1 o2 a' b' d' => decide (p1 = cmpOf o1) && (decide (p2 = cmpOf o2) && (okx d && (mE n I a a' && (mE n I b b' && mE n I d d'))))
      | _ => false
    | .Compare _ _ _ _ => false
    | e => match ir with
      | .tru a' => mE n I e a'
      | ir => mE n I e ir
def mEs : Nat → Inf → List Expr → List E → Bool
  | 0, _, _, _ => false
  | n + 1, I, [], [] => true
  | n + 1, I, e :: es, e' :: es' => okx e && (mE n I e e' && mEs n I es es')
  | n + 1, I, _, _ => false
/-- the pairs of a display -/
def mP : Nat → Inf → List (Option Expr) → List Expr → List E → Bool
  | 0, _, _, _, _ => false
  | n + 1, I, [], [], [] => true
  | n + 1, I, some k :: ks, v :: vs, k' :: v' :: es' => mE n I k k' && (mE n I v v' && mP n I ks vs es')
  | n + 1, I, _, _, _ => false
def mJ : Nat → Inf → List Expr → List E → Bool
  | 0, _, _, _ => false
  | n + 1, I, [], [] => true
  | n + 1, I, e :: es, e' :: es' => mE n I e e' && mJ n I es es'
  | n + 1, I, _, _ => false
def mO : Nat → Inf → Option Expr → List E → Bool
  | 0, _, _, _ => false
  | n + 1, I, none, [] => true
  | n + 1, I, some e, [e'] => mE n I e e'
  | n + 1, I, _, _ => false
/-- a comprehension's tests -/
def mC : Nat → Inf → List Expr → List E → Bool
  | 0, _, _, _ => false
  | n + 1, I, [], [] => true
  | n + 1, I, [e], [e'] => mT n I e e'
  | n + 1, I, _, _ => false
/-- what is walked -/
def mI : Nat → Inf → Expr → Expr → Src → List E → Bool
  | 0, _, _, _, _, _ => false
  | n + 1, I, tg, e, .iter, [e'] => mE n I e e'
  | n + 1, I, tg, e, .range, es' => match e with
    | .Call (.Name x _) es [] _ => decide (x = "range") && (glB I "range" && (decide (es.length = 1 ∨ es.length = 2) && mEs n I es es'))
    | _ => false
  | n + 1, I, tg, e, .zip, es' => match e, tg with
    | .Call (.Name x _) [a, b] [] _, .Tuple _ _ _ => decide (x = "zip") && (glB I "zip" && mEs n I [a, b] es')
    | _, _ => false
  | n + 1, I, _, _, _, _ => false
end
end Wb

namespace Wb
open PySem PySem.Spec PyProof.Rows
open L2 (V Hp HO Rd upd upd_same upd_ne SqL SqT VK TE TT TA TS TG TI TO Ends WX XK R2 Cx Inv RelV Vals ne_of_none PE PT PA PS PSs PG PI OpR UnR CallR MtR Gl Vis Loc)
section
variable {X : Cx} {T : Tx} {I : Inf} {W' : WX}
theorem vis_of (x : XI X T I) {y : Str} (h : visB I y = true) : Vis X.env.scope y := by
  unfold visB at h
  rw [x.eS]
  split at h
  · exact .inl (by assumption)
  · exact .inr (.inl (by assumption))
  · exact .inr (.inr (by assumption))
  · cases h
theorem gl_of (x : XI X T I) {y : Str} (h : glB I y = true) : Gl X y := by
  unfold glB at h
  show X.env.scope.names.lookup y = _
  rw [x.eS]
  split at h
  · assumption
  · cases h
theorem loc_of (x : XI X T I) {y : Str} (h : locB I y = true) : Loc X.env.scope y ∧ (X.fn y = true ∨ X.env.scope.names.lookup y = some .local) := by
  unfold locB at h
  rw [x.eS, x.eF]
  split at h
  · exact ⟨.inl (by assumption), .inr (by assumption)⟩
  · exact ⟨.inr (by assumption), .inl h⟩
  · cases h
theorem nm_of {y : Str} (h : nmOk y = true) : (y == ("__debug__" : Str)) = false ∧ (y == ("__classdict__" : Str)) = false := by
  unfold nmOk at h
  rw [Bool.and_eq_true, Bool.not_eq_true', Bool.not_eq_true'] at h
  exact h
theorem bl_of (x : XI X T I) (b : BLT T) {y : Str} (h : y ∈ bltNs) : X.mg y = none := by rw [x.eM]; exact b y h
theorem nB_mem (b : BI) : nB b ∈ bltNs := by cases b <;> decide +kernel
theorem tyNs_mem (b : Ty) : tyNs b ∈ bltNs := by cases b <;> decide +kernel
theorem cst_ok {c : Const} {w : W} {j : Nat} {pos : Pos} (h : cstB c w = true) : ∃ v, PE X (.Constant c j pos) (L2.tC v) ∧ Stable T v w := by
  cases c <;> cases w <;> first | cases h | skip
  · exact ⟨.non, L2.pe_non, fun _ _ => repX_non⟩
  · rename_i a b
    have e : a = b := by simpa [cstB] using h
    subst e
    exact ⟨.bl a, L2.pe_bl, fun _ _ => repX_bl⟩
  · rename_i a b
    have e : a = b := of_decide_eq_true h
    subst e
    exact ⟨.int a, L2.pe_int, fun _ _ => repX_int⟩
  · rename_i a b
    have e : a = b := of_decide_eq_true h
    subst e
    exact ⟨.str a, L2.pe_str, fun _ _ => repX_str⟩
theorem tgs_ok (x : XI X T I) : ∀ {es : List Expr} {is : List Nat}, mTgs I es is = true → L2.PGs X es (gsOf is) ∧ (assignEach es X.env).length = is.length ∧ (assignEach es X.env).findIdx? (·.1) = none
  | [], [], _ => ⟨L2.pgs_nil, rfl, rfl⟩
  | [], _ :: _, h => by cases h
  | e :: es, is, h => by
    cases e with
    | Name y p =>
      cases is with
      | nil => cases h
      | cons i is =>
        have h' : (stB I i y && mTgs I es is) = true := h
        rw [Bool.and_eq_true] at h'
        obtain ⟨h1, h2⟩ := h'
        unfold stB at h1
        rw [Bool.and_eq_true, decide_eq_true_eq] at h1
        obtain ⟨l1, l2⟩ := loc_of x h1.2
        obtain ⟨i1, i2, i3⟩ := tgs_ok x h2
        refine ⟨L2.pgs_cons (L2.pg_name x.nd (by rw [x.eN]; exact h1.1) l1 l2) i1, ?_, ?_⟩
        · show (assignEach es X.env).length + 1 = is.length + 1
          rw [i2]
        · show ((false, assign (.Name y p) X.env) :: assignEach es X.env).findIdx? (·.1) = none
          rw [List.findIdx?_cons, i3]
          rfl
    | _ => cases is <;> cases h
theorem tg_ok (x : XI X T I) {tg : Expr} {tg' : Tg} (h : mTg I tg tg' = true) : PG X tg (gOf T.K tg') := by
  cases tg' with
  | one i =>
    cases tg with
    | Name y p =>
      have h1 : stB I i y = true := h
      unfold stB at h1
      rw [Bool.and_eq_true, decide_eq_true_eq] at h1
      obtain ⟨l1, l2⟩ := loc_of x h1.2
      exact L2.pg_name x.nd (by rw [x.eN]; exact h1.1) l1 l2
    | _ => cases h
  | many is =>
    cases tg with
    | Tuple es k p =>
      obtain ⟨i1, i2, i3⟩ := tgs_ok x (show mTgs I es is = true from h)
      have z := L2.pg_tup (k := k) (pos := p) x.calm i1 i2 i3
      rw [x.eK] at z
      exact z
    | _ => cases h
theorem xi_blk (x : XI X T I) {scope : Scope} {s : Shared} {H : Hp} {C : Addr} {cl : List (Str × Addr)} {fp : List Addr} : XI (X.blk s H scope (compEnvC scope cl C X.env) fp) T (blkI I scope) where
  eK := x.eK
  eP := x.eP
  eW := x.eW
  eB := x.eB
  eM := x.eM
  nd := x.nd
  hu := x.hu
  calm := x.calm
  eN := x.eN
  eS := by
    show L2.relS scope X.env.scope = L2.relS scope I.sc
    rw [x.eS]
  eF := rfl
  room := x.room
theorem fold_ok {e : Expr} (h : okx e = true) (env : PySem.Env) : ∀ x, foldedSetIterable e env x = pure x := by
  intro x
  cases e <;> first | rfl | exact absurd h Bool.false_ne_true
end
structure Snd (n : Nat) : Prop where
  e : ∀ {X : Cx} {T : Tx} {I : Inf} {W' : WX}, XI X T I → L2.Takes X W' → BLT T → ∀ (x : Expr) (ir : E) (c : Ctx), mE n I x ir = true → RqOk T (rqE ir) → PE X x (tE T W' c ir)
  t : ∀ {X : Cx} {T : Tx} {I : Inf} {W' : WX}, XI X T I → L2.Takes X W' → BLT T → ∀ (x : Expr) (ir : E), mT n I x ir = true → RqOk T (rqE ir) → PT X x (tT T W' ir)
  es : ∀ {X : Cx} {T : Tx} {I : Inf} {W' : WX}, XI X T I → L2.Takes X W' → BLT T → ∀ (x : List Expr) (ir : List E), mEs n I x ir = true → RqOk T (rqEs ir) → PA X x (tA T W' .V ir) ∧ okxs x = true
  j : ∀ {X : Cx} {T : Tx} {I : Inf} {W' : WX}, XI X T I → L2.Takes X W' → BLT T → ∀ (x : List Expr) (ir : List E), mJ n I x ir = true → RqOk T (rqEs ir) → PJ X T W' x ir
  o : ∀ {X : Cx} {T : Tx} {I : Inf} {W' : WX}, XI X T I → L2.Takes X W' → BLT T → ∀ (x : Option Expr) (ir : List E), mO n I x ir = true → RqOk T (rqEs ir) → L2.PO X x (tO T W' ir)
  c : ∀ {X : Cx} {T : Tx} {I : Inf}, XI X T I → L2.Takes X WF → BLT T → ∀ (x : List Expr) (ir : List E), mC n I x ir = true → RqOk T (rqEs ir) → L2.PTs X x (tC T ir)
  i : ∀ {X : Cx} {T : Tx} {I : Inf} {W' : WX}, XI X T I → L2.Takes X W' → BLT T → ∀ (tg x : Expr) (k : Src) (ir : List E), mI n I tg x k ir = true → RqOk T (rqEs ir) → PI X tg x (tI T W' k ir)
  p : ∀ {X : Cx} {T : Tx} {I : Inf} {W' : WX}, XI X T I → L2.Takes X W' → BLT T → ∀ (ks : List (Option Expr)) (vs : List Expr) (ir : List E), mP n I ks vs ir = true → RqOk T (rqEs ir) → PPr X T W' ks vs ir
  q : ∀ {X : Cx} {T : Tx} {I : Inf} {W' : WX}, XI X T I → L2.Takes X W' → BLT T → ∀ (x : List Expr) (ir : List E), mEs n I x ir = true → RqOk T (rqEs ir) → PA X x (tQ T W' ir)
theorem snd0 : Snd 0 := by
  refine ⟨?_, ?_, ?_, ?_, ?_, ?_, ?_, fun _ _ _ _ _ _ h => (by cases h), fun _ _ _ _ _ h => (by cases h)⟩
  · intro X T I W' _ _ _ x ir c h; cases h
  · intro X T I W' _ _ _ x ir h; cases h
  · intro X T I W' _ _ _ x ir h; cases h
  · intro X T I W' _ _ _ x ir h; cases h
  · intro X T I W' _ _ _ x ir h; cases h
  · intro X T I _ _ _ x ir h; cases h
  · intro X T I W' _ _ _ tg x k ir h; cases h
theorem and2 {a b : Bool} (h : (a && b) = true) : a = true ∧ b = true := by rw [Bool.and_eq_true] at h; exact h
section
variable {n : Nat} (s : Snd n) {X : Cx} {T : Tx} {I : Inf} {W' : WX} (x : XI X T I) (tk : L2.Takes X W') (bl : BLT T)
include s x tk bl
theorem snd_es : ∀ (es : List Expr) (ir : List E), mEs (n + 1) I es ir = true → RqOk T (rqEs ir) → PA X es (tA T W' .V ir) ∧ okxs es = true := by
  intro es ir h r
  cases es with
  | nil =>
    cases ir with
    | nil => exact ⟨sa_nil, rfl⟩
    | cons _ _ => unfold mEs at h; cases h
  | cons e es =>
    cases ir with
    | nil => unfold mEs at h; cases h
    | cons e' es' =>
      unfold mEs at h
      obtain ⟨h1, h⟩ := and2 h
      obtain ⟨h2, h3⟩ := and2 h
      obtain ⟨i1, i2⟩ := s.es x tk bl es es' h3 r.right
      exact ⟨sa_cons (s.e x tk bl e e' .V h2 r.left) i1 h1, by show (okx e && okxs es) = true; rw [h1, i2]; rfl⟩
theorem snd_j : ∀ (es : List Expr) (ir : List E), mJ (n + 1) I es ir = true → RqOk T (rqEs ir) → PJ X T W' es ir := by
  intro es ir h r
  cases es with
  | nil =>
    cases ir with
    | nil => exact .nil
    | cons _ _ => unfold mJ at h; cases h
  | cons e es =>
    cases ir with
    | nil => unfold mJ at h; cases h
    | cons e' es' =>
      unfold mJ at h
      obtain ⟨h2, h3⟩ := and2 h
      exact .cons (s.e x tk bl e e' .V h2 r.left) (s.j x tk bl es es' h3 r.right)
theorem snd_p : ∀ (ks : List (Option Expr)) (vs : List Expr) (ir : List E), mP (n + 1) I ks vs ir = true → RqOk T (rqEs ir) → PPr X T W' ks vs ir := by
  intro ks vs ir h r
  match ks, vs, ir, h, r with
  | [], [], [], _, _ => exact .nil
  | some k :: ks, v :: vs, k' :: v' :: es', h, r =>
    unfold mP at h
    obtain ⟨h1, h⟩ := and2 h
    obtain ⟨h2, h3⟩ := and2 h
    exact .cons (s.e x tk bl k k' .V h1 r.left) (s.e x tk bl v v' .V h2 r.right.left) (s.p x tk bl ks vs es' h3 r.right.right)
  | [], [], _ :: _, h, _ => unfold mP at h; cases h
  | [], _ :: _, _, h, _ => unfold mP at h; cases h
  | none :: _, _, _, h, _ => unfold mP at h; cases h
  | some _ :: _, [], _, h, _ => unfold mP at h; cases h
  | some _ :: _, _ :: _, [], h, _ => unfold mP at h; cases h
  | some _ :: _, _ :: _, [_], h, _ => unfold mP at h; cases h
theorem snd_o : ∀ (e : Option Expr) (ir : List E), mO (n + 1) I e ir = true → RqOk T (rqEs ir) → L2.PO X e (tO T W' ir) := by
  intro e ir h r
  cases e with
  | none =>
    cases ir with
    | nil => exact so_none
    | cons _ _ => unfold mO at h; cases h
  | some e =>
    cases ir with
    | nil => unfold mO at h; cases h
    | cons e' es' =>
      cases es' with
      | nil => unfold mO at h; exact so_some (s.e x tk bl e e' .V h r.left)
      | cons _ _ => unfold mO at h; cases h
theorem snd_i : ∀ (tg e : Expr) (k : Src) (ir : List E), mI (n + 1) I tg e k ir = true → RqOk T (rqEs ir) → PI X tg e (tI T W' k ir) := by
  intro tg e k ir h r
  cases k with
  | iter =>
    cases ir with
    | nil => unfold mI at h; cases h
    | cons e' es' =>
      cases es' with
      | nil => unfold mI at h; exact si_iter x.toXG (s.e x tk bl e e' .V h r.left)
      | cons _ _ => unfold mI at h; cases h
  | keys => unfold mI at h; cases h
  | own => unfold mI at h; cases h
  | range =>
    unfold mI at h
    split at h
    · rename_i y p es pos
      obtain ⟨h1, h⟩ := and2 h
      obtain ⟨h2, h⟩ := and2 h
      obtain ⟨h3, h4⟩ := and2 h
      have ey := of_decide_eq_true h1
      have hl := of_decide_eq_true h3
      subst ey
      obtain ⟨i1, i2⟩ := s.es x tk bl es ir h4 r
      have hg := gl_of x h2
      have hm : X.mg "range" = none := bl_of x bl (by decide +kernel)
      cases es with
      | nil => rcases hl with hl | hl <;> cases hl
      | cons a es =>
        cases es with
        | nil =>
          have ia : (okx a && okxs []) = true := i2
          have ok := (and2 ia).1
          cases ir with
          | nil => cases n <;> (unfold mEs at h4; cases h4)
          | cons a' ir =>
            cases ir with
            | nil => exact si_rng1 x.toXG hg hm i1 ok
            | cons _ _ =>
              exfalso
              cases n with
              | zero => unfold mEs at h4; cases h4
              | succ n => unfold mEs at h4; obtain ⟨_, h4⟩ := and2 h4; obtain ⟨_, h4⟩ := and2 h4; cases n <;> (unfold mEs at h4; cases h4)
        | cons b es =>
          cases es with
          | cons _ _ => rcases hl with hl | hl <;> (simp at hl)
          | nil =>
            have ia : (okx a && (okx b && okxs [])) = true := i2
            have ok := (and2 ia).1
            have ok2 := (and2 (and2 ia).2).1
            have len : ir.length = 2 := by
              have key : ∀ (n : Nat) (es : List Expr) (ir : List E), mEs n I es ir = true → ir.length = es.length := by
                intro n
                induction n with
                | zero => intro es ir h; unfold mEs at h; cases h
                | succ n ih =>
                  intro es ir h
                  cases es <;> cases ir <;> first | rfl | (unfold mEs at h; cases h; done) | skip
                  unfold mEs at h
                  obtain ⟨_, h⟩ := and2 h
                  obtain ⟨_, h⟩ := and2 h
                  rw [List.length_cons, List.length_cons, ih _ _ h]
              exact key _ _ _ h4
            cases ir with
            | nil => cases len
            | cons a' ir =>
              cases ir with
              | nil => cases len
              | cons b' ir =>
                cases ir with
                | nil => exact si_rng2 x.toXG hg hm i1 ok ok2
                | cons _ _ => cases len
    · cases h
  | zip =>
    unfold mI at h
    split at h
    · rename_i y p a b pos elts kk tpos
      obtain ⟨h1, h⟩ := and2 h
      obtain ⟨h2, h4⟩ := and2 h
      have ey := of_decide_eq_true h1
      subst ey
      obtain ⟨i1, i2⟩ := s.es x tk bl _ ir h4 r
      have hg := gl_of x h2
      have hm : X.mg "zip" = none := bl_of x bl (by decide +kernel)
      have ia : (okx a && (okx b && okxs [])) = true := i2
      have ok := (and2 ia).1
      have ok2 := (and2 (and2 ia).2).1
      have len : ir.length = 2 := by
        have key : ∀ (n : Nat) (es : List Expr) (ir : List E), mEs n I es ir = true → ir.length = es.length := by
          intro n
          induction n with
          | zero => intro es ir h; unfold mEs at h; cases h
          | succ n ih =>
            intro es ir h
            cases es <;> cases ir <;> first | rfl | (unfold mEs at h; cases h; done) | skip
            unfold mEs at h
            obtain ⟨_, h⟩ := and2 h
            obtain ⟨_, h⟩ := and2 h
            rw [List.length_cons, List.length_cons, ih _ _ h]
        exact key _ _ _ h4
      cases ir with
      | nil => cases len
      | cons a' ir =>
        cases ir with
        | nil => cases len
        | cons b' ir =>
          cases ir with
          | nil => exact si_zip x.toXG hg hm i1 ok ok2
          | cons _ _ => cases len
    · cases h
end
section
variable {X : Cx} {T : Tx} {I : Inf} {W' : WX}
theorem mOw_ok (x : XI X T I) {e : Expr} {ss : List E} (h : mOw I e ss = true) : ∃ i, ss = [.var i] ∧ PE X e (L2.tVar i) := by
  unfold mOw at h
  split at h
  · rename_i i y p
    unfold varB at h
    obtain ⟨h1, hn⟩ := and2 h
    obtain ⟨h0, h1⟩ := and2 h1
    exact ⟨i, rfl, L2.pe_var (by rw [x.eN]; exact of_decide_eq_true h0) (vis_of x h1) (nm_of hn).1 (nm_of hn).2⟩
  · cases h
theorem fld_ok (x : XI X T I) {i : Nat} {y f : Str} {p1 p2 : Pos} (h1 : varB I i y = true) : PE X (.Attribute (.Name y p1) f p2) (L2.tFld T.K (L2.tVar i) f) := by
  unfold varB at h1
  obtain ⟨h1, hn⟩ := and2 h1
  obtain ⟨h0, h1⟩ := and2 h1
  have z := L2.pe_fld (pos := p2) (f := f) (L2.pe_var (pos := p1) (by rw [x.eN]; exact of_decide_eq_true h0) (vis_of x h1) (nm_of hn).1 (nm_of hn).2) (base_ok rfl f)
  rw [x.eK] at z
  exact z
theorem mK_ok (x : XI X T I) {e : Expr} {ss : List E} (h : mK I e ss = true) : ∃ t, PE X e t ∧ KSrc T W' ss t := by
  have hv : ∀ {i : Nat} {y : Str} {p : Pos}, varB I i y = true → PE X (.Name y p) (L2.tVar i) := by
    intro i y p h1
    unfold varB at h1
    obtain ⟨h1, hn⟩ := and2 h1
    obtain ⟨h0, h1⟩ := and2 h1
    exact L2.pe_var (by rw [x.eN]; exact of_decide_eq_true h0) (vis_of x h1) (nm_of hn).1 (nm_of hn).2
  unfold mK at h
  split at h
  · exact ⟨_, hv h, ksrc_var (W' := W') _⟩
  · rename_i i f y p1 f2 p2
    obtain ⟨h1, h2⟩ := and2 h
    have ef := of_decide_eq_true h1
    subst ef
    have z := L2.pe_fld (pos := p2) (f := f2) (hv (p := p1) h2) (base_ok rfl f2)
    rw [x.eK] at z
    exact ⟨_, z, ksrc_fld (W' := W') _ _⟩
  · cases h
end
end Wb

namespace Wb
open PySem PySem.Spec PyProof.Rows
open L2 (V Hp HO Rd upd upd_same upd_ne SqL SqT VK TE TT TA TS TG TI TO Ends WX XK R2 Cx Inv RelV Vals ne_of_none PE PT PA PS PSs PG PI OpR UnR CallR MtR Gl Vis Loc Zc)
def noTestC : Expr → Bool
  | .ListComp _ _ _ _ => false
  | .SetComp _ _ _ _ => false
  | .DictComp _ _ _ _ _ => false
  | _ => true
def mX0 (I : Inf) (o : Option Nat) : Expr → X0 → Bool
  | .Constant c _ _, .cst w => cstB c w
  | .Name y _, .var i => varB I i y
  | .Attribute (.Name y _) f _, .fld g => decide (f = g) && (match o with | some i => varB I i y | none => false)
  | _, _ => false
def mX0s (I : Inf) (o : Option Nat) : List Expr → List X0 → Bool
  | [], [] => true
  | e :: es, x :: xs => mX0 I o e x && mX0s I o es xs
  | _, _ => false
def mXV (I : Inf) (o : Option Nat) (e : Expr) : XV → Bool
  | .one x => mX0 I o e x
  | .tup xs => match e with
    | .Tuple es _ _ => mX0s I o es xs && decide (xs.length ≤ sizeL)
    | _ => false
def mXI (I : Inf) (o : Option Nat) : Expr → Str → Bool
  | .Call (.Name f _) [.Name e _, .Name y _] [] _, z => decide (f = "isinstance") && (glB I "isinstance" && (decide (y = z) && (glB I y && (match o with | some i => varB I i e | none => false))))
  | _, _ => false
def mXA (I : Inf) (o : Option Nat) (e : Expr) : Bool × Str → Bool
  | (true, z) => mXI I o e z
  | (false, z) => match e with
    | .UnaryOp .Not a _ => mXI I o a z
    | _ => false
def mXAs (I : Inf) (o : Option Nat) : List Expr → List (Bool × Str) → Bool
  | [e], [p] => mXA I o e p
  | e :: e2 :: es, p :: ps => mXA I o e p && mXAs I o (e2 :: es) ps
  | _, _ => false
def mXC (I : Inf) (o : Option Nat) (e : Expr) (ps : List (Bool × Str)) : Bool := match e with
  | .BoolOp .Or es _ => mXAs I o es ps
  | e => match ps with
    | [p] => mXA I o e p
    | _ => false
def neO (o : Option Nat) (i : Nat) : Bool := match o with
  | some j => i != j
  | none => true
def mXS (I : Inf) (B : Bd) (o : Option Nat) : XS → Stmt → Bool
  | .pass, st => match st with
    | .Pass _ => true
    | _ => false
  | .brk, st => match st with
    | .Break _ => true
    | _ => false
  | .cont, st => match st with
    | .Continue _ => true
    | _ => false
  | .retN, st => match st with
    | .Return none _ => !B.fresh
    | _ => false
  | .ret v, st => match st with
    | .Return (some e) _ => !B.fresh && mXV I o e v
    | _ => false
  | .asg i v, st => match st with
    | .Assign [.Name x p2] e _ => stB I i x && ((B.P i == false) && (neO o i && mXV I o e v))
    | _ => false
  | .ifx cs s', st => match st with
    | .If c [s] [] _ => mXC I o c cs && mXS I B o s' s
    | _ => false
def mXSs (I : Inf) (B : Bd) (o : Option Nat) : List Stmt → List XS → Bool
  | [], [] => true
  | s :: r, s' :: r' => mXS I B o s' s && mXSs I B o r r'
  | _, _ => false
def rqX0 (cs : List Str) : X0 → List Rq
  | .fld f => [.xfl cs f]
  | _ => []
def rqX0s (cs : List Str) : List X0 → List Rq
  | [] => []
  | x :: xs => rqX0 cs x ++ rqX0s cs xs
def rqXV (cs : List Str) : XV → List Rq
  | .one x => rqX0 cs x
  | .tup xs => rqX0s cs xs
def rqXC (cs : List Str) : List (Bool × Str) → List Rq
  | [] => []
  | p :: r => .cat cs p.2 :: rqXC cs r
def rqXS (cs : List Str) : XS → List Rq
  | .ret v => rqXV cs v
  | .asg _ v => rqXV cs v
  | .ifx ps s => rqXC cs ps ++ rqXS cs s
  | _ => []
def rqXSs (cs : List Str) : List XS → List Rq
  | [] => []
  | s :: r => rqXS cs s ++ rqXSs cs r
/-- the state in an except suite -/
structure SuSt (T : Tx) (o : Option Nat) (a dd : Addr) (fs : List (Str × W)) (g : Gh) (env : Env) (S : Store) (σ : L2.St) (H : Hp) : Prop where
  sim : Sim T g H env S σ
  ex : ExOk T g H dd fs
  as : ∀ i, o = some i → σ[i]? = some (some (.ref a))
section
variable {T : Tx} {o : Option Nat} {a dd : Addr} {fs : List (Str × W)} {g g' : Gh} {env : Env} {S : Store} {σ : L2.St} {H H' : Hp}
theorem SuSt.ext (s : SuSt T o a dd fs g env S σ H) (e : Ext true g H g' H') (wf : ∀ a, H' a = none → g'.L a = .out) (nc : ∀ a n, g'.L a = .cell n → g.L a = .cell n) : SuSt T o a dd fs g' env S σ H' := by
  refine ⟨s.sim.ext e wf nc, ?_, s.as⟩
  obtain ⟨gs, h1, h2⟩ := s.ex
  exact ⟨gs, (e.keep dd (by rw [h1]; simp) (.inl rfl)).2.trans h1, paired_imp h2 fun _ _ z => ⟨z.1, e.stay.repX z.2⟩⟩
end
section
variable {X : Cx} {T : Tx} {I : Inf} {a dd C : Addr} {oe : Obj} {cls : Value} {pn : List (Addr × Obj)} {o : Option Nat} {cs : List Str}
theorem as_ok (x : XI X T I) {i : Nat} {y : Str} {p : Pos} (h : varB I i y = true) : PE (X.suite a ((a, oe) :: pn)) (.Name y p) (L2.tVar i) := by
  unfold varB at h
  obtain ⟨h, h3⟩ := and2 h
  obtain ⟨h1, h2⟩ := and2 h
  exact L2.pe_var (X := X.suite a ((a, oe) :: pn)) (by show X.N[i]? = _; rw [x.eN]; exact of_decide_eq_true h1) (vis_of x h2) (nm_of h3).1 (nm_of h3).2
theorem fld_lookup {F : V → W → Prop} {f : Str} {w : W} : ∀ {gs : List (Str × V)} {fs : List (Str × W)}, Paired (fun (p : Str × V) (q : Str × W) => p.1 = q.1 ∧ F p.2 q.2) gs fs → fs.lookup f = some w → ∃ v, gs.lookup f = some v ∧ F v w := by
  intro gs fs h
  induction h with
  | nil => intro e; cases e
  | @cons p q gs fs r _ ih =>
    intro e
    obtain ⟨pf, pv⟩ := p
    obtain ⟨qf, qw⟩ := q
    obtain ⟨e1, r⟩ := r
    dsimp only at e1 r
    subst e1
    rw [L2.lookup_put]
    by_cases hf : f = pf
    · subst hf
      simp [List.lookup] at e
      subst e
      exact ⟨pv, if_pos rfl, r⟩
    · have hb : (f == pf) = false := by simpa using hf
      simp [List.lookup, hb] at e
      rw [if_neg hf]
      exact ih e
theorem x0_ok (x : XI X T I) {c : Str} (hc : c ∈ cs) (hcl : cls = .ref (T.ca c)) (hx : L2.XfC T.K (T.ca c)) (hz : Zc cls (some dd) oe) (hf : ∃ vs, oe.data = .fields vs) {e : Expr} {v : X0} (h : mX0 I o e v = true) (r : RqOk T (rqX0 cs v)) :
    ∃ t : TE, PE (X.suite a ((a, oe) :: pn)) e t ∧ (noTestC e = true ∧ okx e = true) ∧ ∀ {g env S σ H fs w} {Q : VK}, SuSt T o a dd fs g env S σ H → v.val fs env = some w → (∀ y, RepX T g H y w → Q y H) → t σ H Q := by
  unfold mX0 at h
  split at h
  · obtain ⟨y, h1, h2⟩ := cst_ok (X := X.suite a ((a, oe) :: pn)) (T := T) h
    refine ⟨_, h1, ⟨rfl, rfl⟩, fun {g env S σ H fs w Q} s e q => ?_⟩
    cases e
    exact q _ (h2 g H)
  · rename_i y p i
    refine ⟨_, as_ok x h, ⟨rfl, rfl⟩, fun {g env S σ H fs w Q} s e q => ?_⟩
    unfold X0.val at e
    dsimp only at e
    split at e
    · rename_i w' hw
      cases e
      obtain ⟨z, e1, rz⟩ := s.sim.slots i _ _ hw
      exact ⟨z, e1, q z rz⟩
    · cases e
  · rename_i y p f p2 g
    obtain ⟨h1, h2⟩ := and2 h
    have ef := of_decide_eq_true h1
    subst ef
    cases ho : o with
    | none => rw [ho] at h2; cases h2
    | some i =>
      rw [ho] at h2
      have hno := r (.xfl cs f) (by simp [rqX0]) c hc
      rw [← x.eK] at hx hno
      refine ⟨_, L2.pe_xf hx hno hz hf (as_ok x h2), ⟨rfl, rfl⟩, fun {g env S σ H fs w Q} s e q => ?_⟩
      obtain ⟨gs, q1, q2⟩ := s.ex
      obtain ⟨v, l, rv⟩ := fld_lookup q2 e
      exact ⟨.ref a, s.as i rfl, rfl, hcl, dd, gs, v, rfl, q1, l, q v rv⟩
  · cases h
theorem x0s_ok (x : XI X T I) {c : Str} (hc : c ∈ cs) (hcl : cls = .ref (T.ca c)) (hx : L2.XfC T.K (T.ca c)) (hz : Zc cls (some dd) oe) (hf : ∃ vs, oe.data = .fields vs) : ∀ {es : List Expr} {vs : List X0}, mX0s I o es vs = true → RqOk T (rqX0s cs vs) →
    ∃ t : TA, PA (X.suite a ((a, oe) :: pn)) es t ∧ ∀ {g env S σ H fs ws} {Q : List V → Hp → Prop}, SuSt T o a dd fs g env S σ H → valsX fs env vs = some ws → (∀ ys, Paired (RepX T g H) ys ws → Q ys H) → t σ H Q
  | [], [], _, _ => ⟨_, L2.pa_nil, fun {g env S σ H fs ws Q} s e q => by cases e; exact q [] .nil⟩
  | [], _ :: _, h, _ => by cases h
  | _ :: _, [], h, _ => by cases h
  | e :: es, v :: vs, h, r => by
    have h' : (mX0 I o e v && mX0s I o es vs) = true := h
    obtain ⟨h1, h2⟩ := and2 h'
    obtain ⟨t1, p1, n1, k1⟩ := x0_ok (pn := pn) (a := a) x hc hcl hx hz hf h1 (RqOk.left r)
    obtain ⟨t2, p2, k2⟩ := x0s_ok x hc hcl hx hz hf h2 (RqOk.right r)
    refine ⟨_, L2.pa_cons p1 p2 (star_cons n1.2 es), fun {g env S σ H fs ws Q} s e q => ?_⟩
    unfold valsX at e
    split at e
    · rename_i w ws' e1 e2
      cases e
      exact k1 s e1 fun y ry => k2 s e2 fun ys rys => q (y :: ys) (.cons ry rys)
    · cases e
theorem xv_ok (x : XI X T I) {c : Str} (hc : c ∈ cs) (hcl : cls = .ref (T.ca c)) (hx : L2.XfC T.K (T.ca c)) (hz : Zc cls (some dd) oe) (hf : ∃ vs, oe.data = .fields vs) {e : Expr} {v : XV} (h : mXV I o e v = true) (r : RqOk T (rqXV cs v)) :
    ∃ t : TE, PE (X.suite a ((a, oe) :: pn)) e t ∧ noTestC e = true ∧ ∀ {g env S σ H fs w} {Q : VK}, SuSt T o a dd fs g env S σ H → v.val fs env = some w → (∀ g' H' y, Ext true g H g' H' → SuSt T o a dd fs g' env S σ H' → RepX T g' H' y w → Q y H') → t σ H Q := by
  cases v with
  | one v =>
    obtain ⟨t, p, n, k⟩ := x0_ok (pn := pn) (a := a) x hc hcl hx hz hf h r
    exact ⟨t, p, n.1, fun {g env S σ H fs w Q} s e q => k s e fun y ry => q g H y Ext.refl s ry⟩
  | tup vs =>
    unfold mXV at h
    dsimp only at h
    split at h
    · rename_i es j p
      obtain ⟨h1, h2⟩ := and2 h
      obtain ⟨t, pt, k⟩ := x0s_ok (pn := pn) (a := a) x hc hcl hx hz hf h1 r
      refine ⟨_, L2.pe_tup pt, rfl, fun {g env S σ H fs w Q} s e q => ?_⟩
      unfold XV.val at e
      dsimp only at e
      cases ev : valsX fs env vs with
      | none => rw [ev] at e; cases e
      | some ws =>
        rw [ev] at e
        cases e
        have hlen : ∀ {vs : List X0} {ws : List W}, valsX fs env vs = some ws → ws.length = vs.length := by
          intro vs
          induction vs with
          | nil => intro ws e; cases e; rfl
          | cons v vs ih =>
            intro ws e
            unfold valsX at e
            split at e
            · rename_i w ws' e1 e2
              cases e
              rw [List.length_cons, List.length_cons, ih e2]
            · cases e
        refine k s ev fun ys rys => ⟨by rw [rys.length, hlen ev, ← sizeL_eq]; exact of_decide_eq_true h2, fun q0 hq => ?_⟩
        have ex := ext_new (g := g) (o := .tup ys) (l := .frz) hq (s.sim.wf q0 hq)
        exact q _ _ _ ex (s.ext ex (wf_new s.sim.wf) fun _ _ => lab_cell (by intro n h; cases h)) (repX_tup (.inl ⟨lab_same, .inl upd_same⟩) (paired_imp rys fun _ _ => ex.stay.repX))
    · cases h
theorem xi_ok (x : XI X T I) (bl : BLT T) {c : Str} (hc : c ∈ cs) (hx : L2.ExcC T.K (T.ca c)) (hz : Zc (.ref (T.ca c)) (some dd) oe) (hf : ∃ vs, oe.data = .fields vs) {e : Expr} {z : Str} (h : mXI I o e z = true) (r : CatOk T cs z) :
    ∃ t : TT, PT (X.suite a ((a, oe) :: pn)) e t ∧ ∀ {g env S σ H fs} {Q : Bool → Hp → Prop}, SuSt T o a dd fs g env S σ H → Q (isSub c z) H → t σ H Q := by
  unfold mXI at h
  split at h
  · rename_i f p1 en p2 y p3 pos
    obtain ⟨h1, h⟩ := and2 h
    obtain ⟨h2, h⟩ := and2 h
    obtain ⟨h3, h⟩ := and2 h
    obtain ⟨h4, h5⟩ := and2 h
    have e1 := of_decide_eq_true h1
    have e3 := of_decide_eq_true h3
    subst e1
    subst e3
    cases ho : o with
    | none => rw [ho] at h5; cases h5
    | some i =>
      rw [ho] at h5
      obtain ⟨cv, v, hcv, hdbg, hm, hall⟩ := r
      have pn' : PE (X.suite a ((a, oe) :: pn)) (.Name y p3) (L2.tC cv) := by
        rcases hm with hm | ⟨hm, hb, hn⟩
        · exact L2.pe_glob (X := X.suite a ((a, oe) :: pn)) (gl_of x h4) (by show X.mg y = _; rw [x.eM]; exact hm) ((hcv v).mpr rfl) hdbg
        · exact L2.pe_bltn (X := X.suite a ((a, oe) :: pn)) (gl_of x h4) (by show X.mg y = _; rw [x.eM]; exact hm) hb ((hcv v).mpr rfl) hn hdbg
      have hx' := hx
      rw [← x.eK] at hx'
      have zz := L2.pe_callB (p := p1) (pos := pos) (L2.call_isD (X := X) (a := a) (pn := pn) hx' hz hf) (gl_of x h2) (by show X.mg _ = none; exact bl_of x bl (by decide +kernel)) PyProof.Rows.boot_isinstance (L2.pa_cons (as_ok (p := p2) x h5) (L2.pa_cons pn' L2.pa_nil (star_cons rfl _)) (star_cons rfl _)) (by decide +kernel) (by decide +kernel) (star_cons rfl _) rfl
      refine ⟨_, L2.pt_val zz (fun _ => rfl), fun {g env S σ H fs Q} s q => ?_⟩
      obtain ⟨gs, q1, q2⟩ := s.ex
      refine ⟨.ref a, s.as i rfl, ?_⟩
      exact ⟨cv, v, isSub c y, rfl, fun u hu => (hcv u).mp hu, by show PySem.W.kitOne X.K _ _ = _; rw [x.eK]; exact (hall c hc).2, ⟨gs, q1⟩, _, rfl, q⟩
  · cases h
theorem xa_ok (x : XI X T I) (bl : BLT T) {c : Str} (hc : c ∈ cs) (hx : L2.ExcC T.K (T.ca c)) (hz : Zc (.ref (T.ca c)) (some dd) oe) (hf : ∃ vs, oe.data = .fields vs) {e : Expr} {p : Bool × Str} (h : mXA I o e p = true) (r : CatOk T cs p.2) :
    ∃ t : TT, PT (X.suite a ((a, oe) :: pn)) e t ∧ ∀ {g env S σ H fs} {Q : Bool → Hp → Prop}, SuSt T o a dd fs g env S σ H → Q (isSub c p.2 == p.1) H → t σ H Q := by
  obtain ⟨b, z⟩ := p
  cases b with
  | true =>
    obtain ⟨t, pt, k⟩ := xi_ok (pn := pn) (a := a) x bl hc hx hz hf h r
    exact ⟨t, pt, fun {g env S σ H fs Q} s q => k s (by simpa using q)⟩
  | false =>
    unfold mXA at h
    dsimp only at h
    split at h
    · obtain ⟨t, pt, k⟩ := xi_ok (pn := pn) (a := a) x bl hc hx hz hf h r
      exact ⟨_, L2.pt_not pt, fun {g env S σ H fs Q} s q => k s (by
        have e : (isSub c z == false) = !isSub c z := by cases isSub c z <;> rfl
        rw [e] at q
        exact q)⟩
    · cases h
theorem xas_ok (x : XI X T I) (bl : BLT T) {c : Str} (hc : c ∈ cs) (hx : L2.ExcC T.K (T.ca c)) (hz : Zc (.ref (T.ca c)) (some dd) oe) (hf : ∃ vs, oe.data = .fields vs) {pos : Pos} : ∀ {es : List Expr} {ps : List (Bool × Str)}, mXAs I o es ps = true → RqOk T (rqXC cs ps) →
    ∃ t : TT, L2.PW (X.suite a ((a, oe) :: pn)) (.BoolOp .Or es pos) t ∧ ∀ {g env S σ H fs} {Q : Bool → Hp → Prop}, SuSt T o a dd fs g env S σ H → Q (ps.any fun p => isSub c p.2 == p.1) H → t σ H Q
  | [], _, h, _ => by cases h
  | [e], [], h, _ => by cases h
  | [e], p :: p2 :: ps, h, _ => by cases h
  | e :: e2 :: es, [], h, _ => by cases h
  | [e], [p], h, r => by
    obtain ⟨t, pt, k⟩ := xa_ok (pn := pn) (a := a) x bl hc hx hz hf (show mXA I o e p = true from h) (r (.cat cs p.2) (by simp [rqXC]))
    exact ⟨_, L2.pw_or1 pt, fun {g env S σ H fs Q} s q => k s (by simpa using q)⟩
  | e :: e2 :: es, p :: ps, h, r => by
    have h' : (mXA I o e p && mXAs I o (e2 :: es) ps) = true := h
    obtain ⟨h1, h2⟩ := and2 h'
    obtain ⟨t, pt, k⟩ := xa_ok (pn := pn) (a := a) x bl hc hx hz hf h1 (r (.cat cs p.2) (by simp [rqXC]))
    obtain ⟨t2, pt2, k2⟩ := xas_ok x bl hc hx hz hf h2 (fun q hq => r q (List.mem_cons_of_mem _ hq))
    refine ⟨_, L2.pw_or pt pt2, fun {g env S σ H fs Q} s q => k s ?_⟩
    rw [List.any_cons] at q
    cases hb : (isSub c p.2 == p.1) with
    | true => rw [hb] at q; exact q
    | false => rw [hb] at q; exact k2 s q
theorem xc_ok (x : XI X T I) (bl : BLT T) {c : Str} (hc : c ∈ cs) (hx : L2.ExcC T.K (T.ca c)) (hz : Zc (.ref (T.ca c)) (some dd) oe) (hf : ∃ vs, oe.data = .fields vs) {e : Expr} {ps : List (Bool × Str)} (h : mXC I o e ps = true) (r : RqOk T (rqXC cs ps)) :
    ∃ t : TT, PT (X.suite a ((a, oe) :: pn)) e t ∧ ∀ {g env S σ H fs} {Q : Bool → Hp → Prop}, SuSt T o a dd fs g env S σ H → Q (ps.any fun p => isSub c p.2 == p.1) H → t σ H Q := by
  unfold mXC at h
  split at h
  · obtain ⟨t, pt, k⟩ := xas_ok (pn := pn) (a := a) x bl hc hx hz hf h r
    exact ⟨t, pt.pt, k⟩
  · split at h
    · rename_i p
      obtain ⟨t, pt, k⟩ := xa_ok (pn := pn) (a := a) x bl hc hx hz hf h (r (.cat cs p.2) (by simp [rqXC]))
      exact ⟨t, pt, fun {g env S σ H fs Q} s q => k s (by simpa using q)⟩
    · cases h
def PostX (T : Tx) (B : Bd) (o : Option Nat) (a dd : Addr) (fs : List (Str × W)) (g : Gh) (σ : L2.St) (H : Hp) (r : Out) (D : Ends) : Prop := match r with
  | .nx env' S' => ∀ g' H' σ', ExtS g H g' H' → SuSt T o a dd fs g' env' S' σ' H' → Kp B.P σ σ' → D.nx σ' H'
  | r => PostS T WF B g σ H r D
end
end Wb

namespace Wb
open PySem PySem.Spec PyProof.Rows
open L2 (V Hp HO Rd upd upd_same upd_ne SqL SqT VK TE TT TA TS TG TI TO Ends WX XK R2 Cx Inv RelV Vals ne_of_none PE PT PA PS PSs PG PI OpR UnR CallR MtR Gl Vis Loc Zc)
theorem sw_noC {e : Expr} (h : noTestC e = true) (t : Option Expr) (l : Nat) (env : PySem.Env) : swapsWith e t l env = pure false := by
  cases e <;> first | rfl | exact absurd h Bool.false_ne_true
theorem fb {b : Bool} (h : (b == false) = true) : b = false := by cases b <;> first | rfl | cases h
section
variable {X : Cx} {T : Tx} {I : Inf} {B : Bd} {a dd : Addr} {oe : Obj} {cls : Value} {pn : List (Addr × Obj)} {o : Option Nat} {cs : List Str}
theorem xs1_ok (x : XI X T I) (bl : BLT T) {c : Str} (hc : c ∈ cs) (hx : L2.XfC T.K (T.ca c)) (hxe : L2.ExcC T.K (T.ca c)) (hz : Zc (.ref (T.ca c)) (some dd) oe) (hf : ∃ vs, oe.data = .fields vs) : ∀ {s : XS} {st : Stmt}, mXS I B o s st = true → RqOk T (rqXS cs s) →
    ∃ t : TS, PS (X.suite a ((a, oe) :: pn)) st t ∧ ∀ {D : Ends} {g env S σ H fs}, SuSt T o a dd fs g env S σ H → PostX T B o a dd fs g σ H (runX c fs s env S) D → t D σ H := by
  intro s
  induction s with
  | pass =>
    intro st h r
    unfold mXS at h
    split at h
    · exact ⟨_, L2.ps_pass, fun {D g env S σ H fs} s p => p g H σ ExtS.refl s Kp.refl⟩
    · cases h
  | brk =>
    intro st h r
    unfold mXS at h
    split at h
    · exact ⟨_, L2.ps_break, fun {D g env S σ H fs} s p => p g H σ ExtS.refl s.sim Kp.refl⟩
    · cases h
  | cont =>
    intro st h r
    unfold mXS at h
    split at h
    · exact ⟨_, L2.ps_continue, fun {D g env S σ H fs} s p => p g H σ ExtS.refl s.sim Kp.refl⟩
    · cases h
  | retN =>
    intro st h r
    unfold mXS at h
    split at h
    · have hB : B.fresh = false := by simpa using h
      refine ⟨_, L2.ps_retN, fun {D g env S σ H fs} s p => p .non g H σ ExtS.refl s.sim Kp.refl ?_⟩
      unfold RetR
      rw [hB, if_neg Bool.false_ne_true]
      exact repX_non
    · cases h
  | ret v =>
    intro st h r
    unfold mXS at h
    split at h
    · obtain ⟨h1, h2⟩ := and2 h
      have hB : B.fresh = false := by simpa using h1
      obtain ⟨t, pt, n, k⟩ := xv_ok (pn := pn) (a := a) x hc rfl hx hz hf h2 r
      refine ⟨_, L2.ps_ret pt, fun {D g env S σ H fs} s p => ?_⟩
      unfold runX at p
      split at p
      · rename_i w hw
        refine k s hw fun g' H' y e s' ry => p y g' H' σ e.toS s'.sim Kp.refl ?_
        unfold RetR
        rw [hB, if_neg Bool.false_ne_true]
        exact ry
      · exact p.elim
    · cases h
  | asg i v =>
    intro st h r
    unfold mXS at h
    split at h
    · rename_i y p2 e pos
      obtain ⟨h1, h⟩ := and2 h
      obtain ⟨h2, h⟩ := and2 h
      obtain ⟨h3, h4⟩ := and2 h
      unfold stB at h1
      obtain ⟨h0, h1⟩ := and2 h1
      obtain ⟨l1, l2⟩ := loc_of x h1
      obtain ⟨t, pt, n, k⟩ := xv_ok (pn := pn) (a := a) x hc rfl hx hz hf h4 r
      refine ⟨_, L2.ps_set (X := X.suite a ((a, oe) :: pn)) x.nd (by show X.N[i]? = _; rw [x.eN]; exact of_decide_eq_true h0) l1 pt (sw_noC n _ _ _) l2, fun {D g env S σ H fs} s p => ?_⟩
      unfold runX at p
      split at p
      · rename_i w hw
        refine k s hw fun g' H' y e s' ry => p g' H' _ e.toS ⟨s'.sim.put ry, s'.ex, fun j hj => ?_⟩ (Kp.refl.set (fb h2))
        subst hj
        have hne : i ≠ j := by simpa [neO] using h3
        rw [List.getElem?_set_ne hne]
        exact s'.as j rfl
      · exact p.elim
    · cases h
  | ifx ps s ih =>
    intro st h r
    unfold mXS at h
    split at h
    · obtain ⟨h1, h2⟩ := and2 h
      obtain ⟨t1, p1, k1⟩ := xc_ok (pn := pn) (a := a) x bl hc hxe hz hf h1 (RqOk.left r)
      obtain ⟨t2, p2, k2⟩ := ih h2 (RqOk.right r)
      refine ⟨_, L2.ps_if p1 (L2.pss_cons p2 L2.pss_nil) L2.pss_nil, fun {D g env S σ H fs} s p => k1 s ?_⟩
      unfold runX at p
      split at p
      · rename_i hb
        rw [if_pos hb]
        exact k2 s p
      · rename_i hb
        rw [if_neg hb]
        exact p g H σ ExtS.refl s Kp.refl
    · cases h
theorem xss_ok (x : XI X T I) (bl : BLT T) {c : Str} (hc : c ∈ cs) (hx : L2.XfC T.K (T.ca c)) (hxe : L2.ExcC T.K (T.ca c)) (hz : Zc (.ref (T.ca c)) (some dd) oe) (hf : ∃ vs, oe.data = .fields vs) : ∀ {ss : List XS} {sts : List Stmt}, mXSs I B o sts ss = true → RqOk T (rqXSs cs ss) →
    ∃ t : TS, PSs (X.suite a ((a, oe) :: pn)) sts t ∧ ∀ {D : Ends} {g env S σ H fs}, SuSt T o a dd fs g env S σ H → PostX T B o a dd fs g σ H (runXs c fs ss env S) D → t D σ H
  | [], [], _, _ => ⟨_, L2.pss_nil, fun {D g env S σ H fs} s p => p g H σ ExtS.refl s Kp.refl⟩
  | [], _ :: _, h, _ => by cases h
  | _ :: _, [], h, _ => by cases h
  | s :: ss, st :: sts, h, r => by
    have h' : (mXS I B o s st && mXSs I B o sts ss) = true := h
    obtain ⟨h1, h2⟩ := and2 h'
    obtain ⟨t1, p1, k1⟩ := xs1_ok (pn := pn) (a := a) x bl hc hx hxe hz hf h1 (RqOk.left r)
    obtain ⟨t2, p2, k2⟩ := xss_ok x bl hc hx hxe hz hf h2 (RqOk.right r)
    refine ⟨_, L2.pss_cons p1 p2, fun {D g env S σ H fs} s p => k1 s ?_⟩
    unfold runXs at p
    revert p
    cases runX c fs _ env S with
    | nx env' S' =>
      intro p g' H' σ' e s' kk
      refine k2 s' ?_
      rw [Out.then_nx] at p
      revert p
      cases runXs c fs ss env' S' with
      | nx env2 S2 => exact fun p g2 H2 σ2 e2 s2 k2 => p g2 H2 σ2 (e.trans e2) s2 (kk.trans k2)
      | brk e1 S1 => exact fun p => PostS.rest (T := T) (W' := WF) (B := B) (o := .brk e1 S1) (D := D) e kk p
      | ct e1 S1 => exact fun p => PostS.rest (T := T) (W' := WF) (B := B) (o := .ct e1 S1) (D := D) e kk p
      | ret w1 e1 S1 => exact fun p => PostS.rest (T := T) (W' := WF) (B := B) (o := .ret w1 e1 S1) (D := D) e kk p
      | exn c1 f1 e1 S1 => exact fun p => PostS.rest (T := T) (W' := WF) (B := B) (o := .exn c1 f1 e1 S1) (D := D) e kk p
      | bad => exact fun p => p
    | _ => exact fun p => p
end
def tXs (T : Tx) (B : Bd) (o : Option Nat) (cs : List Str) (ss : List XS) (a : Addr) (cls : Value) (d : Option Addr) : TS := fun D σ H => ∃ c dd fs g env S, cls = .ref (T.ca c) ∧ c ∈ cs ∧ d = some dd ∧ (Sim T g H env S σ ∧ ExOk T g H dd fs ∧ ∀ i, o = some i → i < σ.length → σ[i]? = some (some (.ref a))) ∧ PostX T B o a dd fs g σ H (runXs c fs ss env S) D
theorem su_ok {X : Cx} {T : Tx} {I : Inf} {B : Bd} {o : Option Nat} {cs : List Str} (x : XI X T I) (bl : BLT T) (hcl : ∀ c ∈ cs, L2.XfC T.K (T.ca c) ∧ L2.ExcC T.K (T.ca c)) {ss : List XS} {sts : List Stmt} (h : mXSs I B o sts ss = true) (r : RqOk T (rqXSs cs ss)) (a : Addr) (oe : Obj) (cls : Value) (d : Option Addr) (pn : List (Addr × Obj)) (hz : Zc cls d oe) (hf : ∃ vs, oe.data = .fields vs) (hN : ∀ i, o = some i → i < X.N.length) :
    PSs (X.suite a ((a, oe) :: pn)) sts (tXs T B o cs ss a cls d) := by
  refine ⟨fun pins s σ H D I h => ?_⟩
  obtain ⟨c, dd, fs, g, env, S, e1, hc, e2, ⟨st1, st2, st3⟩, p⟩ := h
  have st : SuSt T o a dd fs g env S σ H := ⟨st1, st2, fun i hi => st3 i hi (by rw [I.len]; exact hN i hi)⟩
  subst e1
  subst e2
  obtain ⟨t, pt, k⟩ := xss_ok (pn := pn) (a := a) x bl hc (hcl c hc).1 (hcl c hc).2 hz hf ‹mXSs _ B o sts ss = true› r
  exact pt.run pins s σ H D I (k st p)
def mH (I : Inf) (B : Bd) : ExceptHandler → Hnd → Bool
  | .ExceptHandler (some (.Name y _)) nm suite _, h => decide (y = h.cls) && (glB I y && ((match nm, h.as with
      | none, none => true
      | some n, some i => decide (I.N[i]? = some n) && (decide (I.sc.names.lookup n = some .local) && (B.P i == false))
      | _, _ => false) && (!suite.isEmpty && mXSs I B h.as suite h.suite)))
  | _, _ => false
def mHs (I : Inf) (B : Bd) : List ExceptHandler → List Hnd → Bool
  | [], [] => true
  | e :: es, h :: hs => mH I B e h && mHs I B es hs
  | _, _ => false
def rqH (cs : List Str) : List Hnd → List Rq
  | [] => []
  | h :: r => .cat cs h.cls :: (rqXSs cs h.suite ++ rqH cs r)
section
variable {T : Tx} {g : Gh} {env : Env} {S : Store} {σ : L2.St} {H : Hp}
theorem Sim.wipe1 (s : Sim T g H env S σ) (i : Nat) (v : Option V) : Sim T g H (env.set i none) S (σ.set i v) := by
  refine ⟨s.wf, by rw [List.length_set, List.length_set]; exact s.len, fun j fl w h => ?_, s.cells, s.fin⟩
  unfold Env.at at h
  by_cases e : i = j
  · subst e
    by_cases hi : i < env.length
    · rw [List.getElem?_set_self hi] at h; cases h
    · rw [List.getElem?_eq_none (by simpa using hi)] at h; cases h
  · rw [List.getElem?_set_ne e] at h
    exact slot_ne (s.slots j fl w h) (Ne.symm e)
theorem Sim.wipeA (s : Sim T g H env S σ) (o : Option Nat) (a : Addr) : Sim T g H (wipeO o env) S (L2.sAs o a σ) := by
  cases o with
  | none => exact s
  | some i => exact s.wipe1 i _
end
theorem hds_ok {X : Cx} {T : Tx} {I : Inf} {B : Bd} {W' : WX} {cs : List Str} (x : XI X T I) (bl : BLT T) (hcl : ∀ c ∈ cs, L2.XfC T.K (T.ca c) ∧ L2.ExcC T.K (T.ca c)) : ∀ {es : List ExceptHandler} {hs : List Hnd}, mHs I B es hs = true → RqOk T (rqH cs hs) →
    ∃ l, L2.HdsA X es l ∧ ∀ {c fs d D g env S σ H}, c ∈ cs → Sim T g H env S σ → ExOk T g H d fs → PostS T W' B g σ H (hGo c fs hs env S) D → L2.wAll X.K W' D l (.ref (T.ca c)) (some d) σ H
  | [], [], _, _ => ⟨[], .nil, fun {c fs d D g env S σ H} hc s ex p => p d g H σ ExtS.refl s Kp.refl ex⟩
  | [], _ :: _, h, _ => by cases h
  | _ :: _, [], h, _ => by cases h
  | e :: es, h :: hs, hm, r => by
    have h' : (mH I B e h && mHs I B es hs) = true := hm
    obtain ⟨h1, h2⟩ := and2 h'
    obtain ⟨l, hl, kl⟩ := hds_ok (W' := W') x bl hcl h2 (fun q hq => r q (by simp [rqH, hq]))
    unfold mH at h1
    split at h1
    · rename_i y np nm suite pos
      obtain ⟨k1, h1⟩ := and2 h1
      obtain ⟨k2, h1⟩ := and2 h1
      obtain ⟨k3, h1⟩ := and2 h1
      obtain ⟨k4, k5⟩ := and2 h1
      have e1 := of_decide_eq_true k1
      subst e1
      obtain ⟨cv, v, hcv, hdbg, hmg, hall⟩ := r (.cat cs h.cls) (by simp [rqH])
      have hc : L2.Names X h.cls v := ⟨gl_of x k2, hdbg, by rw [x.eM]; exact hmg⟩
      have su := fun hN a oe cls d pn hz hf => su_ok (X := X) x bl hcl k5 (fun q hq => r q (by simp [rqH, hq])) a oe cls d pn hz hf hN
      have go : ∀ {c fs d D g env S σ H}, (∀ i, h.as = some i → B.P i = false) → c ∈ cs → Sim T g H env S σ → ExOk T g H d fs → PostS T W' B g σ H (hGo c fs (h :: hs) env S) D → L2.wAll X.K W' D ((v, h.as, tXs T B h.as cs h.suite) :: l) (.ref (T.ca c)) (some d) σ H := by
        intro c fs d D g env S σ H hP hc s ex p
        refine ⟨isSub c h.cls, by rw [x.eK]; exact (hall c hc).1, fun hb a ha => ?_, fun hb => ?_⟩
        · unfold hGo at p
          rw [if_pos hb] at p
          refine ⟨c, d, fs, g, wipeO h.as env, S, rfl, hc, rfl, ⟨s.wipeA h.as a, ex, fun i hi hlt => ?_⟩, ?_⟩
          · rw [hi]
            rw [hi] at hlt
            exact List.getElem?_set_self (by simpa [L2.sAs] using hlt)
          have kp : ∀ {σ'}, Kp B.P (L2.sAs h.as a σ) σ' → Kp B.P σ (match h.as with | none => σ' | some i => σ'.set i none) := by
            intro σ' kk
            cases ho : h.as with
            | none => rw [ho] at kk; exact kk
            | some i =>
              rw [ho] at kk
              have hi := hP i ho
              exact ((Kp.refl.set hi).trans kk).set hi
          revert p
          cases runXs c fs h.suite (wipeO h.as env) S with
          | bad => exact fun p => p
          | exn _ _ _ _ => exact fun p => p.elim
          | nx env' S' =>
            intro p g' H' σ' e' s' kk
            have p' := p g' H' _ e' (by
              cases ho : h.as with
              | none => exact s'.sim
              | some i => exact s'.sim.wipe1 i none) (kp kk)
            revert p'
            cases h.as <;> exact fun q => q
          | brk env' S' =>
            intro p g' H' σ' e' s' kk
            have p' := p g' H' _ e' (by
              cases ho : h.as with
              | none => exact s'
              | some i => exact s'.wipe1 i none) (kp kk)
            revert p'
            cases h.as <;> exact fun q => q
          | ct env' S' =>
            intro p g' H' σ' e' s' kk
            have p' := p g' H' _ e' (by
              cases ho : h.as with
              | none => exact s'
              | some i => exact s'.wipe1 i none) (kp kk)
            revert p'
            cases h.as <;> exact fun q => q
          | ret w env' S' =>
            intro p y g' H' σ' e' s' kk rr
            have p' := p y g' H' _ e' (by
              cases ho : h.as with
              | none => exact s'
              | some i => exact s'.wipe1 i none) (kp kk) rr
            revert p'
            cases h.as <;> exact fun q => q
        · unfold hGo at p
          rw [if_neg (by rw [hb]; exact Bool.false_ne_true)] at p
          exact kl hc s ex p
      cases suite with
      | nil => cases k4
      | cons b0 suite =>
        cases nm with
        | none =>
          cases ho : h.as with
          | some _ => rw [ho] at k3; cases k3
          | none =>
            refine ⟨(v, h.as, tXs T B h.as cs h.suite) :: l, ?_, fun {c fs d D g env S σ H} hc s ex p => go (fun i hi => by rw [ho] at hi; cases hi) hc s ex p⟩
            rw [ho]
            rw [ho] at su
            exact .no hc (su fun i hi => by cases hi) hl
        | some n =>
          cases ho : h.as with
          | none => rw [ho] at k3; cases k3
          | some i =>
            rw [ho] at k3
            obtain ⟨q1, q2⟩ := and2 k3
            obtain ⟨q2, q3⟩ := and2 q2
            have q1 := of_decide_eq_true q1
            refine ⟨(v, h.as, tXs T B h.as cs h.suite) :: l, ?_, fun {c fs d D g env S σ H} hc s ex p => go (fun j hj => ?_) hc s ex p⟩
            · rw [ho]
              rw [ho] at su
              exact .as (by rw [x.eN]; exact q1) (by show X.env.scope.names.lookup n = _; rw [x.eS]; exact of_decide_eq_true q2) hc (su fun j hj => by cases hj; rw [x.eN]; exact (List.getElem?_eq_some_iff.mp q1).1) hl
            · rw [ho] at hj
              cases hj
              exact fb q3
    · cases h1
theorem ss_try {X : Cx} {T : Tx} {I : Inf} {B : Bd} {W' : WX} {cs : List Str} (x : XI X T I) (tk : L2.Takes X W') (bl : BLT T) (hs : X.stack = X.env :: X.outer) (hf : X.env.frame = some X.env.locals) {body : List Stmt} {body' : List Wb.S} {es : List ExceptHandler} {hds : List Hnd} {pos : Pos}
    (hb : ∀ (W : WX) (pn : List (Addr × Obj)) (xe : Value → Shared → Prop), L2.Takes (X.tr pn xe) W → PassesOwn (model X.prog X.w) X.A X.env xe → PSs (X.tr pn xe) body (tSs T W B body'))
    (hcl : ∀ c ∈ cs, L2.XfC T.K (T.ca c) ∧ L2.ExcC T.K (T.ca c)) (he : es ≠ []) (hm : mHs I B es hds = true) (r : RqOk T (rqH cs hds)) : PS X (.Try body es [] [] pos) (tS T W' B (.try_ cs body' hds)) := by
  obtain ⟨l, hl, kl⟩ := hds_ok (W' := W') x bl hcl hm r
  cases es with
  | nil => exact absurd rfl he
  | cons h0 es =>
    refine ps_imp (L2.ps_try_all hs hf x.nd tk hb hl) fun D σ H ⟨g, env, S, s, p⟩ => ?_
    unfold exec at p
    refine ⟨g, env, S, s, ?_⟩
    revert p
    cases execs body' env S with
    | bad => exact fun p => p
    | nx e1 S1 => exact fun p => p
    | brk e1 S1 => exact fun p => p
    | ct e1 S1 => exact fun p => p
    | ret w1 e1 S1 => exact fun p => p
    | exn c fs e1 S1 =>
      intro p d g' H' σ' e' s' kk ex
      dsimp only at p
      split at p
      · rename_i hc
        exact kl hc s' ex (PostS.rest e' kk p)
      · exact p.elim
end Wb

namespace Wb
open PySem PySem.Spec PyProof.Rows
open L2 (V Hp HO Rd upd upd_same upd_ne SqL SqT VK TE TT TA TS TG TI TO Ends WX XK R2 Cx Inv RelV Vals ne_of_none PE PT PA PS PSs PG PI OpR UnR CallR MtR Gl Vis Loc)
section
variable {n : Nat} (s : Snd n) {X : Cx} {T : Tx} {I : Inf} {W' : WX} (x : XI X T I) (tk : L2.Takes X W') (bl : BLT T)
include s x tk bl
theorem snd_e : ∀ (e : Expr) (ir : E) (c : Ctx), mE (n + 1) I e ir = true → RqOk T (rqE ir) → PE X e (tE T W' c ir) := by
  intro e ir c h r
  cases ir with
  | var i =>
    unfold mE at h
    split at h
    · rename_i y p
      unfold varB at h
      obtain ⟨h, h3⟩ := and2 h
      obtain ⟨h1, h2⟩ := and2 h
      exact se_var (by rw [x.eN]; exact of_decide_eq_true h1) (vis_of x h2) (nm_of h3).1 (nm_of h3).2
    · cases h
  | glob y w =>
    unfold mE at h
    split at h
    · rename_i z p
      obtain ⟨h, h3⟩ := and2 h
      obtain ⟨h1, h2⟩ := and2 h
      have e := of_decide_eq_true h1
      subst e
      obtain ⟨u, v, hm, rv, st⟩ := r (.glob z w) (by simp [rqE])
      exact se_const (L2.pe_glob (gl_of x h2) (by rw [x.eM]; exact hm) rv (nm_of h3).1) st (fun _ _ _ => by unfold ev; rfl)
    · cases h
  | cst w =>
    unfold mE at h
    split at h
    · obtain ⟨v, h1, h2⟩ := cst_ok (T := T) h
      exact se_const h1 h2 (fun _ _ _ => by unfold ev; rfl)
    · cases h
  | bin o a b =>
    unfold mE at h
    split at h
    · obtain ⟨h1, h⟩ := and2 h
      obtain ⟨h2, h3⟩ := and2 h
      have e := of_decide_eq_true h1
      subst e
      exact se_bin (s.e x tk bl _ a _ h2 r.left) (s.e x tk bl _ b _ h3 r.right)
    · cases h
  | neg a =>
    unfold mE at h
    split at h
    · exact se_neg (s.e x tk bl _ a _ h r)
    · cases h
  | not a =>
    unfold mE at h
    split at h
    · exact se_not x.toXG (s.e x tk bl _ a _ h r)
    · cases h
  | cmp o a b =>
    unfold mE at h
    split at h
    · obtain ⟨h1, h⟩ := and2 h
      obtain ⟨h0, h⟩ := and2 h
      obtain ⟨h2, h3⟩ := and2 h
      have e := of_decide_eq_true h1
      subst e
      exact se_cmp x.toXG (s.e x tk bl _ a _ h2 r.left) (s.e x tk bl _ b _ h3 r.right) h0
    · cases h
  | chain o1 o2 a b d =>
    unfold mE at h
    split at h
    · obtain ⟨h1, h⟩ := and2 h
      obtain ⟨h1', h⟩ := and2 h
      obtain ⟨h0, h⟩ := and2 h
      obtain ⟨h2, h⟩ := and2 h
      obtain ⟨h3, h4⟩ := and2 h
      have e := of_decide_eq_true h1
      have e' := of_decide_eq_true h1'
      subst e
      subst e'
      exact se_chain x.toXG (s.e x tk bl _ a _ h2 r.left.left) (s.e x tk bl _ b _ h3 r.left.right) (s.e x tk bl _ d _ h4 r.right) h0
    · cases h
  | and a b =>
    unfold mE at h
    split at h
    · rename_i u v rest p
      obtain ⟨h1, h2⟩ := and2 h
      refine se_and (s.e x tk bl _ a _ h1 r.left) ?_
      cases rest with
      | nil => exact L2.pe_one (s.e x tk bl _ b c h2 r.right)
      | cons _ _ => exact s.e x tk bl _ b c h2 r.right
    · cases h
  | or a b =>
    unfold mE at h
    split at h
    · rename_i u v rest p
      obtain ⟨h1, h2⟩ := and2 h
      refine se_or x.toXG (s.e x tk bl _ a _ h1 r.left) ?_
      cases rest with
      | nil => exact L2.pe_one (s.e x tk bl _ b c h2 r.right)
      | cons _ _ => exact s.e x tk bl _ b c h2 r.right
    · cases h
  | ite t a b =>
    unfold mE at h
    split at h
    · obtain ⟨h1, h⟩ := and2 h
      obtain ⟨h2, h3⟩ := and2 h
      exact se_ite (s.t x tk bl _ t h1 r.left.left) (s.e x tk bl _ a c h2 r.left.right) (s.e x tk bl _ b c h3 r.right)
    · cases h
  | tup es =>
    unfold mE at h
    split at h
    · exact se_tup (s.es x tk bl _ es h r).1
    · cases h
  | lst es =>
    unfold mE at h
    split at h
    · exact se_lst (s.es x tk bl _ es h r).1
    · cases h
  | dct es =>
    unfold mE at h
    split at h
    · exact se_dnew
    · obtain ⟨h1, h⟩ := and2 h
      obtain ⟨h2, h3⟩ := and2 h
      exact se_dct (s.p x tk bl _ _ es h3 r) (fun z => by rw [z] at h1; cases h1) (of_decide_eq_true h2)
    · cases h
  | lc tg' k ss cs elt own =>
    unfold mE at h
    split at h
    · rename_i elt0 tg iter ifs scope p
      obtain ⟨h1, h⟩ := and2 h
      obtain ⟨h2, h⟩ := and2 h
      obtain ⟨h3, h⟩ := and2 h
      obtain ⟨h4, h⟩ := and2 h
      obtain ⟨h5, h⟩ := and2 h
      obtain ⟨h6, h7⟩ := and2 h
      have ok : L2.BlkOk X.N X.env.scope scope own := by
        rw [x.eN, x.eS]
        exact L2.blkOk_by h1
      by_cases hk : isK k = true
      · rw [if_pos hk] at h5
        have ek : k = .keys := by cases k <;> first | rfl | cases hk
        subst ek
        obtain ⟨t, hp, ksr⟩ := mK_ok (W' := W') x h5
        refine se_lcK x.toXG hp ksr ok (fun j hj => ?_) (fun st H C cl fp => tg_ok (xi_blk x) h3) (fun st H C cl fp => s.c (xi_blk x) (takes_false _) bl ifs cs h6 r.left.right) (fun st H C cl fp => s.e (xi_blk x) (takes_false _) bl elt0 elt .V h7 r.right) (fold_ok h4 _)
        have := List.all_eq_true.mp h2 j hj
        simpa using this
      · rw [if_neg hk] at h5
        by_cases ho : isO k = true
        · rw [if_pos ho] at h5
          have ek : k = .own := by cases k <;> first | rfl | cases ho
          subst ek
          obtain ⟨i, es, hp⟩ := mOw_ok x h5
          subst es
          refine se_lcO x.toXG hp ok (fun j hj => ?_) (fun st H C cl fp => tg_ok (xi_blk x) h3) (fun st H C cl fp => s.c (xi_blk x) (takes_false _) bl ifs cs h6 r.left.right) (fun st H C cl fp => s.e (xi_blk x) (takes_false _) bl elt0 elt .V h7 r.right) (fold_ok h4 _)
          have := List.all_eq_true.mp h2 j hj
          simpa using this
        · rw [if_neg ho] at h5
          refine se_lc x.toXG (s.i x tk bl tg iter k ss h5 r.left.left) ok (fun j hj => ?_) (fun st H C cl fp => tg_ok (xi_blk x) h3) (fun st H C cl fp => s.c (xi_blk x) (takes_false _) bl ifs cs h6 r.left.right) (fun st H C cl fp => s.e (xi_blk x) (takes_false _) bl elt0 elt .V h7 r.right) (fold_ok h4 _)
          have := List.all_eq_true.mp h2 j hj
          simpa using this
    · cases h
  | lcF tg' i f elt own =>
    unfold mE at h
    split at h
    · rename_i elt0 tg y p1 f2 p2 scope p
      obtain ⟨h1, h⟩ := and2 h
      obtain ⟨h2, h⟩ := and2 h
      obtain ⟨h3, h⟩ := and2 h
      obtain ⟨h4, h⟩ := and2 h
      obtain ⟨h5, h6⟩ := and2 h
      have ef := of_decide_eq_true h1
      subst ef
      have ok : L2.BlkOk X.N X.env.scope scope own := by
        rw [x.eN, x.eS]
        exact L2.blkOk_by h3
      refine se_lcF x.toXG (fld_ok x h2) ok (fun j hj => ?_) (fun st H C cl fp => tg_ok (xi_blk x) h5) (fun st H C cl fp => s.e (xi_blk x) (takes_false _) bl elt0 elt .V h6 r) (fold_ok rfl _)
      have := List.all_eq_true.mp h4 j hj
      simpa using this
    · cases h
  | dc tg' k ss cs ke ve own =>
    unfold mE at h
    split at h
    · rename_i ke0 ve0 tg iter ifs scope p
      obtain ⟨h1, h⟩ := and2 h
      obtain ⟨h2, h⟩ := and2 h
      obtain ⟨h3, h⟩ := and2 h
      obtain ⟨h4, h⟩ := and2 h
      obtain ⟨h5, h⟩ := and2 h
      obtain ⟨h6, h⟩ := and2 h
      obtain ⟨h7, h8⟩ := and2 h
      have ok : L2.BlkOk X.N X.env.scope scope own := by
        rw [x.eN, x.eS]
        exact L2.blkOk_by h1
      by_cases hk : isK k = true
      · rw [if_pos hk] at h5
        have ek : k = .keys := by cases k <;> first | rfl | cases hk
        subst ek
        obtain ⟨t, hp, ksr⟩ := mK_ok (W' := W') x h5
        refine se_dcK x.toXG hp ksr ok (fun j hj => ?_) (fun st H C cl fp => tg_ok (xi_blk x) h3) (fun st H C cl fp => s.c (xi_blk x) (takes_false _) bl ifs cs h6 r.left.left.right) (fun st H C cl fp => s.e (xi_blk x) (takes_false _) bl ke0 ke .V h7 r.left.right) (fun st H C cl fp => s.e (xi_blk x) (takes_false _) bl ve0 ve .V h8 r.right) (fold_ok h4 _)
        have := List.all_eq_true.mp h2 j hj
        simpa using this
      · rw [if_neg hk] at h5
        refine se_dc x.toXG (s.i x tk bl tg iter k ss h5 r.left.left.left) ok (fun j hj => ?_) (fun st H C cl fp => tg_ok (xi_blk x) h3) (fun st H C cl fp => s.c (xi_blk x) (takes_false _) bl ifs cs h6 r.left.left.right) (fun st H C cl fp => s.e (xi_blk x) (takes_false _) bl ke0 ke .V h7 r.left.right) (fun st H C cl fp => s.e (xi_blk x) (takes_false _) bl ve0 ve .V h8 r.right) (fold_ok h4 _)
        have := List.all_eq_true.mp h2 j hj
        simpa using this
    · cases h
  | fstr es =>
    unfold mE at h
    split at h
    · rename_i v0 es0 p
      have z := s.j x tk bl (v0 :: es0) es h r
      cases z with
      | cons z1 z2 =>
        cases z2 with
        | nil => exact se_fstr1 z1
        | cons z2 z3 => exact se_fstr (.cons z1 (.cons z2 z3))
    · cases h
  | fmt a =>
    unfold mE at h
    split at h
    · exact se_fmt (s.e x tk bl _ a _ h r)
    · cases h
  | fmtw k a =>
    unfold mE at h
    split at h
    · obtain ⟨h1, h⟩ := and2 h
      obtain ⟨h2, h3⟩ := and2 h
      exact se_fmtw (of_decide_eq_true h1) (of_decide_eq_true h2) (s.e x tk bl _ a _ h3 r)
    · cases h
  | sub a b =>
    unfold mE at h
    split at h
    · obtain ⟨h0, h⟩ := and2 h
      obtain ⟨h2, h3⟩ := and2 h
      exact se_sub x.toXG (s.e x tk bl _ a _ h2 r.left) (s.e x tk bl _ b _ h3 r.right) h0
    · cases h
  | slice a lo hi =>
    unfold mE at h
    split at h
    · obtain ⟨h1, h⟩ := and2 h
      obtain ⟨h2, h3⟩ := and2 h
      exact se_slice x.toXG (s.e x tk bl _ a _ h1 r.left.left) (s.o x tk bl _ lo h2 r.left.right) (s.o x tk bl _ hi h3 r.right)
    · cases h
  | rev a =>
    unfold mE at h
    split at h
    · exact se_rev x.toXG (s.e x tk bl _ a _ h r)
    · cases h
  | attr a f =>
    unfold mE at h
    split at h
    · obtain ⟨h1, h⟩ := and2 h
      obtain ⟨h2, h3⟩ := and2 h
      have e := of_decide_eq_true h1
      subst e
      exact se_attr x.toXG (s.e x tk bl _ a _ h3 r) h2
    · cases h
  | call f es' k =>
    unfold mE at h
    split at h
    · rename_i y p es pos
      obtain ⟨h1, h⟩ := and2 h
      obtain ⟨h2, h⟩ := and2 h
      obtain ⟨h3, h⟩ := and2 h
      obtain ⟨h4, h⟩ := and2 h
      obtain ⟨h5, h⟩ := and2 h
      obtain ⟨h6, h7⟩ := and2 h
      cases hc : f.cls with
      | some _ => rw [hc] at h7; cases h7
      | none =>
        rw [hc] at h7
        have h7 : mEs n I es es' = true := h7
        have e := of_decide_eq_true h1
        subst e
        obtain ⟨a, fd, ps, hm, F⟩ := r (.fn f) (by simp [rqE])
        obtain ⟨i1, i2⟩ := s.es x tk bl es es' h7 (fun q hq => r q (by simp [rqE, hq]))
        have hl := of_decide_eq_true h6
        have hg := gl_of x h3
        cases es with
        | nil =>
          cases es' with
          | nil => exact se_call0 x.toXG tk F x.room (of_decide_eq_true h4) hg hm (nm_of h2).1 (of_decide_eq_true h5) (by simpa using hl)
          | cons _ _ => cases n <;> (unfold mEs at h7; cases h7)
        | cons e0 es =>
          have ia : (okx e0 && okxs es) = true := i2
          exact se_call x.toXG tk F x.room (of_decide_eq_true h4) hg hm (nm_of h2).1 i1 (and2 ia).1 (and2 ia).2 (of_decide_eq_true h5) hl
    · cases h
  | meth f o' es' k =>
    unfold mE at h
    split at h
    · rename_i o m ap es pos
      obtain ⟨h1, h⟩ := and2 h
      obtain ⟨h2, h⟩ := and2 h
      obtain ⟨h3, h⟩ := and2 h
      obtain ⟨h4, h⟩ := and2 h
      obtain ⟨h5, h⟩ := and2 h
      obtain ⟨h6, h⟩ := and2 h
      obtain ⟨h7, h⟩ := and2 h
      obtain ⟨h8, h9⟩ := and2 h
      have e := of_decide_eq_true h1
      subst e
      have M : MthK T f := r (.mth f) (by simp [rqE])
      have io := s.e x tk bl o o' .V h8 (fun q hq => r q (by simp [rqE, hq]))
      obtain ⟨i1, i2⟩ := s.es x tk bl es es' h9 (fun q hq => r q (by simp [rqE, hq]))
      have hl := of_decide_eq_true h6
      cases es with
      | nil =>
        cases es' with
        | nil => exact se_meth0 x.toXG tk M x.room (of_decide_eq_true h4) io h2 h3 (of_decide_eq_true h5) (by simpa using hl)
        | cons _ _ => cases n <;> (unfold mEs at h9; cases h9)
      | cons e0 es =>
        have ia : (okx e0 && okxs es) = true := i2
        exact se_meth x.toXG tk M x.room (of_decide_eq_true h4) io h2 (of_decide_eq_true h7) h3 i1 (and2 ia).1 (and2 ia).2 (of_decide_eq_true h5) hl
    · cases h
  | pmeth f o' es' =>
    unfold mE at h
    split at h
    · rename_i o m ap es pos
      obtain ⟨h1, h⟩ := and2 h
      obtain ⟨h2, h⟩ := and2 h
      obtain ⟨h3, h⟩ := and2 h
      obtain ⟨h4, h⟩ := and2 h
      obtain ⟨h6, h⟩ := and2 h
      obtain ⟨h7, h⟩ := and2 h
      obtain ⟨h8, h9⟩ := and2 h
      have e := of_decide_eq_true h1
      subst e
      have M : MthK T f := r (.mth f) (by simp [rqE])
      have io := s.e x tk bl o o' .V h8 (fun q hq => r q (by simp [rqE, hq]))
      obtain ⟨i1, i2⟩ := s.es x tk bl es es' h9 (fun q hq => r q (by simp [rqE, hq]))
      have hl := of_decide_eq_true h6
      cases es with
      | nil =>
        cases es' with
        | nil => exact se_pmeth0 x.toXG tk M x.room (of_decide_eq_true h4) io h2 h3 (by simpa using hl)
        | cons _ _ => cases n <;> (unfold mEs at h9; cases h9)
      | cons e0 es =>
        have ia : (okx e0 && okxs es) = true := i2
        exact se_pmeth x.toXG tk M x.room (of_decide_eq_true h4) io h2 (of_decide_eq_true h7) h3 i1 (and2 ia).1 (and2 ia).2 hl
    · cases h
  | pcall f es' =>
    unfold mE at h
    split at h
    · rename_i y p es pos
      obtain ⟨h1, h⟩ := and2 h
      obtain ⟨h2, h⟩ := and2 h
      obtain ⟨h3, h⟩ := and2 h
      obtain ⟨h4, h⟩ := and2 h
      obtain ⟨h6, h⟩ := and2 h
      obtain ⟨h5, h7⟩ := and2 h
      cases hc : f.cls with
      | some _ => rw [hc] at h7; cases h7
      | none =>
        rw [hc] at h7
        have h7 : mEs n I es es' = true := h7
        have e := of_decide_eq_true h1
        subst e
        obtain ⟨a, fd, ps, hm, F⟩ := r (.fn f) (by simp [rqE])
        obtain ⟨_, i2⟩ := s.es x tk bl es es' h7 (fun q hq => r q (by simp [rqE, hq]))
        have i1 := s.q x tk bl es es' h7 (fun q hq => r q (by simp [rqE, hq]))
        have hl := of_decide_eq_true h6
        have hg := gl_of x h3
        cases es with
        | nil => cases h5
        | cons e0 es =>
          have ia : (okx e0 && okxs es) = true := i2
          exact se_pcall x.toXG tk F x.room (of_decide_eq_true h4) hg hm (nm_of h2).1 i1 (and2 ia).1 (and2 ia).2 hl
    · cases h
  | mk cl f es' =>
    unfold mE at h
    split at h
    · rename_i y p es pos
      obtain ⟨h1, h⟩ := and2 h
      obtain ⟨h2, h⟩ := and2 h
      obtain ⟨h3, h⟩ := and2 h
      obtain ⟨h4, h⟩ := and2 h
      obtain ⟨h5, h⟩ := and2 h
      obtain ⟨h6, h⟩ := and2 h
      obtain ⟨h7, h8⟩ := and2 h
      have e := of_decide_eq_true h1
      subst e
      have M : MkK T f y := r (.mk f y) (by simp [rqE])
      obtain ⟨i1, i2⟩ := s.es x tk bl es es' h8 (fun q hq => r q (by simp [rqE, hq]))
      split at h7
      · rename_i own ho
        obtain ⟨h7, h9⟩ := and2 h7
        cases es with
        | nil => cases h6
        | cons e0 es =>
          have ia : (okx e0 && okxs es) = true := i2
          exact se_mk x.toXG tk M ho h7 (by simpa using h5) x.room (of_decide_eq_true h4) (gl_of x h3) (nm_of h2).1 i1 (and2 ia).1 (and2 ia).2 (of_decide_eq_true h9)
      · cases h7
    · cases h
  | mkF cl f es' =>
    unfold mE at h
    split at h
    · rename_i y p es pos
      obtain ⟨h1, h⟩ := and2 h
      obtain ⟨h2, h⟩ := and2 h
      obtain ⟨h3, h⟩ := and2 h
      obtain ⟨h4, h⟩ := and2 h
      obtain ⟨h5, h⟩ := and2 h
      obtain ⟨h6, h⟩ := and2 h
      obtain ⟨h7, h8⟩ := and2 h
      have e := of_decide_eq_true h1
      subst e
      have M : MkK T f y := r (.mk f y) (by simp [rqE])
      obtain ⟨i1, i2⟩ := s.es x tk bl es es' h8 (fun q hq => r q (by simp [rqE, hq]))
      split at h7
      · rename_i own ho
        obtain ⟨h7, h9⟩ := and2 h7
        cases es with
        | nil => cases h6
        | cons e0 es =>
          have ia : (okx e0 && okxs es) = true := i2
          exact se_mkF x.toXG tk M ho h7 (by simpa using h5) x.room (of_decide_eq_true h4) (gl_of x h3) (nm_of h2).1 i1 (and2 ia).1 (and2 ia).2 (of_decide_eq_true h9)
      · cases h7
    · cases h
  | bcall b es' =>
    unfold mE at h
    split at h
    · rename_i y p es pos
      obtain ⟨h1, h⟩ := and2 h
      obtain ⟨h2, h7⟩ := and2 h
      have e := of_decide_eq_true h1
      subst e
      have hg := gl_of x h2
      have hm := bl_of x bl (nB_mem b)
      match es, es', h7, r with
      | [a], [a'], h7, r =>
        obtain ⟨h3, h4⟩ := and2 h7
        exact se_bi1 x.toXG hg hm (s.e x tk bl a a' .B h4 r.left) h3
      | [a1, a2], [a1', a2'], h7, r =>
        obtain ⟨i1, i2⟩ := s.es x tk bl [a1, a2] [a1', a2'] h7 r
        have ia : (okx a1 && (okx a2 && okxs [])) = true := i2
        exact se_bi2 x.toXG hg hm i1 (and2 ia).1 (and2 (and2 ia).2).1
      | [], _, h7, _ => cases h7
      | [_], [], h7, _ => cases h7
      | [_], _ :: _ :: _, h7, _ => cases h7
      | [_, _], [], h7, _ => cases h7
      | [_, _], [_], h7, _ => cases h7
      | [_, _], _ :: _ :: _ :: _, h7, _ => cases h7
      | _ :: _ :: _ :: _, _, h7, _ => cases h7
    · cases h
  | bmeth b o' es' =>
    have r0 := r.left
    have rr := r.right
    unfold mE at h
    split at h
    · rename_i o m ap es p
      obtain ⟨h1, h⟩ := and2 h
      obtain ⟨h2, h⟩ := and2 h
      obtain ⟨h3, h⟩ := and2 h
      split at h
      · obtain ⟨h4, h⟩ := and2 h
        obtain ⟨h5, h6⟩ := and2 h
        have e := of_decide_eq_true h4
        subst e
        exact se_get1 x.toXG (s.e x tk bl _ _ _ h3 rr.left) (s.e x tk bl _ _ _ h6 rr.right.left) h1 h5 h2
      · obtain ⟨h4, h⟩ := and2 h
        obtain ⟨h5, h⟩ := and2 h
        obtain ⟨h5', h⟩ := and2 h
        obtain ⟨h6, h7⟩ := and2 h
        have e := of_decide_eq_true h4
        subst e
        exact se_get2 x.toXG (s.e x tk bl _ _ _ h3 rr.left) (s.e x tk bl _ _ _ h6 rr.right.left) (s.e x tk bl _ _ _ h7 rr.right.right.left) h1 h5 h5' h2
      · obtain ⟨h4, h⟩ := and2 h
        obtain ⟨h5, h6⟩ := and2 h
        have e := of_decide_eq_true h4
        subst e
        exact se_join x.toXG (s.e x tk bl _ _ _ h3 rr.left) (s.e x tk bl _ _ _ h6 rr.right.left) h1 h5 h2
      · obtain ⟨h4, h⟩ := and2 h
        obtain ⟨h5, h6⟩ := and2 h
        have e := of_decide_eq_true h4
        subst e
        exact se_split x.toXG (s.e x tk bl _ _ _ h3 rr.left) (s.e x tk bl _ _ _ h6 rr.right.left) h1 h5 h2
      · obtain ⟨h4, h⟩ := and2 h
        obtain ⟨h5, h6⟩ := and2 h
        have e := of_decide_eq_true h4
        subst e
        exact se_index x.toXG (s.e x tk bl _ _ _ h3 rr.left) (s.e x tk bl _ _ _ h6 rr.right.left) h1 h5 h2
      · obtain ⟨h4, h⟩ := and2 h
        obtain ⟨h5, h⟩ := and2 h
        obtain ⟨h6, h7⟩ := and2 h
        have e := of_decide_eq_true h4
        subst e
        obtain ⟨z, zp, w, rfl, rfl, h8, h9⟩ := gnB_ok h7
        obtain ⟨u, v, hm, rv, st⟩ := rr.left (.glob z w) (by simp [rqE])
        obtain ⟨q, ob, hm2, hk, hc, hd⟩ := r0 (.tupG z) (by simp [rqB])
        rw [hm] at hm2
        cases hm2
        have ev : v = .ref q := by cases v <;> first | rfl | (cases rv; rfl) | (obtain ⟨_, z⟩ := rv; cases z) | cases rv
        subst ev
        exact se_indexT x.toXG (L2.pe_glob (gl_of x h8) (by rw [x.eM]; exact hm) rv (nm_of h9).1) st hk hc hd (s.e x tk bl _ _ _ h6 rr.right.left) h1 h5 h2
      · cases h
    · split at h
      · obtain ⟨h1, h⟩ := and2 h
        obtain ⟨h2, h⟩ := and2 h
        obtain ⟨h3, h⟩ := and2 h
        obtain ⟨h4, h5⟩ := and2 h
        have e := of_decide_eq_true h1
        subst e
        obtain ⟨q, ss, hm, dk, ek, hl⟩ := (r0 _ (List.Mem.head _) : Rq.ok T (.dicG _ _))
        subst ek
        exact se_subG x.toXG dk (L2.pe_glob (gl_of x h2) (by rw [x.eM]; exact hm) (show RelV (.ref q) (.ref q) from rfl) (nm_of h3).1) (s.e x tk bl _ _ _ h5 rr.right.left) h4
      · cases h
    · split at h
      · obtain ⟨h1, h⟩ := and2 h
        obtain ⟨h2, h⟩ := and2 h
        obtain ⟨h3, h⟩ := and2 h
        obtain ⟨h4, h5⟩ := and2 h
        have e := of_decide_eq_true h1
        have e' := of_decide_eq_true h3
        subst e
        subst e'
        obtain ⟨q, ss, hm, dk, ek, hl⟩ := (r0 _ (List.Mem.head _) : Rq.ok T (.dicG _ _))
        subst ek
        exact se_tupG x.toXG dk hl (L2.pe_glob (gl_of x h4) (by rw [x.eM]; exact hm) (show RelV (.ref q) (.ref q) from rfl) (nm_of h5).1) (gl_of x h2) (bl_of x bl (by decide +kernel)) rfl
      · cases h
    · cases h
  | isi a t =>
    unfold mE at h
    split at h
    · rename_i y p a0 z p2 pos
      obtain ⟨h1, h⟩ := and2 h
      obtain ⟨h2, h⟩ := and2 h
      obtain ⟨h3, h⟩ := and2 h
      obtain ⟨h4, h⟩ := and2 h
      obtain ⟨h5, h6⟩ := and2 h
      have e := of_decide_eq_true h1
      have e' := of_decide_eq_true h3
      subst e
      subst e'
      exact se_isi x.toXG (gl_of x h2) (bl_of x bl (by decide +kernel)) (gl_of x h4) (bl_of x bl (tyNs_mem t)) (s.e x tk bl _ _ _ h6 r) h5
    · cases h
  | tru _ => unfold mE at h; cases h
theorem snd_t : ∀ (e : Expr) (ir : E), mT (n + 1) I e ir = true → RqOk T (rqE ir) → PT X e (tT T W' ir) := by
  intro e ir h r
  cases e with
  | UnaryOp op a p =>
    cases op with
    | Not =>
      cases ir with
      | not a' => exact st_not (s.t x tk bl a a' h r)
      | _ => cases h
    | _ => cases h
  | BoolOp op es p =>
    cases op with
    | And =>
      cases es with
      | nil => cases h
      | cons a es =>
        cases es with
        | nil => cases h
        | cons b rest =>
          cases ir with
          | and a' b' =>
            obtain ⟨h1, h2⟩ := and2 h
            have ia := s.t x tk bl a a' h1 r.left
            cases rest with
            | nil => exact (sw_and ia (sw_one (s.t x tk bl b b' h2 r.right) .And)).pt
            | cons d rest =>
              have key : L2.PW X (.BoolOp .And (b :: d :: rest) p) (tT T W' b') := by
                have z := s.t x tk bl (.BoolOp .And (b :: d :: rest) p) b' h2 r.right
                exact ⟨fun wh pins s0 σ H Q I q => z.run pins s0 σ H Q I q⟩
              exact (sw_and ia key).pt
          | _ => cases h
    | Or =>
      cases es with
      | nil => cases h
      | cons a es =>
        cases es with
        | nil => cases h
        | cons b rest =>
          cases ir with
          | or a' b' =>
            obtain ⟨h1, h2⟩ := and2 h
            have ia := s.t x tk bl a a' h1 r.left
            cases rest with
            | nil => exact (sw_or ia (sw_one (s.t x tk bl b b' h2 r.right) .Or)).pt
            | cons d rest =>
              have key : L2.PW X (.BoolOp .Or (b :: d :: rest) p) (tT T W' b') := by
                have z := s.t x tk bl (.BoolOp .Or (b :: d :: rest) p) b' h2 r.right
                exact ⟨fun wh pins s0 σ H Q I q => z.run pins s0 σ H Q I q⟩
              exact (sw_or ia key).pt
          | _ => cases h
  | IfExp _ _ _ _ => cases h
  | Compare a ops bs p =>
    cases ops with
    | nil => cases h
    | cons op ops =>
      cases ops with
      | cons op2 ops =>
        cases ops with
        | cons _ _ => cases h
        | nil =>
          cases bs with
          | nil => cases h
          | cons b bs =>
            cases bs with
            | nil => cases h
            | cons d bs =>
              cases bs with
              | cons _ _ => cases h
              | nil =>
                cases ir with
                | chain o1 o2 a' b' d' =>
                  obtain ⟨h1, h⟩ := and2 h
                  obtain ⟨h1', h⟩ := and2 h
                  obtain ⟨h0, h⟩ := and2 h
                  obtain ⟨h2, h⟩ := and2 h
                  obtain ⟨h3, h4⟩ := and2 h
                  have e := of_decide_eq_true h1
                  have e' := of_decide_eq_true h1'
                  subst e
                  subst e'
                  exact st_chain x.toXG (s.e x tk bl _ a' _ h2 r.left.left) (s.e x tk bl _ b' _ h3 r.left.right) (s.e x tk bl _ d' _ h4 r.right) h0
                | _ => cases h
      | nil =>
        cases bs with
        | nil => cases h
        | cons b bs =>
          cases bs with
          | cons _ _ => cases h
          | nil =>
            cases ir with
            | cmp o a' b' =>
              obtain ⟨h1, h⟩ := and2 h
              obtain ⟨h0, h⟩ := and2 h
              obtain ⟨h2, h3⟩ := and2 h
              have e := of_decide_eq_true h1
              subst e
              exact st_cmp x.toXG (s.e x tk bl _ a' _ h2 r.left) (s.e x tk bl _ b' _ h3 r.right) h0
            | _ => cases h
  | _ =>
    cases ir with
    | tru a' => exact st_tru (st_val x.toXG (s.e x tk bl _ a' .B h r) (fun _ => rfl))
    | _ => exact st_val x.toXG (s.e x tk bl _ _ .B h r) (fun _ => rfl)
end
theorem snd_c {n : Nat} (s : Snd n) {X : Cx} {T : Tx} {I : Inf} (x : XI X T I) (tk : L2.Takes X WF) (bl : BLT T) : ∀ (es : List Expr) (ir : List E), mC (n + 1) I es ir = true → RqOk T (rqEs ir) → L2.PTs X es (tC T ir) := by
  intro es ir h r
  match es, ir, h, r with
  | [], [], _, _ => exact sc_nil
  | [e], [e'], h, r => exact sc_one (s.t x tk bl e e' h r.left)
  | [], _ :: _, h, _ => cases h
  | [_], [], h, _ => cases h
  | [_], _ :: _ :: _, h, _ => cases h
  | _ :: _ :: _, _, h, _ => cases h
theorem snd_q {n : Nat} (s : Snd n) {X : Cx} {T : Tx} {I : Inf} {W' : WX} (x : XI X T I) (tk : L2.Takes X W') (bl : BLT T) : ∀ (es : List Expr) (ir : List E), mEs (n + 1) I es ir = true → RqOk T (rqEs ir) → PA X es (tQ T W' ir) := by
  intro es ir h r
  cases es with
  | nil =>
    cases ir with
    | nil => exact sq_nil
    | cons _ _ => unfold mEs at h; cases h
  | cons e es =>
    cases ir with
    | nil => unfold mEs at h; cases h
    | cons e' es' =>
      unfold mEs at h
      obtain ⟨h1, h⟩ := and2 h
      obtain ⟨h2, h3⟩ := and2 h
      have i1 := s.q x tk bl es es' h3 r.right
      refine sq_cons ?_ i1 h1
      have key : (∀ i, e' ≠ .var i) → ∀ env, oweW e' env = none := fun hv env => by
        cases e' <;> first | rfl | exact absurd rfl (hv _)
      by_cases hv : ∃ i, e' = .var i
      · obtain ⟨i, rfl⟩ := hv
        cases n with
        | zero => unfold mE at h2; cases h2
        | succ n =>
          unfold mE at h2
          split at h2
          · rename_i y p
            unfold varB at h2
            obtain ⟨h2, h6⟩ := and2 h2
            obtain ⟨h4, h5⟩ := and2 h2
            exact sq_var (by rw [x.eN]; exact of_decide_eq_true h4) (vis_of x h5) (nm_of h6).1 (nm_of h6).2
          · cases h2
      · exact sq_val (s.e x tk bl e e' .V h2 r.left) (key fun i e => hv ⟨i, e⟩)
theorem snd : ∀ n, Snd n
  | 0 => snd0
  | n + 1 =>
    have s := snd n
    ⟨fun x tk bl => snd_e s x tk bl, fun x tk bl => snd_t s x tk bl, fun x tk bl => snd_es s x tk bl, fun x tk bl => snd_j s x tk bl, fun x tk bl => snd_o s x tk bl, fun x tk bl => snd_c s x tk bl, fun x tk bl => snd_i s x tk bl, fun x tk bl => snd_p s x tk bl, fun x tk bl => snd_q s x tk bl⟩
end Wb

namespace Wb
open PySem PySem.Spec PyProof.Rows
open L2 (V Hp HO Rd upd upd_same upd_ne SqL SqT VK TE TT TA TS TG TI TO Ends WX XK R2 Cx Inv RelV Vals ne_of_none PE PT PA PS PSs PG PI OpR UnR CallR MtR Gl Vis Loc)
/-- is a comprehension's list handed to the name without resting? -/
def swB (I : Inf) (x : Str) (p2 : Pos) : Expr → Option Bool
  | .ListComp _ _ s p => some (match I.sc.kind with
    | .function => (match I.sc.names.lookup x with | some .local => true | _ => false) && (p2.line == p.line) && !(s.names.any fun (n, k) => n == x && (k == .local || k == .cell))
    | _ => false)
  | .SetComp _ _ _ _ => none
  | .DictComp _ _ _ s p => some (match I.sc.kind with
    | .function => (match I.sc.names.lookup x with | some .local => true | _ => false) && (p2.line == p.line) && !(s.names.any fun (n, k) => n == x && (k == .local || k == .cell))
    | _ => false)
  | _ => some false
def noComp : Expr → Bool
  | .ListComp _ _ _ _ => false
  | .SetComp _ _ _ _ => false
  | .DictComp _ _ _ _ _ => false
  | _ => true
theorem sw_none {e : Expr} (h : noComp e = true) (t : Option Expr) (l : Nat) (env : PySem.Env) : swapsWith e t l env = pure false := by
  cases e <;> first | rfl | exact absurd h Bool.false_ne_true
theorem sw_sub {e : Expr} {o i : Expr} {p : Pos} (l : Nat) (env : PySem.Env) : swapsWith e (some (.Subscript o i p)) l env = pure false := by
  cases e <;> rfl
theorem sw_attr {e : Expr} {o : Expr} {f : Str} {p : Pos} (l : Nat) (env : PySem.Env) : swapsWith e (some (.Attribute o f p)) l env = pure false := by
  cases e <;> rfl
def noTup : Expr → Bool
  | .Tuple _ _ _ => false
  | _ => true
theorem swp_none {e : Expr} (h : noTup e = true) (ts : List Expr) (env : PySem.Env) : swappedStores ts e env = pure none := by
  cases e <;> first | (cases h; done) | skip
  all_goals (unfold swappedStores; split <;> first | rfl | (rename_i h0; split at h0 <;> first | (rename_i h1; cases h1; done) | (cases h0; done)))
theorem swB_false {X : Cx} {T : Tx} {I : Inf} (x : XI X T I) (hk : I.sc.kind = .function) {y : Str} {p2 : Pos} {e : Expr} {l : Nat} (h : swB I y p2 e = some false) : swapsWith e (some (.Name y p2)) l X.env = pure false := by
  cases e <;> first | rfl | (cases h; done) | skip
  all_goals (
    rename_i elt gs s p
    have hb : X.env.blockKind = .function := by unfold PySem.Env.blockKind; rw [x.eS, hk]; rfl
    have hf : (X.env.blockKind == .function && X.env.kindOf y == some .local && p2.line == p.line && !(s.names.any fun (n, k) => n == y && (k == .local || k == .cell))) = false := by
      have h' := Option.some.inj h
      rw [hk] at h'
      dsimp only at h'
      have hl : (X.env.kindOf y == some NameKind.local) = (match I.sc.names.lookup y with | some .local => true | _ => false) := by
        show (X.env.scope.names.lookup y == some NameKind.local) = _
        rw [x.eS]
        cases I.sc.names.lookup y with
        | none => rfl
        | some k => cases k <;> rfl
      rw [hb, hl]
      exact h'
    exact congrArg (pure (f := Sem)) hf)
section
variable {X : Cx} {T : Tx} {I : Inf} {W' : WX} {B : Bd} {pos p2 : Pos}
theorem sw_yes (x : XI X T I) {elt : Expr} {gs : List Comprehension} {s : Scope} {p : Pos} {y : Str} {l : Nat} (h : swB I y p2 (.ListComp elt gs s p) = some true) : swapsWith (.ListComp elt gs s p) (some (.Name y p2)) l X.env = pure true ∧ X.env.scope.names.lookup y = some .local := by
  have h' := Option.some.inj h
  split at h'
  · rename_i hk
    obtain ⟨h1, h2⟩ := and2 h'
    obtain ⟨h3, h4⟩ := and2 h1
    have hy : X.env.scope.names.lookup y = some .local := by
      rw [x.eS]
      split at h3
      · assumption
      · cases h3
    refine ⟨L2.sw_true (by rw [x.eS]; exact hk) hy h4 ?_, hy⟩
    rw [Bool.not_eq_true'] at h2
    exact h2
  · cases h'
theorem sw_yesD (x : XI X T I) {kx vx : Expr} {gs : List Comprehension} {s : Scope} {p : Pos} {y : Str} {l : Nat} (h : swB I y p2 (.DictComp kx vx gs s p) = some true) : swapsWith (.DictComp kx vx gs s p) (some (.Name y p2)) l X.env = pure true ∧ X.env.scope.names.lookup y = some .local := by
  have h' := Option.some.inj h
  split at h'
  · rename_i hk
    obtain ⟨h1, h2⟩ := and2 h'
    obtain ⟨h3, h4⟩ := and2 h1
    have hy : X.env.scope.names.lookup y = some .local := by
      rw [x.eS]
      split at h3
      · assumption
      · cases h3
    refine ⟨swd_true (by rw [x.eS]; exact hk) hy h4 ?_, hy⟩
    rw [Bool.not_eq_true'] at h2
    exact h2
  · cases h'
theorem ss_asgLc (x : XI X T I) {elt tgE iter : Expr} {ifs : List Expr} {scope : Scope} {own : List (Str × Nat)} {tg : Tg} {k : Src} {srcs conds : List E} {elt' : E} {py cp : Pos} {i : Nat} {y : Str} {st : Wb.S} {c : Ctx} (hi : PI X tgE iter (tI T W' k srcs)) (ok : L2.BlkOk X.N X.env.scope scope own) (sub : ∀ j ∈ tg.ixs, j ∈ own.map (·.2))
    (hg : ∀ (s : Shared) (H : Hp) (C : Addr) (cl : List (Str × Addr)) (fp : List Addr), PG (X.blk s H scope (compEnvC scope cl C X.env) fp) tgE (gOf T.K tg))
    (ht : ∀ (s : Shared) (H : Hp) (C : Addr) (cl : List (Str × Addr)) (fp : List Addr), L2.PTs (X.blk s H scope (compEnvC scope cl C X.env) fp) ifs (tC T conds))
    (he : ∀ (s : Shared) (H : Hp) (C : Addr) (cl : List (Str × Addr)) (fp : List Addr), PE (X.blk s H scope (compEnvC scope cl C X.env) fp) elt (tE T WF .V elt'))
    (hs : ∀ x, foldedSetIterable iter X.env x = pure x) (hy : X.N[i]? = some y) (hsw : swB I y py (.ListComp elt [⟨tgE, iter, ifs, 0⟩] scope cp) = some true)
    (hst : ∀ D σ H, tS T W' B st D σ H → tE T W' c (.lc tg k srcs conds elt' own) σ H fun x H1 => L2.gName i x σ H1 D.nx) : PS X (.Assign [.Name y py] (.ListComp elt [⟨tgE, iter, ifs, 0⟩] scope cp) pos) (tS T W' B st) := by
  obtain ⟨h1, h2⟩ := sw_yes (l := pos.line) x hsw
  exact ps_imp (L2.ps_setLc x.calm x.nd hy h2 h1 hi ok hg ht he hs) fun D σ H z => lc_sem sub σ H _ (hst D σ H z)
end
def rqP : Pl → List Rq
  | .slot _ => []
  | .fld o _ => rqE o
def rqIO : List (Nat ⊕ E) → List Rq
  | [] => []
  | .inl _ :: r => rqIO r
  | .inr e :: r => rqE e ++ rqIO r
mutual
def rqS : Wb.S → List Rq
  | .expr e => rqE e
  | .asg _ e => rqE e
  | .asgO _ e => rqE e
  | .asgT _ e => rqE e
  | .aug _ _ e => rqE e
  | .seti p k e => rqP p ++ (rqE k ++ rqE e)
  | .augi p k _ e => rqP p ++ (rqE k ++ rqE e)
  | .app p e => rqP p ++ rqE e
  | .rem p e => rqP p ++ rqE e
  | .self cl _ f e => .fld cl f :: rqE e
  | .seta cl o f e => .fld cl f :: (rqE o ++ rqE e)
  | .setaO cl o f e => .fld cl f :: (rqE o ++ rqE e)
  | .callO _ f args => .fn f :: rqIO args
  | .methO _ f o args => .mth f :: (rqE o ++ rqIO args)
  | .augA cl o f _ e => .fld cl f :: (rqE o ++ rqE e)
  | .ife c a b => rqE c ++ rqSs a ++ rqSs b
  | .for_ _ _ ss b => rqEs ss ++ rqSs b
  | .whl c b => rqE c ++ rqSs b
  | .ret e => rqE e
  | .retF e => rqE e
  | .raise x es => .exc x :: rqEs es
  | .try_ cs b hs => .xcl cs :: (rqSs b ++ rqH cs hs)
  | _ => []
def rqSs : List Wb.S → List Rq
  | [] => []
  | s :: r => rqS s ++ rqSs r
end
def asgB (n : Nat) (I : Inf) (x : Str) (p2 : Pos) (e : Expr) (e' : E) : Bool := match swB I x p2 e with
  | some false => mE n I e e'
  | some true => mE n I e e'
  | none => false
/-- arguments, of which some are own containers that are lent -/
def mIO (n : Nat) (I : Inf) : List Expr → List (Nat ⊕ E) → List Bool → Bool
  | [], [], [] => true
  | .Name x _ :: es, .inl i :: as, true :: bs => varB I i x && mIO n I es as bs
  | e :: es, .inr e' :: as, false :: bs => okx e && (mE n I e e' && mIO n I es as bs)
  | _, _, _ => false
/-- a call that is lent own containers -/
def mIOc (n : Nat) (I : Inf) (f : Fn) (as : List (Nat ⊕ E)) : Expr → Bool
  | .Call (.Name x _) es [] _ => decide (x = f.nm) && (nmOk x && (glB I x && (decide (f.lvl ≤ I.lvl) && (f.dfl.isEmpty && (!es.isEmpty && mIO n I es as f.own)))))
  | _ => false
def mIOm (n : Nat) (I : Inf) (f : Fn) (o' : E) (as : List (Nat ⊕ E)) : Expr → Bool
  | .Call (.Attribute o m ap) es [] p => decide (m = f.nm) && (okx o && ((ap.endLine == p.line) && (decide (f.lvl ≤ I.lvl) && (f.dfl.isEmpty && (!es.isEmpty && (decide (es.length < 29) && (mE n I o o' && mIO n I es as f.own.tail)))))))
  | _ => false
mutual
def mS : Nat → Inf → Bd → Stmt → Wb.S → Bool
  | 0, _, _, _, _ => false
  | n + 1, I, B, st, .pass => match st with
    | .Pass _ => true
    | _ => false
  | n + 1, I, B, st, .brk => match st with
    | .Break _ => true
    | _ => false
  | n + 1, I, B, st, .cont => match st with
    | .Continue _ => true
    | _ => false
  | n + 1, I, B, st, .expr e' => match st with
    | .Expr e _ => noComp e && mE n I e e'
    | _ => false
  | n + 1, I, B, st, .asg i e' => match st with
    | .Assign [.Name x p2] e _ => stB I i x && ((B.P i == false) && ((match I.sc.kind with | .function => true | _ => false) && (!(swB I x p2 e).isNone && (notK e' && mE n I e e'))))
    | _ => false
  | n + 1, I, B, st, .asgO i e' => match st with
    | .Assign [.Name x p2] e _ => stB I i x && ((B.P i == false) && ((match I.sc.kind with | .function => true | _ => false) && (!(swB I x p2 e).isNone && (notK e' && mE n I e e'))))
    | _ => false
  | n + 1, I, B, st, .asgT is e' => match st with
    | .Assign [.Tuple es k p] e _ => mTgs I es is && (is.all (fun j => B.P j == false) && (noComp e && (noTup e && mE n I e e')))
    | _ => false
  | n + 1, I, B, st, .never => true
  | n + 1, I, B, st, .raise x es' => match st with
    | .Raise (some (.Call (.Name y _) es [] _)) none _ => decide (y = x.nm) && (nmOk y && (glB I y && (decide (2 ≤ I.lvl) && (decide (x.n ≤ 1000) && (!x.flds.isEmpty && (!es.isEmpty && mEs n I es es'))))))
    | _ => false
  | n + 1, I, B, st, .try_ cs b' hs' => match st with
    | .Try b es [] [] _ => !es.isEmpty && (mSs n I B b b' && mHs I B es hs')
    | _ => false
  | n + 1, I, B, st, .aug i o e' => match st with
    | .AugAssign (.Name x _) op e _ => stB I i x && ((B.P i == false) && (decide (op = opOf o) && (ipO o && mE n I e e')))
    | _ => false
  | n + 1, I, B, st, .app (.slot i) e' => match st with
    | .Expr (.Call (.Attribute (.Name x _) m ap) [e] [] cp) _ => varB I i x && (decide (m = "append") && (okx e && ((ap.endLine == cp.line) && mE n I e e')))
    | _ => false
  | n + 1, I, B, st, .rem (.slot i) e' => match st with
    | .Expr (.Call (.Attribute (.Name x _) m ap) [e] [] cp) _ => varB I i x && (decide (m = "remove") && (okx e && ((ap.endLine == cp.line) && mE n I e e')))
    | _ => false
  | n + 1, I, B, st, .seti (.slot i) k' e' => match st with
    | .Assign [.Subscript (.Name x _) k _] e _ => varB I i x && (okx k && (mE n I k k' && mE n I e e'))
    | _ => false
  | n + 1, I, B, st, .app (.fld o' f) e' => match st with
    | .Expr (.Call (.Attribute (.Attribute o f2 _) m ap) [e] [] cp) _ => decide (f2 = f) && (decide (m = "append") && (okx o && (okx e && ((ap.endLine == cp.line) && (quiet e' && (mE n I o o' && mE n I e e'))))))
    | _ => false
  | n + 1, I, B, st, .seti (.fld o' f) k' e' => match st with
    | .Assign [.Subscript (.Attribute o f2 _) k _] e _ => decide (f2 = f) && (okx o && (okx k && (quiet k' && (mE n I o o' && (mE n I k k' && mE n I e e')))))
    | _ => false
  | n + 1, I, B, st, .augi (.slot i) k' b e' => match st with
    | .AugAssign (.Subscript (.Name x _) k _) op e _ => varB I i x && (decide (op = opOf b) && (ipO b && (okx k && (mE n I k k' && mE n I e e'))))
    | _ => false
  | n + 1, I, B, st, .augi (.fld o' f) k' b e' => match st with
    | .AugAssign (.Subscript (.Attribute o f2 _) k _) op e _ => decide (f2 = f) && (decide (op = opOf b) && (ipO b && (okx o && (okx k && (quiet k' && (quiet e' && (mE n I o o' && (mE n I k k' && mE n I e e'))))))))
    | _ => false
  | n + 1, I, B, st, .self cl i f e' => match st with
    | .Assign [.Attribute (.Name y _) f2 _] e _ => decide (f2 = f) && (varB I i y && mE n I e e')
    | _ => false
  | n + 1, I, B, st, .seta cl o' f e' => match st with
    | .Assign [.Attribute o f2 _] e _ => decide (f2 = f) && (mE n I o o' && mE n I e e')
    | _ => false
  | n + 1, I, B, st, .setaO cl o' f e' => match st with
    | .Assign [.Attribute o f2 _] e _ => decide (f2 = f) && (mE n I o o' && mE n I e e')
    | _ => false
  | n + 1, I, B, st, .augA cl o' f b e' => match st with
    | .AugAssign (.Attribute o f2 _) op e _ => decide (f2 = f) && (decide (op = opOf b) && (ipO b && (mE n I o o' && mE n I e e')))
    | _ => false
  | n + 1, I, B, st, .callO t f as => match st, t with
    | .Expr e _, none => mIOc n I f as e
    | .Assign [.Name y _] e _, some i => stB I i y && ((B.P i == false) && mIOc n I f as e)
    | _, _ => false
  | n + 1, I, B, st, .methO t f o' as => match st, t with
    | .Expr e _, none => mIOm n I f o' as e
    | .Assign [.Name y _] e _, some i => stB I i y && ((B.P i == false) && mIOm n I f o' as e)
    | _, _ => false
  | n + 1, I, B, st, .ife c' a' b' => match st with
    | .If c a b _ => mT n I c c' && (mSs n I B a a' && mSs n I B b b')
    | _ => false
  | n + 1, I, B, st, .for_ tg' k ss' b' => match st with
    | .For tg iter b [] _ => mTg I tg tg' && (tg'.ixs.all (fun j => B.P j == false) && (okx iter && ((if isK k then mK I iter ss' else mI n I tg iter k ss') && mSs n I B b b')))
    | _ => false
  | n + 1, I, B, st, .whl c' b' => match st with
    | .While c b [] _ => mT n I c c' && mSs n I B b b'
    | _ => false
  | n + 1, I, B, st, .ret e' => match st with
    | .Return (some e) _ => !B.fresh && mE n I e e'
    | _ => false
  | n + 1, I, B, st, .retF e' => match st with
    | .Return (some e) _ => B.fresh && mE n I e e'
    | _ => false
  | n + 1, I, B, st, .retO i => match st with
    | .Return (some (.Name x _)) _ => B.fresh && varB I i x
    | _ => false
  | n + 1, I, B, st, .retN => match st with
    | .Return none _ => !B.fresh
    | _ => false
  | n + 1, _, _, _, _ => false
def mSs : Nat → Inf → Bd → List Stmt → List Wb.S → Bool
  | 0, _, _, _, _ => false
  | n + 1, I, B, sts, .frz _ :: r => mSs n I B sts r
  | n + 1, I, B, st :: sts, s :: r => mS n I B st s && mSs n I B sts r
  | n + 1, I, B, [], [] => true
  | n + 1, _, _, _, _ => false
end
theorem notK_k {tg : Tg} {k : Src} {ss cs : List E} {e : E} {own : List (Str × Nat)} (h : notK (.lc tg k ss cs e own) = true) : isO k = false := by cases k <;> first | rfl | cases h
section
variable {X : Cx} {T : Tx} {I : Inf} {W' : WX} {B : Bd}
theorem asg_true {n : Nat} (x : XI X T I) (tk : L2.Takes X W') (bl : BLT T) {y : Str} {p2 pos : Pos} {e : Expr} {e' : E} {i : Nat} {st : Wb.S} {c : Ctx} (hnk : notK e' = true) (h : mE n I e e' = true) (r : RqOk T (rqE e')) (hi : X.N[i]? = some y) (hq : swB I y p2 e = some true)
    (hst : ∀ D σ H, tS T W' B st D σ H → tE T W' c e' σ H fun x H1 => L2.gName i x σ H1 D.nx) : PS X (.Assign [.Name y p2] e pos) (tS T W' B st) := by
  cases e <;> first | (cases hq; done) | skip
  · cases n with
    | zero => unfold mE at h; cases h
    | succ n =>
      cases e' <;> first | (unfold mE at h; cases h; done) | (cases hnk; done) | skip
      rename_i tg' k ss cs elt' own
      unfold mE at h
      split at h
      · rename_i heq
        injection heq with e1 e2 e3 e4
        subst e1 e2 e3 e4
        obtain ⟨g1, h⟩ := and2 h
        obtain ⟨g2, h⟩ := and2 h
        obtain ⟨g3, h⟩ := and2 h
        obtain ⟨g4, h⟩ := and2 h
        obtain ⟨g5, h⟩ := and2 h
        obtain ⟨g6, g7⟩ := and2 h
        have sm := snd n
        have ho := notK_k hnk
        by_cases hk : isK k = true
        · rw [if_pos hk] at g5
          have ek : k = .keys := by cases k <;> first | rfl | cases hk
          subst ek
          obtain ⟨t, hp, ksr⟩ := mK_ok (W' := W') x g5
          obtain ⟨q1, q2⟩ := sw_yes (l := pos.line) x hq
          exact ss_asgLcK x.calm x.nd hp ksr (by rw [x.eN, x.eS]; exact L2.blkOk_by g1) (fun j hj => by simpa using List.all_eq_true.mp g2 j hj) (fun st H C cl fp => tg_ok (xi_blk x) g3) (fun st H C cl fp => sm.c (xi_blk x) (takes_false _) bl _ cs g6 r.left.right) (fun st H C cl fp => sm.e (xi_blk x) (takes_false _) bl _ elt' .V g7 r.right) (fold_ok g4 _) hi q2 q1 hst
        · rw [if_neg hk, ho] at g5
          exact ss_asgLc x (sm.i x tk bl _ _ k ss g5 r.left.left) (by rw [x.eN, x.eS]; exact L2.blkOk_by g1) (fun j hj => by simpa using List.all_eq_true.mp g2 j hj) (fun st H C cl fp => tg_ok (xi_blk x) g3) (fun st H C cl fp => sm.c (xi_blk x) (takes_false _) bl _ cs g6 r.left.right) (fun st H C cl fp => sm.e (xi_blk x) (takes_false _) bl _ elt' .V g7 r.right) (fold_ok g4 _) hi hq hst
      · cases h
  · cases n with
    | zero => unfold mE at h; cases h
    | succ n =>
      cases e' <;> first | (unfold mE at h; cases h; done) | skip
      rename_i tg' k ss cs ke ve own
      unfold mE at h
      split at h
      · rename_i heq
        injection heq with e1 e2 e3 e4 e5
        subst e1 e2 e3 e4 e5
        obtain ⟨g1, h⟩ := and2 h
        obtain ⟨g2, h⟩ := and2 h
        obtain ⟨g3, h⟩ := and2 h
        obtain ⟨g4, h⟩ := and2 h
        obtain ⟨g5, h⟩ := and2 h
        obtain ⟨g6, h⟩ := and2 h
        obtain ⟨g7, g8⟩ := and2 h
        have sm := snd n
        obtain ⟨q1, q2⟩ := sw_yesD (l := pos.line) x hq
        by_cases hk : isK k = true
        · rw [if_pos hk] at g5
          have ek : k = .keys := by cases k <;> first | rfl | cases hk
          subst ek
          obtain ⟨t, hp, ksr⟩ := mK_ok (W' := W') x g5
          exact ss_asgDcK x.calm x.nd hp ksr (by rw [x.eN, x.eS]; exact L2.blkOk_by g1) (fun j hj => by simpa using List.all_eq_true.mp g2 j hj) (fun st H C cl fp => tg_ok (xi_blk x) g3) (fun st H C cl fp => sm.c (xi_blk x) (takes_false _) bl _ cs g6 r.left.left.right) (fun st H C cl fp => sm.e (xi_blk x) (takes_false _) bl _ ke .V g7 r.left.right) (fun st H C cl fp => sm.e (xi_blk x) (takes_false _) bl _ ve .V g8 r.right) (fold_ok g4 _) hi q2 q1 hst
        · rw [if_neg hk] at g5
          exact ss_asgDc x.calm x.nd (sm.i x tk bl _ _ k ss g5 r.left.left.left) (by rw [x.eN, x.eS]; exact L2.blkOk_by g1) (fun j hj => by simpa using List.all_eq_true.mp g2 j hj) (fun st H C cl fp => tg_ok (xi_blk x) g3) (fun st H C cl fp => sm.c (xi_blk x) (takes_false _) bl _ cs g6 r.left.left.right) (fun st H C cl fp => sm.e (xi_blk x) (takes_false _) bl _ ke .V g7 r.left.right) (fun st H C cl fp => sm.e (xi_blk x) (takes_false _) bl _ ve .V g8 r.right) (fold_ok g4 _) hi q2 q1 hst
      · cases h
end
def TR (X : Cx) : Prop := X.stack = X.env :: X.outer ∧ X.env.frame = some X.env.locals
theorem xi_tr {X : Cx} {T : Tx} {I : Inf} (x : XI X T I) (pn : List (Addr × Obj)) (xe : Value → Shared → Prop) : XI (X.tr pn xe) T I :=
  { eK := x.eK, eP := x.eP, eW := x.eW, eB := x.eB, eM := x.eM, nd := x.nd, hu := x.hu, calm := x.calm, eN := x.eN, eS := x.eS, eF := x.eF, room := x.room }
structure SndS (n : Nat) : Prop where
  s : ∀ {X : Cx} {T : Tx} {I : Inf} {W' : WX} {B : Bd}, XI X T I → L2.Takes X W' → PassesOwn (model X.prog X.w) X.A X.env X.xe → TR X → BLT T → ∀ (x : Stmt) (ir : Wb.S), mS n I B x ir = true → RqOk T (rqS ir) → PS X x (tS T W' B ir)
  ss : ∀ {X : Cx} {T : Tx} {I : Inf} {W' : WX} {B : Bd}, XI X T I → L2.Takes X W' → PassesOwn (model X.prog X.w) X.A X.env X.xe → TR X → BLT T → ∀ (x : List Stmt) (ir : List Wb.S), mSs n I B x ir = true → RqOk T (rqSs ir) → PSs X x (tSs T W' B ir)
theorem snd_io {n : Nat} {X : Cx} {T : Tx} {I : Inf} {W' : WX} (x : XI X T I) (tk : L2.Takes X W') (bl : BLT T) : ∀ {es : List Expr} {as : List (Nat ⊕ E)} {bs : List Bool}, mIO n I es as bs = true → RqOk T (rqIO as) → PA X es (tIO T W' as bs) ∧ okxs es = true
  | [], [], [], _, _ => ⟨so_nil, rfl⟩
  | e :: es, .inl i :: as, true :: bs, h, r => by
    cases e <;> first | (cases h; done) | skip
    rename_i y p
    have h' : (varB I i y && mIO n I es as bs) = true := h
    obtain ⟨h1, h2⟩ := and2 h'
    obtain ⟨i1, i2⟩ := snd_io x tk bl h2 r
    unfold varB at h1
    obtain ⟨h1, hn⟩ := and2 h1
    obtain ⟨h0, h1⟩ := and2 h1
    exact ⟨so_var (by rw [x.eN]; exact of_decide_eq_true h0) (vis_of x h1) (nm_of hn).1 (nm_of hn).2 i1, by show (okx (.Name y p) && okxs es) = true; rw [i2]; rfl⟩
  | e :: es, .inr e' :: as, false :: bs, h, r => by
    have h' : (okx e && (mE n I e e' && mIO n I es as bs)) = true := by cases e <;> exact h
    obtain ⟨h0, h'⟩ := and2 h'
    obtain ⟨h1, h2⟩ := and2 h'
    obtain ⟨i1, i2⟩ := snd_io x tk bl h2 r.right
    exact ⟨so_val ((snd n).e x tk bl e e' .V h1 r.left) i1 h0, by show (okx e && okxs es) = true; rw [h0, i2]; rfl⟩
  | [], _ :: _, _, h, _ => by cases h
  | [], [], _ :: _, h, _ => by cases h
  | e :: _, [], bs, h, _ => by cases e <;> cases bs <;> cases h
  | e :: _, .inl _ :: _, [], h, _ => by cases e <;> cases h
  | e :: _, .inl _ :: _, false :: _, h, _ => by cases e <;> cases h
  | e :: _, .inr _ :: _, [], h, _ => by cases e <;> cases h
  | e :: _, .inr _ :: _, true :: _, h, _ => by cases e <;> cases h
theorem dfl_nil {f : Fn} (h : f.dfl.isEmpty = true) : f.dfl = [] := by cases q : f.dfl <;> rw [q] at h <;> first | rfl | cases h
section
variable {n : Nat} {X : Cx} {T : Tx} {I : Inf} {W' : WX} {B : Bd}
theorem snd_ioc (x : XI X T I) (tk : L2.Takes X W') (bl : BLT T) {f : Fn} {as : List (Nat ⊕ E)} {e : Expr} (h : mIOc n I f as e = true) (r : RqOk T (.fn f :: rqIO as)) (t : Option Nat) (ht : ∀ i, t = some i → B.P i = false) :
    PE X e (fun σ H Q => ∃ D g env S, Sim T g H env S σ ∧ PostS T W' B g σ H (exec (.callO t f as) env S) D ∧ ∀ x H', Qt t σ D x H' → Q x H') ∧ noComp e = true ∧ ∀ I y p, swB I y p e = some false := by
  unfold mIOc at h
  split at h
  · rename_i y p es pos
    obtain ⟨h1, h⟩ := and2 h
    obtain ⟨h2, h⟩ := and2 h
    obtain ⟨h3, h⟩ := and2 h
    obtain ⟨h4, h⟩ := and2 h
    obtain ⟨h5, h⟩ := and2 h
    obtain ⟨h6, h7⟩ := and2 h
    have e := of_decide_eq_true h1
    subst e
    obtain ⟨a, fd, ps, hm, F⟩ := r (.fn f) (by simp)
    obtain ⟨i1, i2⟩ := snd_io x tk bl h7 (fun q hq => r q (by simp [hq]))
    cases es with
    | nil => cases h6
    | cons e0 es =>
      have ia : (okx e0 && okxs es) = true := i2
      exact ⟨pe_io x.toXG tk F (dfl_nil h5) x.room (of_decide_eq_true h4) (gl_of x h3) hm (nm_of h2).1 i1 (and2 ia).1 (and2 ia).2 t ht, rfl, fun _ _ _ => rfl⟩
  · cases h
theorem snd_iom (x : XI X T I) (tk : L2.Takes X W') (bl : BLT T) {f : Fn} {o' : E} {as : List (Nat ⊕ E)} {e : Expr} (h : mIOm n I f o' as e = true) (r : RqOk T (.mth f :: (rqE o' ++ rqIO as))) (t : Option Nat) (ht : ∀ i, t = some i → B.P i = false) :
    PE X e (fun σ H Q => ∃ D g env S, Sim T g H env S σ ∧ PostS T W' B g σ H (exec (.methO t f o' as) env S) D ∧ ∀ x H', Qt t σ D x H' → Q x H') ∧ noComp e = true ∧ ∀ I y p, swB I y p e = some false := by
  unfold mIOm at h
  split at h
  · rename_i o m ap es pos
    obtain ⟨h1, h⟩ := and2 h
    obtain ⟨h2, h⟩ := and2 h
    obtain ⟨h3, h⟩ := and2 h
    obtain ⟨h4, h⟩ := and2 h
    obtain ⟨h5, h⟩ := and2 h
    obtain ⟨h6, h⟩ := and2 h
    obtain ⟨h7, h⟩ := and2 h
    obtain ⟨h8, h9⟩ := and2 h
    have e := of_decide_eq_true h1
    subst e
    have M : MthK T f := r (.mth f) (by simp)
    have io := (snd n).e x tk bl o o' .V h8 (fun q hq => r q (by simp [hq]))
    obtain ⟨i1, i2⟩ := snd_io x tk bl h9 (fun q hq => r q (by simp [hq]))
    cases es with
    | nil => cases h6
    | cons e0 es =>
      have ia : (okx e0 && okxs es) = true := i2
      exact ⟨pe_mio x.toXG tk M (dfl_nil h5) x.room (of_decide_eq_true h4) io h2 (of_decide_eq_true h7) h3 i1 (and2 ia).1 (and2 ia).2 t ht, rfl, fun _ _ _ => rfl⟩
  · cases h
end
theorem ff {b : Bool} (h : (b == false) = true) : b = false := by cases b <;> first | rfl | cases h
theorem kind_of {k : ScopeKind} (h : (match k with | .function => true | _ => false) = true) : k = .function := by cases k <;> first | rfl | cases h
theorem sndS : ∀ n, SndS n
  | 0 => ⟨fun _ _ _ _ _ x ir h => (by cases h), fun _ _ _ _ _ x ir h => (by cases h)⟩
  | n + 1 => by
    have s := sndS n
    have se := snd n
    constructor
    · intro X T I W' B x tk po tr bl st ir h r
      cases ir with
      | pass =>
        unfold mS at h
        split at h
        · exact ss_pass
        · cases h
      | brk =>
        unfold mS at h
        split at h
        · exact ss_brk
        · cases h
      | cont =>
        unfold mS at h
        split at h
        · exact ss_cont
        · cases h
      | expr e' =>
        unfold mS at h
        split at h
        · obtain ⟨h1, h2⟩ := and2 h
          exact ss_expr (se.e x tk bl _ e' _ h2 r) (sw_none h1 _ _ _)
        · cases h
      | asg i e' =>
        unfold mS at h
        split at h
        · rename_i y p2 e pos
          obtain ⟨h1, h⟩ := and2 h
          obtain ⟨h2, h⟩ := and2 h
          obtain ⟨h3, h⟩ := and2 h
          obtain ⟨h4, h⟩ := and2 h
          obtain ⟨hnk, h5⟩ := and2 h
          unfold stB at h1
          obtain ⟨h0, h1⟩ := and2 h1
          obtain ⟨l1, l2⟩ := loc_of x h1
          have hi : X.N[i]? = some y := by rw [x.eN]; exact of_decide_eq_true h0
          cases hq : swB I y p2 e with
          | none => rw [hq] at h4; cases h4
          | some b =>
            cases b with
            | false => exact ss_asg x.toXG hi l1 l2 (ff h2) (se.e x tk bl e e' .V h5 r) (swB_false x (kind_of h3) hq)
            | true =>
              refine asg_true (n := n) (c := .V) x tk bl hnk h5 r hi hq fun D σ H ⟨g, env, S, s, p⟩ => ?_
              unfold exec at p
              exact ⟨g, env, S, s, p.out fun w S1 v g1 H1 _ e1 s1 r1 p1 => p1 g1 H1 _ ExtS.refl (s1.put r1) (Kp.refl.set (ff h2))⟩
        · cases h
      | asgO i e' =>
        unfold mS at h
        split at h
        · rename_i y p2 e pos
          obtain ⟨h1, h⟩ := and2 h
          obtain ⟨h2, h⟩ := and2 h
          obtain ⟨h3, h⟩ := and2 h
          obtain ⟨h4, h⟩ := and2 h
          obtain ⟨hnk, h5⟩ := and2 h
          unfold stB at h1
          obtain ⟨h0, h1⟩ := and2 h1
          obtain ⟨l1, l2⟩ := loc_of x h1
          have hi : X.N[i]? = some y := by rw [x.eN]; exact of_decide_eq_true h0
          cases hq : swB I y p2 e with
          | none => rw [hq] at h4; cases h4
          | some b =>
            cases b with
            | false => exact ss_asgO x.toXG hi l1 l2 (ff h2) (se.e x tk bl e e' .F h5 r) (swB_false x (kind_of h3) hq)
            | true =>
              refine asg_true (n := n) (c := .F) x tk bl hnk h5 r hi hq fun D σ H ⟨g, env, S, s, p⟩ => ?_
              exact asgO_sem (ff h2) s p
        · cases h
      | asgT is e' =>
        unfold mS at h
        split at h
        · rename_i es k p e pos
          obtain ⟨h1, h⟩ := and2 h
          obtain ⟨h2, h⟩ := and2 h
          obtain ⟨h3, h⟩ := and2 h
          obtain ⟨h4, h5⟩ := and2 h
          exact ss_asgT x.toXG (tg_ok (tg' := .many is) x h1) (fun j hj => ff (List.all_eq_true.mp h2 j hj)) (se.e x tk bl e e' .V h5 r) (by unfold swapsWithSole; exact sw_none h3 _ _ _) (swp_none h4 _ _) rfl
        · cases h
      | never => exact ss_never
      | raise xc es' =>
        unfold mS at h
        split at h
        · rename_i y p es pos p2
          obtain ⟨h1, h⟩ := and2 h
          obtain ⟨h2, h⟩ := and2 h
          obtain ⟨h3, h⟩ := and2 h
          obtain ⟨h4, h⟩ := and2 h
          obtain ⟨h5, h⟩ := and2 h
          obtain ⟨h6, h⟩ := and2 h
          obtain ⟨h7, h8⟩ := and2 h
          have e := of_decide_eq_true h1
          subst e
          obtain ⟨i1, i2⟩ := se.es x tk bl es es' h8 (fun q hq => r q (by simp [rqS, hq]))
          cases es with
          | nil => cases h7
          | cons e0 es =>
            have ia : (okx e0 && okxs es) = true := i2
            exact ss_raise x.toXG tk (r (.exc xc) (by simp [rqS])) (x.room.mono (of_decide_eq_true h4)) (gl_of x h3) (nm_of h2).1 i1 (and2 ia).1 (and2 ia).2 (of_decide_eq_true h5) (fun z => by rw [z] at h6; cases h6)
        · cases h
      | try_ cs b' hs' =>
        unfold mS at h
        split at h
        · obtain ⟨h1, h⟩ := and2 h
          obtain ⟨h2, h3⟩ := and2 h
          have r1 : RqOk T (rqSs b') := fun q hq => r q (by simp [rqS, hq])
          refine ss_try x tk bl tr.1 tr.2 (fun W pn xe tk' po' => s.ss (xi_tr x pn xe) tk' po' tr bl _ b' h2 r1) (r (.xcl cs) (by simp [rqS])) (fun z => by rw [z] at h1; cases h1) h3 (fun q hq => r q (by simp [rqS, hq]))
        · cases h
      | aug i o e' =>
        unfold mS at h
        split at h
        · rename_i y p2 op e pos
          obtain ⟨h1, h⟩ := and2 h
          obtain ⟨h2, h⟩ := and2 h
          obtain ⟨h3, h⟩ := and2 h
          obtain ⟨h4, h5⟩ := and2 h
          unfold stB at h1
          obtain ⟨h0, h1⟩ := and2 h1
          obtain ⟨l1, l2⟩ := loc_of x h1
          have hi : X.N[i]? = some y := by rw [x.eN]; exact of_decide_eq_true h0
          have e0 := of_decide_eq_true h3
          subst e0
          exact ss_aug x.toXG h4 hi l1 l2 (ff h2) (se.e x tk bl e e' .B h5 r)
        · cases h
      | app p e' =>
        cases p with
        | fld o' f =>
          unfold mS at h
          split at h
          · obtain ⟨h1, h⟩ := and2 h
            obtain ⟨h2, h⟩ := and2 h
            obtain ⟨h3, h⟩ := and2 h
            obtain ⟨h4, h⟩ := and2 h
            obtain ⟨h5, h⟩ := and2 h
            obtain ⟨h6, h⟩ := and2 h
            obtain ⟨h7, h8⟩ := and2 h
            have e0 := of_decide_eq_true h1
            subst e0
            have e0 := of_decide_eq_true h2
            subst e0
            exact ss_appF x.toXG (se.e x tk bl _ o' .V h7 r.left) h3 (se.e x tk bl _ e' .V h8 r.right) h6 h4 h5
          · cases h
        | slot i =>
          unfold mS at h
          split at h
          · obtain ⟨h1, h⟩ := and2 h
            obtain ⟨h2, h⟩ := and2 h
            obtain ⟨h3, h⟩ := and2 h
            obtain ⟨h4, h5⟩ := and2 h
            unfold varB at h1
            obtain ⟨h1, hn⟩ := and2 h1
            obtain ⟨h0, h1⟩ := and2 h1
            have e0 := of_decide_eq_true h2
            subst e0
            exact ss_app x.toXG (by rw [x.eN]; exact of_decide_eq_true h0) (vis_of x h1) (nm_of hn).1 (nm_of hn).2 (se.e x tk bl _ e' .V h5 r.right) h3 h4
          · cases h
      | rem p e' =>
        cases p with
        | fld o' f => unfold mS at h; cases h
        | slot i =>
          unfold mS at h
          split at h
          · obtain ⟨h1, h⟩ := and2 h
            obtain ⟨h2, h⟩ := and2 h
            obtain ⟨h3, h⟩ := and2 h
            obtain ⟨h4, h5⟩ := and2 h
            unfold varB at h1
            obtain ⟨h1, hn⟩ := and2 h1
            obtain ⟨h0, h1⟩ := and2 h1
            have e0 := of_decide_eq_true h2
            subst e0
            exact ss_rem x.toXG (by rw [x.eN]; exact of_decide_eq_true h0) (vis_of x h1) (nm_of hn).1 (nm_of hn).2 (se.e x tk bl _ e' .V h5 r.right) h3 h4
          · cases h
      | seti p k' e' =>
        cases p with
        | fld o' f =>
          unfold mS at h
          split at h
          · rename_i o f2 p2 k sp e pos
            obtain ⟨h1, h⟩ := and2 h
            obtain ⟨h2, h⟩ := and2 h
            obtain ⟨h3, h⟩ := and2 h
            obtain ⟨h4, h⟩ := and2 h
            obtain ⟨h5, h⟩ := and2 h
            obtain ⟨h6, h7⟩ := and2 h
            have e0 := of_decide_eq_true h1
            subst e0
            exact ss_setiF x.toXG (se.e x tk bl _ o' .V h5 r.left) h2 (se.e x tk bl e e' .V h7 r.right.right) (se.e x tk bl k k' .V h6 r.right.left) h4 h3 (sw_sub (o := .Attribute o f2 p2) (i := k) (p := sp) pos.line X.env) rfl
          · cases h
        | slot i =>
          unfold mS at h
          split at h
          · rename_i y p2 k sp e pos
            obtain ⟨h1, h⟩ := and2 h
            obtain ⟨h2, h⟩ := and2 h
            obtain ⟨h3, h4⟩ := and2 h
            unfold varB at h1
            obtain ⟨h1, hn⟩ := and2 h1
            obtain ⟨h0, h1⟩ := and2 h1
            exact ss_seti x.toXG (by rw [x.eN]; exact of_decide_eq_true h0) (vis_of x h1) (nm_of hn).1 (nm_of hn).2 (se.e x tk bl e e' .V h4 r.right.right) (se.e x tk bl k k' .V h3 r.right.left) h2 (sw_sub (o := .Name y p2) (i := k) (p := sp) pos.line X.env) rfl
          · cases h
      | augi p k' b e' =>
        cases p with
        | fld o' f =>
          unfold mS at h
          split at h
          · rename_i o f2 p2 k sp op e pos
            obtain ⟨h1, h⟩ := and2 h
            obtain ⟨h2, h⟩ := and2 h
            obtain ⟨h3, h⟩ := and2 h
            obtain ⟨h4, h⟩ := and2 h
            obtain ⟨h5, h⟩ := and2 h
            obtain ⟨h6, h⟩ := and2 h
            obtain ⟨h7, h⟩ := and2 h
            obtain ⟨h8, h⟩ := and2 h
            obtain ⟨h9, h10⟩ := and2 h
            have e0 := of_decide_eq_true h1
            subst e0
            have e0 := of_decide_eq_true h2
            subst e0
            exact ss_augiF x.toXG h3 h5 (se.e x tk bl _ o' .V h8 r.left) h4 (se.e x tk bl k k' .V h9 r.right.left) h6 (se.e x tk bl e e' .B h10 r.right.right) h7
          · cases h
        | slot i =>
          unfold mS at h
          split at h
          · rename_i y p2 k sp op e pos
            obtain ⟨h1, h⟩ := and2 h
            obtain ⟨h2, h⟩ := and2 h
            obtain ⟨h3, h⟩ := and2 h
            obtain ⟨h4, h⟩ := and2 h
            obtain ⟨h5, h6⟩ := and2 h
            unfold varB at h1
            obtain ⟨h1, hn⟩ := and2 h1
            obtain ⟨h0, h1⟩ := and2 h1
            have e0 := of_decide_eq_true h2
            subst e0
            exact ss_augiS x.toXG h3 h4 (by rw [x.eN]; exact of_decide_eq_true h0) (vis_of x h1) (nm_of hn).1 (nm_of hn).2 (se.e x tk bl k k' .V h5 r.right.left) (se.e x tk bl e e' .B h6 r.right.right)
          · cases h
      | self cl i f e' =>
        unfold mS at h
        split at h
        · rename_i y p1 f2 p2 e pos
          obtain ⟨h1, h⟩ := and2 h
          obtain ⟨h2, h3⟩ := and2 h
          have e0 := of_decide_eq_true h1
          subst e0
          unfold varB at h2
          obtain ⟨h1, hn⟩ := and2 h2
          obtain ⟨h0, h1⟩ := and2 h1
          exact ss_self x.toXG (r (.fld cl f2) (by simp [rqS])) (by rw [x.eN]; exact of_decide_eq_true h0) (vis_of x h1) (nm_of hn).1 (nm_of hn).2 (se.e x tk bl e e' .V h3 (fun q hq => r q (by simp [rqS, hq]))) (sw_attr (o := .Name y p1) (f := f2) (p := p2) pos.line X.env)
        · cases h
      | seta cl o' f e' =>
        unfold mS at h
        split at h
        · rename_i o f2 p2 e pos
          obtain ⟨h1, h⟩ := and2 h
          obtain ⟨h2, h3⟩ := and2 h
          have e0 := of_decide_eq_true h1
          subst e0
          exact ss_seta x.toXG (r (.fld cl f2) (by simp [rqS])) (se.e x tk bl e e' .V h3 (fun q hq => r q (by simp [rqS, hq]))) (se.e x tk bl o o' .V h2 (fun q hq => r q (by simp [rqS, hq]))) (sw_attr (o := o) (f := f2) (p := p2) pos.line X.env)
        · cases h
      | setaO cl o' f e' =>
        unfold mS at h
        split at h
        · rename_i o f2 p2 e pos
          obtain ⟨h1, h⟩ := and2 h
          obtain ⟨h2, h3⟩ := and2 h
          have e0 := of_decide_eq_true h1
          subst e0
          exact ss_setaO x.toXG (r (.fld cl f2) (by simp [rqS])) (se.e x tk bl e e' .F h3 (fun q hq => r q (by simp [rqS, hq]))) (se.e x tk bl o o' .V h2 (fun q hq => r q (by simp [rqS, hq]))) (sw_attr (o := o) (f := f2) (p := p2) pos.line X.env)
        · cases h
      | augA cl o' f b e' =>
        unfold mS at h
        split at h
        · rename_i o f2 p2 op e pos
          obtain ⟨h1, h⟩ := and2 h
          obtain ⟨h2, h⟩ := and2 h
          obtain ⟨h3, h⟩ := and2 h
          obtain ⟨h4, h5⟩ := and2 h
          have e0 := of_decide_eq_true h1
          subst e0
          have e0 := of_decide_eq_true h2
          subst e0
          exact ss_augA x.toXG h3 (r (.fld cl f2) (by simp [rqS])) (se.e x tk bl o o' .V h4 (fun q hq => r q (by simp [rqS, hq]))) (se.e x tk bl e e' .B h5 (fun q hq => r q (by simp [rqS, hq])))
        · cases h
      | callO t f as =>
        unfold mS at h
        split at h
        · obtain ⟨i1, i2, i3⟩ := snd_ioc (B := B) x tk bl h r none (fun i z => by cases z)
          exact ss_ioE i1 (sw_none i2 _ _ _)
        · rename_i y p2 e pos i
          obtain ⟨h1, h⟩ := and2 h
          obtain ⟨h2, h3⟩ := and2 h
          unfold stB at h1
          obtain ⟨h0, h1⟩ := and2 h1
          obtain ⟨l1, l2⟩ := loc_of x h1
          obtain ⟨i1, i2, i3⟩ := snd_ioc (B := B) x tk bl h3 r (some i) (fun j z => by cases z; exact ff h2)
          exact ss_ioA x.toXG (by rw [x.eN]; exact of_decide_eq_true h0) l1 l2 i1 (sw_none i2 _ _ _)
        · cases h
      | methO t f o' as =>
        unfold mS at h
        split at h
        · obtain ⟨i1, i2, i3⟩ := snd_iom (B := B) x tk bl h r none (fun i z => by cases z)
          exact ss_ioE i1 (sw_none i2 _ _ _)
        · rename_i y p2 e pos i
          obtain ⟨h1, h⟩ := and2 h
          obtain ⟨h2, h3⟩ := and2 h
          unfold stB at h1
          obtain ⟨h0, h1⟩ := and2 h1
          obtain ⟨l1, l2⟩ := loc_of x h1
          obtain ⟨i1, i2, i3⟩ := snd_iom (B := B) x tk bl h3 r (some i) (fun j z => by cases z; exact ff h2)
          exact ss_ioA x.toXG (by rw [x.eN]; exact of_decide_eq_true h0) l1 l2 i1 (sw_none i2 _ _ _)
        · cases h
      | ife c' a' b' =>
        unfold mS at h
        split at h
        · obtain ⟨h1, h⟩ := and2 h
          obtain ⟨h2, h3⟩ := and2 h
          exact ss_if (se.t x tk bl _ c' h1 r.left.left) (s.ss x tk po tr bl _ a' h2 r.left.right) (s.ss x tk po tr bl _ b' h3 r.right)
        · cases h
      | for_ tg' k ss' b' =>
        unfold mS at h
        split at h
        · obtain ⟨h1, h⟩ := and2 h
          obtain ⟨h2, h⟩ := and2 h
          obtain ⟨h3, h⟩ := and2 h
          obtain ⟨h4, h5⟩ := and2 h
          by_cases hk : isK k = true
          · rw [if_pos hk] at h4
            have ek : k = .keys := by cases k <;> first | rfl | cases hk
            subst ek
            obtain ⟨t, hp, ksr⟩ := mK_ok (W' := W') x h4
            exact ss_forK x.toXG po hp ksr (tg_ok x h1) (s.ss x tk po tr bl _ b' h5 r.right) (fun j hj => ff (List.all_eq_true.mp h2 j hj)) (fold_ok h3 _)
          · rw [if_neg hk] at h4
            exact ss_for x.toXG po (se.i x tk bl _ _ k ss' h4 r.left) (tg_ok x h1) (s.ss x tk po tr bl _ b' h5 r.right) (fun j hj => ff (List.all_eq_true.mp h2 j hj)) (fold_ok h3 _)
        · cases h
      | whl c' b' =>
        unfold mS at h
        split at h
        · obtain ⟨h1, h2⟩ := and2 h
          exact ss_whl po (se.t x tk bl _ c' h1 r.left) (s.ss x tk po tr bl _ b' h2 r.right)
        · cases h
      | ret e' =>
        unfold mS at h
        split at h
        · obtain ⟨h1, h2⟩ := and2 h
          exact ss_ret (by simpa using h1) (se.e x tk bl _ e' .V h2 r)
        · cases h
      | retF e' =>
        unfold mS at h
        split at h
        · obtain ⟨h1, h2⟩ := and2 h
          exact ss_retF h1 (se.e x tk bl _ e' .F h2 r)
        · cases h
      | retO i =>
        unfold mS at h
        split at h
        · obtain ⟨h1, h2⟩ := and2 h
          unfold varB at h2
          obtain ⟨h2, hn⟩ := and2 h2
          obtain ⟨h0, h2⟩ := and2 h2
          exact ss_retO h1 (by rw [x.eN]; exact of_decide_eq_true h0) (vis_of x h2) (nm_of hn).1 (nm_of hn).2
        · cases h
      | retN =>
        unfold mS at h
        split at h
        · exact ss_retN (by simpa using h)
        · cases h
      | _ => unfold mS at h; cases h
    · intro X T I W' B x tk po tr bl sts ir h r
      cases ir with
      | nil =>
        cases sts with
        | nil => exact ss_nil
        | cons _ _ => unfold mSs at h; cases h
      | cons s0 rest =>
        by_cases hf : ∃ i, s0 = .frz i
        · obtain ⟨i, rfl⟩ := hf
          unfold mSs at h
          exact ss_frz (s.ss x tk po tr bl sts rest h r.right)
        · cases sts with
          | nil => cases s0 <;> first | (unfold mSs at h; cases h; done) | exact absurd ⟨_, rfl⟩ hf
          | cons st sts =>
            have h' : (mS n I B st s0 && mSs n I B sts rest) = true := by
              cases s0 <;> first | exact h | exact absurd ⟨_, rfl⟩ hf
            obtain ⟨h1, h2⟩ := and2 h'
            exact ss_cons (s.s x tk po tr bl st s0 h1 r.left) (s.ss x tk po tr bl sts rest h2 r.right)
end Wb

namespace Wb
open PySem PySem.Spec PyProof.Rows
open L2 (V Hp HO Rd upd upd_same upd_ne SqL SqT VK TE TT TA TS TG TI TO Ends WX XK R2 Cx Inv RelV Vals ne_of_none PE PT PA PS PSs PG PI OpR UnR CallR MtR Gl Vis Loc)
def bdOf (own : List Bool) (fresh : Bool) : Bd := ⟨fun i => own.getD i false, fresh⟩
def infOf (N : List Str) (sc : Scope) (lvl : Nat) : Inf := ⟨N, sc, fun _ => true, lvl⟩
section
variable {T : Tx} {g g' : Gh} {env : Env} {S S' : Store} {σ : L2.St} {H H' : Hp}
/-- at a def's entry -/
theorem sim_start {N : List Str} {own : List Bool} {vs : List V} {ws : List W} (h1 : vs.length = own.length) (h2 : ws.length = own.length) (hn : own.length ≤ N.length) (s : Sim T g H (env0 own.length own ws) S (vs.map some)) : Sim T g H (env0 N.length own ws) S (L2.start N vs) := by
  have e : env0 N.length own ws = env0 own.length own ws ++ List.replicate (N.length - ws.length) none := by
    unfold env0
    rw [h2, Nat.sub_self]
    simp
  refine ⟨s.wf, ?_, fun i fl w h => ?_, s.cells, s.fin⟩
  · rw [e, List.length_append, s.len]
    unfold L2.start
    rw [List.length_append, List.length_replicate, List.length_replicate, h1, h2]
  · have hl := s.len
    rw [e] at h
    unfold Env.at at h
    by_cases hi : i < (env0 own.length own ws).length
    · rw [List.getElem?_append_left hi] at h
      have z := s.slots i fl w h
      unfold L2.start
      have hi2 : i < (vs.map some).length := by rw [← hl]; exact hi
      cases fl with
      | v => obtain ⟨x, q1, q2⟩ := z; exact ⟨x, by rw [List.getElem?_append_left hi2]; exact q1, q2⟩
      | o => obtain ⟨x, q1, q2⟩ := z; exact ⟨x, by rw [List.getElem?_append_left hi2]; exact q1, q2⟩
      | k => obtain ⟨x, q1, q2⟩ := z; exact ⟨x, by rw [List.getElem?_append_left hi2]; exact q1, q2⟩
    · rw [List.getElem?_append_right (by omega), List.getElem?_replicate] at h
      split at h <;> cases h
theorem start_at {N : List Str} {vs : List V} {i : Nat} {v : V} (h : vs[i]? = some v) : (L2.start N vs)[i]? = some (some v) := by
  unfold L2.start
  rw [List.getElem?_append_left (by rw [List.length_map]; exact (List.getElem?_eq_some_iff.mp h).1), List.getElem?_map, h]
  rfl
theorem fin_ok (s : Sim T g' H' env S' σ) : ∀ (own : List Bool) (vs : List V) (i : Nat) (fs : List W), vs.length = own.length → (∀ j v, vs[j]? = some v → own[j]? = some true → σ[i + j]? = some (some v)) → finW own i env = some fs → FinOk T g' H' i own vs fs
  | [], [], i, fs, _, _, h => by unfold finW at h; cases h; exact .nil i
  | [], _ :: _, _, _, h, _, _ => by cases h
  | _ :: _, [], _, _, h, _, _ => by cases h
  | true :: own, v :: vs, i, fs, hl, hk, h => by
    unfold finW at h
    split at h
    · rename_i w hw
      cases hr : finW own (i + 1) env with
      | none => rw [hr] at h; cases h
      | some rs =>
        rw [hr] at h
        cases h
        obtain ⟨a, e1, l, o⟩ := s.slots i _ _ hw
        have e2 := hk 0 v rfl rfl
        rw [Nat.add_zero, e1] at e2
        cases e2
        exact .own l o (fin_ok s own vs (i + 1) rs (by simpa using hl) (fun j u hj ho => by have := hk (j + 1) u (by simpa using hj) (by simpa using ho); rwa [show i + (j + 1) = i + 1 + j by omega] at this) hr)
    · cases h
  | false :: own, v :: vs, i, fs, hl, hk, h => by
    unfold finW at h
    exact .val (fin_ok s own vs (i + 1) fs (by simpa using hl) (fun j u hj ho => by have := hk (j + 1) u (by simpa using hj) (by simpa using ho); rwa [show i + (j + 1) = i + 1 + j by omega] at this) h)
end
/-- THE RULE: a def keeps its promise, once its text is what the term says -/
theorem toD {K : PySem.W.Frag} {a : Addr} {fd : FuncData} {x qual : Str} {st : Stmt} (F : L2.Fun K x qual st a fd) : L2.FunD K x qual (L2.defArgs st) (L2.defBody st) (L2.defScope st) [] [] a fd := by
  obtain ⟨⟨oc, od, kV, doc, pm, an, cdv, ct, osl, e, l, c⟩, k⟩ := F
  exact ⟨⟨oc, od, .none, kV, doc, pm, an, cdv, ct, osl, e, l, c, .inl ⟨rfl, rfl⟩, .inl rfl⟩, k⟩
theorem fn_okG {J : L2.Cx → List Stmt → TS → Prop} {T : Tx} {f : Fn} {a : Addr} {fd : FuncData} {qual : Str} {st : Stmt} {N ps : List Str} {k : Nat} {ir : List Wb.S} (S : L2.FnScope N ps (L2.defScope st))
    (okJ : (∀ vs H Q E, spF T f vs H Q E → vs.length = ps.length) → (∀ (cdv : Value) (A : Around) (outer : List PySem.Env) (s : Shared) (H : Hp) (vs : List V) (Q : VK) (E : XK), L2.Room k (A.deeper (envOfC qual (L2.defScope st) s.heap.objs.size a cdv)) → spF T f vs H Q E →
      ∃ t, J (L2.cxOf (L2.CX T.prog T.w) T.prog T.w T.K T.mg T.base N qual (L2.defScope st) a cdv A outer s H E) (L2.defBody st) t ∧ t { nx := fun _ H' => Q .non H', rt := Q } (L2.start N vs) H) → L2.FnOk T.prog T.w T.K T.mg T.base (L2.CX T.prog T.w) (k + 1) a fd ps (spF T f))
    (hJ : ∀ {X : Cx} {W' : WX}, XI X T (infOf N (L2.defScope st) k) → L2.Takes X W' → PassesOwn (model X.prog X.w) X.A X.env X.xe → TR X → J X (L2.defBody st) (tSs T W' (bdOf f.own f.fresh) ir))
    (hsem : f.sem = runDef N.length f.own f.fresh ir) (ho : f.own.length = ps.length) (hfr : f.fresh = true → f.plain = true) (hlv : f.lvl = k + 1) :
    L2.FnOk T.prog T.w T.K T.mg T.base (L2.CX T.prog T.w) f.lvl a fd ps (spF T f) := by
  rw [hlv]
  refine okJ (fun vs H Q E h => ?_) (fun cdv A outer s H vs Q E hr h => ?_)
  · obtain ⟨g, St, ws, h1, _⟩ := h
    rw [h1, ho]
  obtain ⟨g, St, ws, h1, h2, sim, hsl, p⟩ := h
  have hpl : ps.length ≤ N.length := by
    have := congrArg List.length S.pre
    rw [List.length_take] at this
    omega
  have xi : XI (L2.cxOf (L2.CX T.prog T.w) T.prog T.w T.K T.mg T.base N qual (L2.defScope st) a cdv A outer s H E) T (infOf N (L2.defScope st) k) :=
    { eK := rfl, eP := rfl, eW := rfl, eB := rfl, eM := rfl, nd := S.nd, hu := hr.units, calm := rfl, eN := rfl, eS := rfl, eF := rfl, room := hr }
  have tk : L2.Takes (L2.cxOf (L2.CX T.prog T.w) T.prog T.w T.K T.mg T.base N qual (L2.defScope st) a cdv A outer s H E) (fun cls d _ H => E cls d H) := L2.takes_of rfl rfl rfl rfl
  have po : PassesOwn (model T.prog T.w) (L2.cxOf (L2.CX T.prog T.w) T.prog T.w T.K T.mg T.base N qual (L2.defScope st) a cdv A outer s H E).A (L2.cxOf (L2.CX T.prog T.w) T.prog T.w T.K T.mg T.base N qual (L2.defScope st) a cdv A outer s H E).env (L2.cxOf (L2.CX T.prog T.w) T.prog T.w T.K T.mg T.base N qual (L2.defScope st) a cdv A outer s H E).xe := L2.passes_of rfl
  refine ⟨_, hJ xi tk po ⟨rfl, rfl⟩, g, env0 N.length f.own ws, St, sim_start h1 h2 (by omega) sim, ?_⟩
  rw [hsem] at p
  unfold runDef at p
  rw [if_pos h2.symm] at p
  -- own parameters' containers
  have own : ∀ {g' H' σ' env' S' fs}, Sim T g' H' env' S' σ' → Kp (bdOf f.own f.fresh).P (L2.start N vs) σ' → finW f.own 0 env' = some fs → FinOk T g' H' 0 f.own vs fs := fun {g' H' σ' env' S' fs} s' kk hf => fin_ok s' f.own vs 0 fs h1 (fun j v hj hb => by
    rw [Nat.zero_add, kk j (by show f.own.getD j false = true; rw [List.getD_eq_getElem?_getD, hb]; rfl)]
    exact start_at hj) hf
  -- a value, or a container, that is handed back
  have back : ∀ {x w fs env' S' g' H' σ'}, ExtS g H g' H' → Sim T g' H' env' S' σ' → Kp (bdOf f.own f.fresh).P (L2.start N vs) σ' → RetR T f.fresh H g' H' x w → finW f.own 0 env' = some fs →
      (∀ x g' H', ExtS g H g' H' → SimC T g' H' S' → RetOk T f.fresh H g' H' x w → FinOk T g' H' 0 f.own vs fs → Q x H') → Q x H' := by
    intro x w fs env' S' g' H' σ' e s' kk r hf q
    have fo := own s' kk hf
    unfold RetR at r
    cases hb : f.fresh with
    | false =>
      rw [hb, if_neg Bool.false_ne_true] at r
      refine q x g' H' e s'.c ?_ fo
      unfold RetOk
      rw [hb, if_neg Bool.false_ne_true]
      exact r
    | true =>
      rw [hb, if_pos rfl] at r
      have hp := hfr hb
      obtain ⟨b, rfl, o, r⟩ := r
      have noslot : ∀ c i, g.L c ≠ .slot i := fun c i z => by
        have q1 := hsl c i z
        unfold Fn.plain at hp
        rw [List.getD_eq_getElem?_getD] at q1
        cases q2 : f.own[i]? with
        | none => rw [q2] at q1; cases q1
        | some v =>
          rw [q2] at q1
          have q3 := List.all_eq_true.mp hp v (List.mem_of_getElem? q2)
          cases v with
          | false => exact Bool.false_ne_true q1
          | true => exact Bool.false_ne_true q3
      have hn : H b = none := by
        rcases r with ⟨n, _⟩ | ⟨i, l⟩
        · exact n
        · cases q1 : H b with
          | none => rfl
          | some u =>
            obtain ⟨j, z⟩ := e.slot b i (by rw [q1]; simp) l
            exact absurd z (noslot b j)
      refine q (.ref b) g'.clean H' ?_ s'.c.clean ?_ ?_
      · refine ⟨fun c hc pp => ?_, fun m hm => ?_, e.some, fun c i hc l => ?_⟩
        · obtain ⟨k1, k2⟩ := e.keep c hc pp
          refine ⟨?_, k2⟩
          rw [clean_ne fun i z => by rw [k1] at z; exact noslot c i z]
          exact k1
        · obtain ⟨k1, k2⟩ := e.cel m hm
          refine ⟨k1, ?_⟩
          rw [clean_ne fun i z => by rw [k2] at z; cases z]
          exact k2
        · exfalso
          have z' : cleanL (g'.L c) = .slot i := l
          cases q : g'.L c <;> rw [q] at z' <;> cases z'
      · unfold RetOk
        rw [hb, if_pos rfl]
        refine ⟨b, rfl, hn, ?_, o.stay stay_clean rfl⟩
        rcases r with ⟨_, l⟩ | ⟨i, l⟩
        · exact clean_out l
        · exact clean_slot l
      · -- no own parameters
        have key : ∀ (own : List Bool) (vs : List V) (i : Nat) (fs : List W), (own.all fun b => !b) = true → FinOk T g' H' i own vs fs → FinOk T g'.clean H' i own vs fs := by
          intro own vs i fs ho z
          induction z with
          | nil i => exact .nil i
          | own _ _ _ _ => rw [List.all_cons] at ho; cases ho
          | val _ ih => rw [List.all_cons, Bool.and_eq_true] at ho; exact .val (ih ho.2)
        exact key _ _ _ _ hp fo
  revert p
  cases execs ir (env0 N.length f.own ws) St with
  | bad => exact fun p => p
  | brk env' S' => exact fun p => p.elim
  | ct env' S' => exact fun p => p.elim
  | exn c fs env' S' => exact fun p d g' H' σ' e s' kk ex => p d g' H' e s'.c ex
  | nx env' S' =>
    intro p g' H' σ' e s' kk
    dsimp only at p
    cases hb : f.fresh with
    | true => rw [hb, if_pos rfl] at p; exact p.elim
    | false =>
      rw [hb, if_neg Bool.false_ne_true] at p
      cases hf : finW f.own 0 env' with
      | none => rw [hf] at p; exact p.elim
      | some fs =>
        rw [hf] at p
        refine p .non g' H' e s'.c ?_ (own s' (by rw [hb] at *; exact kk) hf)
        unfold RetOk
        rw [if_neg Bool.false_ne_true]
        exact repX_non
  | ret w env' S' =>
    intro p x g' H' σ' e s' kk r
    dsimp only at p
    cases hf : finW f.own 0 env' with
    | none => rw [hf] at p; exact p.elim
    | some fs =>
      rw [hf] at p
      exact back e s' kk r hf p
theorem fn_ok {T : Tx} {f : Fn} {a : Addr} {fd : FuncData} {x qual : Str} {st : Stmt} {N ps : List Str} {k n : Nat} {ir : List Wb.S} {dvs : List V} {kws : List (Str × V)} (F : L2.FunD T.K x qual (L2.defArgs st) (L2.defBody st) (L2.defScope st) dvs kws a fd) (S : L2.FnScope N ps (L2.defScope st)) (hm : mSs n (infOf N (L2.defScope st) k) (bdOf f.own f.fresh) (L2.defBody st) ir = true)
    (hsem : f.sem = runDef N.length f.own f.fresh ir) (ho : f.own.length = ps.length) (hfr : f.fresh = true → f.plain = true) (hlv : f.lvl = k + 1) (bl : BLT T) (rq : RqOk T (rqSs ir)) :
    L2.FnOk T.prog T.w T.K T.mg T.base (L2.CX T.prog T.w) f.lvl a fd ps (spF T f) := by
  exact fn_okG (J := PSs) S (fun h1 h2 => F.ok S h1 h2) (fun xi tk po tr => (sndS n).ss (B := bdOf f.own f.fresh) xi tk po tr bl _ ir hm rq) hsem ho hfr hlv
end Wb

namespace Wb
open PySem PySem.Spec PyProof.Rows
open L2 (V Hp HO Rd upd upd_same upd_ne SqL SqT VK TE TT TA TS TG TI TO Ends WX XK R2 Cx Inv RelV Vals ne_of_none PE PT PA PS PSs PG PI OpR UnR CallR MtR Gl Vis Loc PST PSsT PET PAT)
section
variable {M : Model} {A : Around} {E : Value → Shared → Prop} {s₀ s : Shared} {m cm : Str → Option Value} {env : PySem.Env}
end
section
variable {X : Cx} {T : Tx} {W' : WX} {B : Bd} {c : Ctx} {pos p apos : Pos}
end
mutual
def mTE : Nat → Inf → Expr → E → Bool
  | 0, _, _, _ => false
  | n + 1, I, e, ir => match e, ir with
    | .Subscript a b _, .sub a' b' => mTE n I a a' && (okx b && mE n I b b')
    | .List es _, .lst es' => mTEs n I es es'
    | .BinOp a op b _, .bin o a' b' => decide (op = opOf o) && (mTE n I a a' && mE n I b b')
    | .Call (.Attribute o m ap) [.Constant (.str y) _ _, .Constant (.str z) _ _] [] p, .bmeth .replace o' [.cst (.str y'), .cst (.str z')] =>
      decide (m = "replace") && (decide (y = y') && (decide (z = z') && ((!(y == z)) && (okx o && ((ap.endLine == p.line) && mE n I o o')))))
    | .Call (.Attribute o m ap) [a] [] p, .bmeth .split o' [a'] => decide (m = "split") && (okx o && (okx a && ((ap.endLine == p.line) && (mTE n I o o' && mE n I a a'))))
    | e, ir => mE n I e ir
def mTEs : Nat → Inf → List Expr → List E → Bool
  | 0, _, _, _ => false
  | n + 1, I, es, irs => match es, irs with
    | [], [] => true
    | e :: es, e' :: es' => okx e && (mTE n I e e' && mTEs n I es es')
    | _, _ => false
end
def mST (n : Nat) (I : Inf) (B : Bd) : Stmt → Wb.S → Bool
  | .Assign [.Name x p2] e _, .asg i e' => stB I i x && ((B.P i == false) && ((match I.sc.kind with | .function => true | _ => false) && (decide (swB I x p2 e = some false) && mTE n I e e')))
  | _, _ => false
def mSsT : Nat → Inf → Bd → List Stmt → List Wb.S → Bool
  | 0, _, _, _, _ => false
  | n + 1, I, B, sts, ir => match ir with
    | .frz _ :: r => mSsT n I B sts r
    | s :: r => match sts with
      | st :: sts => (mS n I B st s || mST n I B st s) && mSsT n I B sts r
      | [] => false
    | [] => match sts with
      | [] => true
      | _ => false
structure SndT (n : Nat) : Prop where
  e : ∀ {X : Cx} {T : Tx} {I : Inf} {W' : WX}, XI X T I → L2.Takes X W' → BLT T → ∀ (e : Expr) (ir : E) (c : Ctx), mTE n I e ir = true → RqOk T (rqE ir) → PET X e (tE T W' c ir)
  es : ∀ {X : Cx} {T : Tx} {I : Inf} {W' : WX}, XI X T I → L2.Takes X W' → BLT T → ∀ (es : List Expr) (irs : List E), mTEs n I es irs = true → RqOk T (rqEs irs) → PAT X es (tA T W' .V irs)
end Wb

namespace Wb
open PySem PySem.Spec PyProof.Rows
open L2 (V Hp HO Rd upd upd_same upd_ne SqL SqT VK TE TT TA TS TG TI TO Ends WX XK R2 Cx Inv RelV Vals ne_of_none PE PT PA PS PSs PG PI OpR UnR CallR MtR Gl Vis Loc)
/-- a def of the module, without defaults -/
theorem fnk_mk {T : Tx} {f : Fn} {a : Addr} {fd : FuncData} {st : Stmt} {N ps : List Str} {k n : Nat} {ir : List Wb.S} (F : L2.Fun T.K f.nm f.nm st a fd) (hb : L2.Binds T.K fd ps []) (hg : T.mg f.nm = some (.ref a)) (S : L2.FnScope N ps (L2.defScope st))
    (hm : mSs n (infOf N (L2.defScope st) k) (bdOf f.own f.fresh) (L2.defBody st) ir = true) (hsem : f.sem = runDef N.length f.own f.fresh ir) (ho : f.own.length = ps.length) (hfr : f.fresh = true → f.plain = true) (hlv : f.lvl = k + 1) (hd : f.dfl = []) (bl : BLT T) (rq : RqOk T (rqSs ir)) : FnK T f := by
  refine ⟨a, fd, ps, hg, fn_ok (toD F) S hm hsem ho hfr hlv bl rq, F.kp, fun j hj => ?_⟩
  rw [hd] at hj
  have hj0 : j = 0 := by simpa using hj
  subst hj0
  refine ⟨[], [], hb, .nil, ?_⟩
  unfold Fn.dv
  rw [hd]
  exact .nil
/-- what law(script) is asked to keep -/
def spLaw (K : PySem.W.Frag) : L2.Sp := fun vs H Q _ => ∃ (a : Addr) (ns : List Int), vs = [.ref a] ∧ L2.Only H ∧ SqL K H a (ns.map V.int) ∧ ns.length ≤ 63 ∧ (∀ z ∈ ns, Builtin.Int.intBits z ≤ 1048576) ∧ ∀ H', Q (.bl true) H'
theorem law_imp {T : Tx} {f : Fn} (ho : f.own = [false]) (hfr : f.fresh = false) (h : ∀ ns : List Int, ns.length ≤ 63 → (∀ z ∈ ns, Builtin.Int.intBits z ≤ 1048576) → ∃ fs S', f.sem [] [.ro (ns.map .int)] = .ok (.bl true, fs) S') :
    ∀ vs H Q E, spLaw T.K vs H Q E → spF T f vs H Q E := by
  classical
  rintro vs H Q E ⟨a, ns, rfl, hO, hS, hl, hb, q⟩
  obtain ⟨fs, S', hs⟩ := h ns hl hb
  let g : Gh := ⟨fun b => if H b = none then .out else .frz, fun _ => 0⟩
  have gf : ∀ b, H b ≠ none → g.L b = .frz := fun b hb => if_neg hb
  have gn : ∀ b, H b = none → g.L b = .out := fun b hb => if_pos hb
  refine ⟨g, [], [.ro (ns.map .int)], by rw [ho]; rfl, by rw [ho]; rfl, ⟨gn, by rw [ho]; rfl, fun i fl w hi => ?_, fun n c hc => by simp at hc, fun b n z => ?_⟩, fun b i z => ?_, ?_⟩
  · rw [ho] at hi
    cases i with
    | succ i => exact nomatch hi
    | zero =>
      cases hi
      refine ⟨.ref a, rfl, ⟨2, a, ns.map V.int, rfl, ?_, ?_⟩⟩
      · rcases hS with hS | hS
        · exact .inl ⟨gf a (rd_some hS), hS⟩
        · exact .inr hS
      · exact paired_map (F := Rep T g H 1) (f := V.int) (h := W.int) (fun i => (rfl : V.int i = V.int i)) ns
  · exfalso
    by_cases hn : H b = none
    · rw [gn b hn] at z; cases z
    · rw [gf b hn] at z; cases z
  · exfalso
    by_cases hn : H b = none
    · rw [gn b hn] at z; cases z
    · rw [gf b hn] at z; cases z
  · rw [hs]
    intro x g' H' _ _ r _
    unfold RetOk at r
    rw [hfr, if_neg Bool.false_ne_true] at r
    rw [bl_inv r]
    exact q H'
end Wb

namespace Wb
open PySem PySem.Spec PyProof.Rows
@[simp] theorem bind_if {α β : Type} {p : Prop} [Decidable p] {a b : R α} {f : α → Store → R β} : (if p then a else b).bind f = if p then a.bind f else b.bind f := by split <;> rfl
@[simp] theorem out_if {α : Type} {p : Prop} [Decidable p] {a b : R α} {env : Env} {f : α → Store → Out} : (if p then a else b).out env f = if p then a.out env f else b.out env f := by split <;> rfl
@[simp] theorem then_if {p : Prop} [Decidable p] {a b : Out} {f : Env → Store → Out} : (if p then a else b).then f = if p then a.then f else b.then f := by split <;> rfl
@[simp] theorem selB_bl {α : Type} {b : Bool} {t f : R α} : selB (.bl b) t f = if b then t else f := by cases b <;> rfl
@[simp] theorem selO_bl {α : Type} {b : Bool} {t : W → R α} {f : R α} : selO (.bl b) t f = if b then t (.bl true) else f := by cases b <;> rfl
@[simp] theorem selO_non {α : Type} {t : W → R α} {f : R α} : selO .non t f = f := id rfl
@[simp] theorem selO_int {α : Type} {i : Int} {t : W → R α} {f : R α} : selO (.int i) t f = if i = 0 then f else t (.int i) := id rfl
@[simp] theorem truW_bl {b : Bool} : truW (.bl b) = some b := id rfl
@[simp] theorem truW_int {b : Int} : truW (.int b) = some (b != 0) := id rfl
@[simp] theorem truW_non : truW .non = some false := id rfl
@[simp] theorem truW_lst {ws : List W} : truW (.lst ws) = some (!ws.isEmpty) := id rfl
@[simp] theorem truW_tup {ws : List W} : truW (.tup ws) = some (!ws.isEmpty) := id rfl
@[simp] theorem tstR_bl {b : Bool} {S : Store} : tstR (.bl b) S = .ok b S := id rfl
@[simp] theorem ofW_V {w : W} {S : Store} : ofW .V (some w) S = .ok w S := id rfl
@[simp] theorem ofW_B {w : W} {S : Store} : ofW .B (some w) S = .ok w S := id rfl
@[simp] theorem ofW_S {w : W} {S : Store} : ofW .S (some w) S = .ok w S := id rfl
@[simp] theorem ofB_V {w : Bool} {S : Store} : ofB .V (some w) S = .ok (.bl w) S := id rfl
@[simp] theorem ofB_B {w : Bool} {S : Store} : ofB .B (some w) S = .ok (.bl w) S := id rfl
@[simp] theorem ofB_S {w : Bool} {S : Store} : ofB .S (some w) S = .ok (.bl w) S := id rfl
@[simp] theorem ofPV_V {b : Bool} {w : W} {S : Store} : ofPV .V (some (b, w)) S = .ok w S := id rfl
@[simp] theorem ofPV_B {b : Bool} {w : W} {S : Store} : ofPV .B (some (b, w)) S = .ok w S := id rfl
@[simp] theorem ofPV_S {b : Bool} {w : W} {S : Store} : ofPV .S (some (b, w)) S = .ok w S := id rfl
@[simp] theorem ofPV_F {w : W} {S : Store} : ofPV .F (some (true, w)) S = .ok w S := id rfl
@[simp] theorem held_t : Ctx.held true = .B := id rfl
@[simp] theorem held_f : Ctx.held false = .S := id rfl
def eltF (e : E) (env : Env) (S : Store) : R W := ev .V e env S
def cndF (es : List E) (env : Env) (S : Store) : R Bool := evc es env S
def runB (b : List S) (env : Env) (S : Store) : Out := execs b env S
def cdW (e : E) (env : Env) (S : Store) : R Bool := evt e env S
variable {c : Ctx} {env : Env} {S : Store}
@[simp] theorem ev_var (i : Nat) : ev c (.var i) env S = match env.at i with
    | some (.v, w) => if c = .F then .bad else .ok w S
    | some (_, w) => if c = .B ∨ c = .S then .ok w S else .bad
    | none => .bad := by first | (rw [ev]; done) | (rw [ev]; rfl)
@[simp] theorem ev_glob (x : Str) (w : W) : ev c (.glob x w) env S = ofW c (some w) S := by rw [ev]
@[simp] theorem ev_cst (w : W) : ev c (.cst w) env S = ofW c (some w) S := by rw [ev]
@[simp] theorem ev_bin (o : Bin) (a b : E) : ev c (.bin o a b) env S = (ev (.held (quiet b)) a env S).bind fun x S => (ev .B b env S).bind fun y S => ofPV c (binW o x y) S := by rw [ev]
@[simp] theorem ev_neg (a : E) : ev c (.neg a) env S = (ev .B a env S).bind fun x S => match x with
    | .int i => ofW c (some (.int (-i))) S
    | _ => .bad := by first | (rw [ev]; done) | (rw [ev]; rfl)
@[simp] theorem ev_not (a : E) : ev c (.not a) env S = (ev .B a env S).bind fun x S => ofB c ((truW x).map (! ·)) S := by rw [ev]
@[simp] theorem ev_tru (a : E) : ev c (.tru a) env S = (ev .B a env S).bind fun x S => ofB c (truW x) S := by rw [ev]
@[simp] theorem ev_cmp (o : Cmp) (a b : E) : ev c (.cmp o a b) env S = (ev (.held (quiet b)) a env S).bind fun x S => (ev .B b env S).bind fun y S => ofB c (cmpW o x y) S := by rw [ev]
@[simp] theorem ev_and (a b : E) : ev c (.and a b) env S = (ev .B a env S).bind fun x S => selB x (ev c b env S) (ofW c (some (.bl false)) S) := by rw [ev]
@[simp] theorem ev_or (a b : E) : ev c (.or a b) env S = (ev .B a env S).bind fun x S => selO x (fun w => ofW c (some w) S) (ev c b env S) := by rw [ev]
@[simp] theorem ev_ite (t a b : E) : ev c (.ite t a b) env S = (ev .B t env S).bind fun x S => (tstR x S).bind fun k S => if k then ev c a env S else ev c b env S := by rw [ev]
@[simp] theorem ev_tup (es : List E) : ev c (.tup es) env S = (evs .V es env S).bind fun ws S => ofW c (if ws.length ≤ sizeL then some (.tup ws) else none) S := by rw [ev]
@[simp] theorem ev_lst (es : List E) : ev c (.lst es) env S = (evs .V es env S).bind fun ws S => if ws.length ≤ sizeL then .ok (.lst ws) S else .bad := by rw [ev]
@[simp] theorem ev_dct0 : ev c (.dct []) env S = .ok (.dct []) S := by rw [ev, evs]; rfl
/-- a dict of its pairs -/
def dctR (ws : List W) (S : Store) : R W := match pairsW ws with
  | some ps => if ps.length ≤ 15 then .ok (.dct (ps.foldl (fun acc p => putW acc p.1 p.2) [])) S else .bad
  | none => .bad
@[simp] theorem ev_sub (a i : E) : ev c (.sub a i) env S = (ev (.held (quiet i)) a env S).bind fun x S => (ev .V i env S).bind fun y S => ofW c (subW x y) S := by rw [ev]
@[simp] theorem ev_slice (a : E) (lo hi : List E) : ev c (.slice a lo hi) env S = (ev (.held (quiets lo && quiets hi)) a env S).bind fun x S => ((evs .V lo env S).bind optR).bind fun l S => ((evs .V hi env S).bind optR).bind fun h S => ofPV c (sliceW x l h) S := by rw [ev]
@[simp] theorem ev_rev (a : E) : ev c (.rev a) env S = (ev .B a env S).bind fun x S => ofPV c (revW x) S := by rw [ev]
@[simp] theorem ev_fstr (ps : List E) : ev c (.fstr ps) env S = (evj ps Str.empty env S).bind fun z S => ofW c (some (.str z)) S := by rw [ev]
@[simp] theorem ev_fmt (e : E) : ev c (.fmt e) env S = (ev .B e env S).bind fun x S => ofW c ((fmtW x).map .str) S := by rw [ev]
@[simp] theorem ev_fmtw (n : Nat) (e : E) : ev c (.fmtw n e) env S = (ev .B e env S).bind fun x S => match x with
    | .int i => ofW c ((padW n i).map .str) S
    | _ => .bad := by first | (rw [ev]; done) | (rw [ev]; rfl)
@[simp] theorem ev_isi (a : E) (t : Ty) : ev c (.isi a t) env S = (ev .B a env S).bind fun x S => ofB c (isiW x t) S := by rw [ev]
@[simp] theorem ev_bi1 (b : BI) (e : E) : ev c (.bcall b [e]) env S = (ev .B e env S).bind fun w S => ofPV c (biW b [w]) S := by rw [ev]
@[simp] theorem ev_bi2 (b : BI) (e f : E) : ev c (.bcall b [e, f]) env S = (evs .V [e, f] env S).bind fun ws S => ofPV c (biW b ws) S := by
  rw [ev]
  intro e1 h
  cases h
@[simp] theorem ev_bm (b : BM) (o : E) (es : List E) : ev c (.bmeth b o es) env S = (ev (.held (quiets es)) o env S).bind fun x S => if rcvW b x then (evs .V es env S).bind fun ws S => ofPV c (bmW b x ws) S else .bad := by rw [ev]
@[simp] theorem ev_callV (f : Fn) (es : List E) (k : Nat) : ev .V (.call f es k) env S = (evs .V es env S).bind fun ws S => if f.plain then (f.sem S (ws ++ f.dv k)).bind fun r S => .ok r.1 S else .bad := by
  rw [ev]; simp
@[simp] theorem ev_callB (f : Fn) (es : List E) (k : Nat) : ev .B (.call f es k) env S = (evs .V es env S).bind fun ws S => if f.plain then (f.sem S (ws ++ f.dv k)).bind fun r S => .ok r.1 S else .bad := by
  rw [ev]; simp
@[simp] theorem ev_callS (f : Fn) (es : List E) (k : Nat) : ev .S (.call f es k) env S = (evs .V es env S).bind fun ws S => if f.plain then (f.sem S (ws ++ f.dv k)).bind fun r S => .ok r.1 S else .bad := by
  rw [ev]; simp
@[simp] theorem srcC_iter : srcC .iter = .V := id rfl
@[simp] theorem srcC_range : srcC .range = .V := id rfl
@[simp] theorem srcC_zip : srcC .zip = .V := id rfl
@[simp] theorem srcC_keys : srcC .keys = .V := id rfl
@[simp] theorem srcC_own : srcC .own = .B := id rfl
@[simp] theorem own_lst {ws : List W} : itemsR .own [.lst ws] S = .ok ws S := id rfl
@[simp] theorem ev_lc (tg : Tg) (k : Src) (ss cs : List E) (e : E) (own : List (Str × Nat)) : ev c (.lc tg k ss cs e own) env S = ((evs (srcC k) ss env S).bind (itemsR k)).bind fun items S =>
    noExn ((lcGo tg (cndF cs) (eltF e) (wipeE env (own.map (·.2))) items [] S).bind fun ws S' => .ok (.lst ws) S') := by first | (rw [ev]; done) | (rw [ev]; rfl)
/-- a list over the names of an own dict in a field -/
def lcfR (tg : Tg) (f : Str) (e : E) (own : List (Str × Nat)) (env : Env) (S : Store) (x : Option (Flag × W)) : R W := match x with
    | some (_, .ref n) => match S.getF n f with
      | some (.o, .dct kvs) => if quiet e then (noExn ((lcGo tg (cndF []) (eltF e) (wipeE env (own.map (·.2))) (kvs.map fun kv => kW kv.1) [] (S.setF n f (.k, .dct kvs))).bind fun ws S' => .ok (.lst ws) S')).bind fun w S' =>
          match S'.getF n f with
          | some (.k, _) => .ok w (S'.setF n f (.o, .dct kvs))
          | _ => .bad
        else .bad
      | _ => .bad
    | _ => .bad
@[simp] theorem ev_lcF (tg : Tg) (i : Nat) (f : Str) (e : E) (own : List (Str × Nat)) : ev c (.lcF tg i f e own) env S = lcfR tg f e own env S (env.at i) := by
  have ec : (cndF [] : Env → Store → R Bool) = fun (_ : Env) (S' : Store) => (R.ok true S' : R Bool) := by funext e s; show evc [] e s = _; rw [evc]
  rw [ev]
  unfold lcfR
  rw [ec]
  rfl
@[simp] theorem ev_dc (tg : Tg) (k : Src) (ss cs : List E) (ke ve : E) (own : List (Str × Nat)) : ev c (.dc tg k ss cs ke ve own) env S = ((evs (srcC k) ss env S).bind (itemsR k)).bind fun items S =>
    noExn ((dcGo tg (cndF cs) (eltF ke) (eltF ve) (wipeE env (own.map (·.2))) items [] S).bind fun kvs S' => .ok (.dct kvs) S') := by first | (rw [ev]; done) | (rw [ev]; rfl)
@[simp] theorem evs_nil : evs c [] env S = .ok [] S := by rw [evs]
@[simp] theorem evs_cons (e : E) (es : List E) : evs c (e :: es) env S = (ev c e env S).bind fun w S => (evs c es env S).bind fun ws S => .ok (w :: ws) S := by rw [evs]
@[simp] theorem evj_nil (acc : Str) : evj [] acc env S = .ok acc S := by rw [evj]
@[simp] theorem evc_nil : evc [] env S = .ok true S := by rw [evc]
@[simp] theorem evc_one (e : E) : evc [e] env S = (ev .B e env S).bind tstR := by rw [evc]
@[simp] theorem cndF_eq (es : List E) : cndF es env S = evc es env S := id rfl
@[simp] theorem eltF_eq (e : E) : eltF e env S = ev .V e env S := id rfl
@[simp] theorem ev_chain (o1 o2 : Cmp) (a b d : E) : ev c (.chain o1 o2 a b d) env S = (ev .V a env S).bind fun x S => (ev .V b env S).bind fun y S => match cmpW o1 x y with
    | some true => (ev .V d env S).bind fun z S => ofB c (cmpW o2 y z) S
    | some false => ofB c (some false) S
    | none => .bad := by first | (rw [ev]; done) | (rw [ev]; rfl)
@[simp] theorem ev_attr (a : E) (f : Str) : ev c (.attr a f) env S = (ev .B a env S).bind fun x S => attrW c x f S := by rw [ev]
@[simp] theorem attr_ins {cl f : Str} {fs : List (Str × W)} : attrW c (.ins cl fs) f S = ofW c (fs.lookup f) S := id rfl
/-- a method, once its class is seen -/
def methR (f : Fn) (k : Nat) (x : W) (r : R (List W)) (S0 : Store) : R W := if clsOf x S0 = f.cls ∧ f.cls ≠ none then r.bind fun ws S => if f.plain then (f.sem S (x :: (ws ++ f.dv k))).bind fun r S => .ok r.1 S else .bad else .bad
@[simp] theorem ev_methV (f : Fn) (o : E) (es : List E) (k : Nat) : ev .V (.meth f o es k) env S = (ev .V o env S).bind fun x S => methR f k x (evs .V es env S) S := by
  rw [ev]; simp [methR]
@[simp] theorem ev_methB (f : Fn) (o : E) (es : List E) (k : Nat) : ev .B (.meth f o es k) env S = (ev .V o env S).bind fun x S => methR f k x (evs .V es env S) S := by
  rw [ev]; simp [methR]
@[simp] theorem ev_methS (f : Fn) (o : E) (es : List E) (k : Nat) : ev .S (.meth f o es k) env S = (ev .V o env S).bind fun x S => methR f k x (evs .V es env S) S := by
  rw [ev]; simp [methR]
/-- a method that sees no object, once its class is seen -/
def pmR (c : Ctx) (f : Fn) (x : W) (r : R (List W)) (S0 : Store) : R W := if clsOf x S0 = f.cls ∧ f.cls ≠ none then r.bind fun ws S => if c = .F ∨ f.fresh = true ∨ ((x :: (ws ++ f.dv 0)).all (noref 20)) = false then .bad else if f.plain then pureR (f.sem [] (x :: (ws ++ f.dv 0))) S else .bad else .bad
@[simp] theorem ev_pmeth (f : Fn) (o : E) (es : List E) : ev c (.pmeth f o es) env S = (ev .V o env S).bind fun x S => pmR c f x (evs .V es env S) S := by rw [ev]; rfl
theorem pmR_ok {f : Fn} {x w : W} {ws fs : List W} {S0 S1 S2 : Store} (hc : c ≠ .F) (h1 : clsOf x S0 = f.cls) (h2 : f.cls ≠ none) (h3 : f.fresh = false) (h4 : noref 20 x = true) (h5 : ws.all (noref 20) = true) (h6 : f.dv 0 = []) (h7 : f.plain = true) (h8 : f.sem [] (x :: ws) = .ok (w, fs) S2) (h9 : noref 20 w = true) : pmR c f x (.ok ws S1) S0 = .ok w S1 := by
  unfold pmR
  rw [if_pos ⟨h1, h2⟩, R.bind_ok, h6, List.append_nil, if_neg, if_pos h7, h8]
  · exact if_pos h9
  · rintro (h | h | h)
    · exact hc h
    · rw [h3] at h; cases h
    · rw [List.all_cons, h4, h5] at h; cases h
/-- a call that looks at own containers -/
def pcR (c : Ctx) (f : Fn) (r : R (List W)) : R W := r.bind fun ws S => if c = .F ∨ f.fresh = true ∨ ((ws ++ f.dv 0).all (noref 20)) = false then .bad else if f.plain then pureA (f.sem [] (ws ++ f.dv 0)) S else .bad
@[simp] theorem ev_pcall (f : Fn) (es : List E) : ev c (.pcall f es) env S = pcR c f (evq es env S) := by rw [ev]; rfl
/-- a new cell, filled by its __init__ -/
def mkR (cl : Str) (f : Fn) (ws : List W) (S : Store) : R W := (f.sem (S ++ [⟨cl, []⟩]) (.ref S.length :: ws)).bind fun r S' => match r.1 with
  | .non => .ok (.ref S.length) S'
  | _ => .bad
def mkFR (cl : Str) (f : Fn) (ws : List W) (S : Store) : R W := (f.sem S (.ins cl [] :: ws)).bind fun r S' => match r with
  | (.non, [w]) => .ok w S'
  | _ => .bad
@[simp] theorem ev_mkV (cl : Str) (f : Fn) (es : List E) : ev .V (.mk cl f es) env S = (evs .V es env S).bind fun ws S => mkR cl f ws S := by rw [ev]; simp only [reduceCtorEq, if_false]; rfl
@[simp] theorem ev_mkB (cl : Str) (f : Fn) (es : List E) : ev .B (.mk cl f es) env S = (evs .V es env S).bind fun ws S => mkR cl f ws S := by rw [ev]; simp only [reduceCtorEq, if_false]; rfl
@[simp] theorem ev_mkF (cl : Str) (f : Fn) (es : List E) : ev c (.mkF cl f es) env S = (evs .V es env S).bind fun ws S => mkFR cl f ws S := by first | (rw [ev]; done) | (rw [ev]; rfl)
@[simp] theorem runB_nil : runB [] env S = .nx env S := by unfold runB; rw [execs]
@[simp] theorem runB_cons (s : Wb.S) (r : List Wb.S) : runB (s :: r) env S = (exec s env S).then (runB r) := by unfold runB; rw [execs]
@[simp] theorem ex_expr (e : E) : exec (.expr e) env S = (ev .B e env S).out env fun _ S => .nx env S := by rw [exec]
@[simp] theorem ex_asg (i : Nat) (e : E) : exec (.asg i e) env S = (ev .V e env S).out env fun w S => .nx (env.put i (.v, w)) S := by rw [exec]
@[simp] theorem ex_asgO (i : Nat) (e : E) : exec (.asgO i e) env S = (ev .F e env S).out env fun w S => .nx (env.put i (.o, w)) S := by rw [exec]
/-- targets, bound -/
def bindO (is : List Nat) (w : W) (env : Env) (S : Store) : Out := match bindTg (.many is) w env with
  | some env' => .nx env' S
  | none => .bad
@[simp] theorem ex_asgT (is : List Nat) (e : E) : exec (.asgT is e) env S = (ev .V e env S).out env fun w S => bindO is w env S := by first | (rw [exec]; done) | (rw [exec]; rfl)
@[simp] theorem bindO_tup {is : List Nat} {ws : List W} (h : ws.length = is.length) : bindO is (.tup ws) env S = .nx ((is.zip ws).foldl (fun e p => e.put p.1 (.v, p.2)) env) S := by
  have e : bindTg (.many is) (.tup ws) env = some ((is.zip ws).foldl (fun e p => e.put p.1 (.v, p.2)) env) := if_pos h
  unfold bindO
  rw [e]
@[simp] theorem ex_aug (i : Nat) (o : Bin) (e : E) : exec (.aug i o e) env S = match env.at i with
    | some (.v, x) => (ev .B e env S).out env fun y S => match binW o x y with
      | some (false, z) => .nx (env.put i (.v, z)) S
      | _ => .bad
    | _ => .bad := by first | (rw [exec]; done) | (rw [exec]; rfl)
@[simp] theorem ex_ret (e : E) : exec (.ret e) env S = (ev .V e env S).out env fun w S => .ret w env S := by rw [exec]
@[simp] theorem ex_retF (e : E) : exec (.retF e) env S = (ev .F e env S).out env fun w S => .ret w env S := by rw [exec]
@[simp] theorem ex_retN : exec .retN env S = .ret .non env S := by rw [exec]
@[simp] theorem ex_retO (i : Nat) : exec (.retO i) env S = match env.at i with
    | some (.o, w) => .ret w env S
    | _ => .bad := by first | (rw [exec]; done) | (rw [exec]; rfl)
@[simp] theorem ex_pass : exec .pass env S = .nx env S := by rw [exec]
@[simp] theorem ex_brk : exec .brk env S = .brk env S := by rw [exec]
@[simp] theorem ex_cont : exec .cont env S = .ct env S := by rw [exec]
@[simp] theorem ex_frz (i : Nat) : exec (.frz i) env S = match env.at i with
    | some (.o, w) => .nx (env.put i (.v, w)) S
    | _ => .bad := by first | (rw [exec]; done) | (rw [exec]; rfl)
@[simp] theorem ex_ife (t : E) (a b : List Wb.S) : exec (.ife t a b) env S = (cdW t env S).out env fun t S => if t then runB a env S else runB b env S := by first | (rw [exec]; done) | (rw [exec]; rfl)
@[simp] theorem cdW_eq (t : E) : cdW t env S = (ev .B t env S).bind tstR := id rfl
theorem ex_forK (tg : Tg) (k : Src) (ss : List E) (b : List Wb.S) : exec (.for_ tg k ss b) env S = ((evs (srcC k) ss env S).bind (itemsR k)).out env fun items S => keepX k (forGo tg (runB b) items env S) := by first | (rw [exec]; done) | (rw [exec]; rfl)
@[simp] theorem keepX_iter {o : Out} : keepX .iter o = o := by cases o <;> rfl
@[simp] theorem keepX_range {o : Out} : keepX .range o = o := by cases o <;> rfl
@[simp] theorem keepX_zip {o : Out} : keepX .zip o = o := by cases o <;> rfl
@[simp] theorem keepX_nx {k : Src} : keepX k (.nx env S) = .nx env S := by cases k <;> rfl
@[simp] theorem keepX_ret {k : Src} {w : W} : keepX k (.ret w env S) = .ret w env S := by cases k <;> rfl
@[simp] theorem ex_for (tg : Tg) (ss : List E) (b : List Wb.S) : exec (.for_ tg .iter ss b) env S = ((evs .V ss env S).bind (itemsR .iter)).out env fun items S => forGo tg (runB b) items env S := by rw [ex_forK]; simp
@[simp] theorem ex_forr (tg : Tg) (ss : List E) (b : List Wb.S) : exec (.for_ tg .range ss b) env S = ((evs .V ss env S).bind (itemsR .range)).out env fun items S => forGo tg (runB b) items env S := by rw [ex_forK]; simp
@[simp] theorem ex_forz (tg : Tg) (ss : List E) (b : List Wb.S) : exec (.for_ tg .zip ss b) env S = ((evs .V ss env S).bind (itemsR .zip)).out env fun items S => forGo tg (runB b) items env S := by rw [ex_forK]; simp
@[simp] theorem ex_fork (tg : Tg) (ss : List E) (b : List Wb.S) : exec (.for_ tg .keys ss b) env S = ((evs .V ss env S).bind (itemsR .keys)).out env fun items S => keepX .keys (forGo tg (runB b) items env S) := ex_forK _ _ _ _
@[simp] theorem keys_dct {kvs : List (Key × W)} : itemsR .keys [.dct kvs] S = .ok (kvs.map fun kv => kW kv.1) S := id rfl
@[simp] theorem ex_whl (t : E) (b : List Wb.S) : exec (.whl t b) env S = whlGo (cdW t) (runB b) fuel env S := by first | (rw [exec]; done) | (rw [exec]; rfl)
@[simp] theorem ex_app (i : Nat) (e : E) : exec (.app (.slot i) e) env S = if ownL (.slot i) env S then (ev .V e env S).out env fun v S => chg (.slot i) (fun w => appW w v) env S else .bad := by rw [exec]; unfold plc; rfl
@[simp] theorem ex_seti (i : Nat) (k e : E) : exec (.seti (.slot i) k e) env S = (ev .V e env S).out env fun v S => if ownA (.slot i) env S then (ev .V k env S).out env fun kw S => chg (.slot i) (fun w => setItW w kw v) env S else .bad := by rw [exec]; unfold plc; rfl
/-- a field as a place -/
def fldR (f : Str) (x : W) (S : Store) : R PR := match x with
  | .ref n => .ok (PR.fld n f) S
  | _ => .bad
@[simp] theorem fldR_ref {f : Str} {n : Nat} : fldR f (.ref n) S = .ok (PR.fld n f) S := id rfl
@[simp] theorem ex_rem (i : Nat) (e : E) : exec (.rem (.slot i) e) env S = if ownL (.slot i) env S then (ev .V e env S).out env fun v S => chg (.slot i) (fun w => remW w v) env S else .bad := by rw [exec]; unfold plc; rfl
@[simp] theorem ex_appF (o : E) (f : Str) (e : E) : exec (.app (.fld o f) e) env S = ((ev .V o env S).bind (fldR f)).out env fun q S => if ownL q env S then (ev .V e env S).out env fun v S => chg q (fun w => appW w v) env S else .bad := by rw [exec]; simp only [plc]; rfl
@[simp] theorem ex_setiF (o : E) (f : Str) (k e : E) : exec (.seti (.fld o f) k e) env S = (ev .V e env S).out env fun v S => ((ev .V o env S).bind (fldR f)).out env fun q S => if ownA q env S then (ev .V k env S).out env fun kw S => chg q (fun w => setItW w kw v) env S else .bad := by rw [exec]; simp only [plc]; rfl
/-- op= on an item, once the place is known -/
def augQ (q : PR) (k : E) (op : Bin) (e : E) (env : Env) (S : Store) : Out := if ownA q env S then (ev .V k env S).out env fun kw S => match q.get env S with
    | some (.o, w) => match subW w kw with
      | some a => (ev .B e env S).out env fun y S => match binW op a y with
        | some (false, z) => chg q (fun w => setItW w kw z) env S
        | _ => .bad
      | none => .bad
    | _ => .bad else .bad
@[simp] theorem ex_augi (i : Nat) (k : E) (op : Bin) (e : E) : exec (.augi (.slot i) k op e) env S = augQ (.slot i) k op e env S := by first | (rw [exec]; simp only [plc]; rfl) | (rw [exec]; unfold plc; rfl)
@[simp] theorem ex_augiF (o : E) (f : Str) (k : E) (op : Bin) (e : E) : exec (.augi (.fld o f) k op e) env S = ((ev .V o env S).bind (fldR f)).out env fun q S => augQ q k op e env S := by first | (rw [exec]; simp only [plc]; rfl) | (rw [exec]; unfold plc; rfl)
@[simp] theorem ex_seta (cl : Str) (o : E) (f : Str) (e : E) : exec (.seta cl o f e) env S = (ev .V e env S).out env fun w S => (ev .V o env S).out env fun x S => match x with
    | .ref n => if cellB S n cl f then .nx env (S.setF n f (.v, w)) else .bad
    | _ => .bad := by first | (rw [exec]; done) | (rw [exec]; rfl)
@[simp] theorem ex_setaO (cl : Str) (o : E) (f : Str) (e : E) : exec (.setaO cl o f e) env S = (ev .F e env S).out env fun w S => if quiet o then (ev .V o env S).out env fun x S => match x with
    | .ref n => if cellB S n cl f then .nx env (S.setF n f (.o, w)) else .bad
    | _ => .bad else .bad := by first | (rw [exec]; done) | (rw [exec]; rfl)
@[simp] theorem ex_self (cl : Str) (i : Nat) (f : Str) (e : E) : exec (.self cl i f e) env S = (ev .V e env S).out env fun w S => match env.at i with
    | some (.o, .ins c fs) => if c = cl ∧ f ∉ fs.map (·.1) ∧ fs.length < 64 then .nx (env.put i (.o, .ins c (fs ++ [(f, w)]))) S else .bad
    | _ => .bad := by first | (rw [exec]; done) | (rw [exec]; rfl)
@[simp] theorem ex_augA (cl : Str) (o : E) (f : Str) (op : Bin) (e : E) : exec (.augA cl o f op e) env S = (ev .V o env S).out env fun x S => match x with
    | .ref n => match S.getF n f with
      | some (.v, a) => if cellB S n cl f then (ev .B e env S).out env fun y S => match binW op a y with
        | some (false, z) => if cellB S n cl f then .nx env (S.setF n f (.v, z)) else .bad
        | _ => .bad else .bad
      | _ => .bad
    | _ => .bad := by first | (rw [exec]; done) | (rw [exec]; rfl)
@[simp] theorem ex_callO (t : Option Nat) (f : Fn) (as : List (Nat ⊕ E)) : exec (.callO t f as) env S = if distinct as = true ∧ f.fresh = false then (ioArgs as f.own env S).out env fun ws S => ioEnd t as (f.sem S ws) env else .bad := by rw [exec]
@[simp] theorem ex_methO (t : Option Nat) (f : Fn) (o : E) (as : List (Nat ⊕ E)) : exec (.methO t f o as) env S = if distinct as = true ∧ f.fresh = false then (ev .V o env S).out env fun x S => if clsOf x S = f.cls ∧ f.cls ≠ none ∧ f.own.headD true = false then (ioArgs as f.own.tail env S).out env fun ws S => ioEnd t as (f.sem S (x :: ws)) env else .bad else .bad := by rw [exec]
@[simp] theorem ex_raise (x : Xc) (es : List E) : exec (.raise x es) env S = (evs .V es env S).out env fun ws S => if ws.length = x.n then .exn x.nm (x.vals ws) env S else .bad := by rw [exec]
/-- what a try does with an end of its body -/
def catchO (cs : List Str) (hs : List Hnd) : Out → Out
  | .exn c fs env S => if c ∈ cs then hGo c fs hs env S else .bad
  | o => o
@[simp] theorem ex_try (cs : List Str) (b : List Wb.S) (hs : List Hnd) : exec (.try_ cs b hs) env S = catchO cs hs (runB b env S) := by
  rw [exec]
  unfold runB
  cases execs b env S <;> rfl
@[simp] theorem catch_nx {cs : List Str} {hs : List Hnd} : catchO cs hs (.nx env S) = .nx env S := id rfl
@[simp] theorem catch_brk {cs : List Str} {hs : List Hnd} : catchO cs hs (.brk env S) = .brk env S := id rfl
@[simp] theorem catch_ct {cs : List Str} {hs : List Hnd} : catchO cs hs (.ct env S) = .ct env S := id rfl
@[simp] theorem catch_ret {cs : List Str} {hs : List Hnd} {w : W} : catchO cs hs (.ret w env S) = .ret w env S := id rfl
@[simp] theorem catch_exn {cs : List Str} {hs : List Hnd} {x : Str} {fs : List (Str × W)} : catchO cs hs (.exn x fs env S) = if x ∈ cs then hGo x fs hs env S else .bad := id rfl
@[simp] theorem catch_if {cs : List Str} {hs : List Hnd} {p : Prop} [Decidable p] {a b : Out} : catchO cs hs (if p then a else b) = if p then catchO cs hs a else catchO cs hs b := by split <;> rfl
@[simp] theorem hGo_nil {x : Str} {fs : List (Str × W)} : hGo x fs [] env S = .exn x fs env S := id rfl
@[simp] theorem hGo_cons {x : Str} {fs : List (Str × W)} {h : Hnd} {r : List Hnd} : hGo x fs (h :: r) env S = if isSub x h.cls then (runXs x fs h.suite (wipeO h.as env) S).wipe h.as else hGo x fs r env S := id rfl
@[simp] theorem runXs_nil {x : Str} {fs : List (Str × W)} : runXs x fs [] env S = .nx env S := id rfl
@[simp] theorem runXs_cons {x : Str} {fs : List (Str × W)} {s : XS} {r : List XS} : runXs x fs (s :: r) env S = (runX x fs s env S).then fun env S => runXs x fs r env S := id rfl
@[simp] theorem runX_pass {x : Str} {fs : List (Str × W)} : runX x fs .pass env S = .nx env S := id rfl
@[simp] theorem runX_cont {x : Str} {fs : List (Str × W)} : runX x fs .cont env S = .ct env S := id rfl
@[simp] theorem runX_retN {x : Str} {fs : List (Str × W)} : runX x fs .retN env S = .ret .non env S := id rfl
@[simp] theorem runX_ret {x : Str} {fs : List (Str × W)} {v : XV} {w : W} (h : v.val fs env = some w) : runX x fs (.ret v) env S = .ret w env S := by unfold runX; rw [h]
@[simp] theorem runX_asg {x : Str} {fs : List (Str × W)} {v : XV} {w : W} {i : Nat} (h : v.val fs env = some w) : runX x fs (.asg i v) env S = .nx (env.put i (.v, w)) S := by unfold runX; rw [h]
@[simp] theorem runX_ifx {x : Str} {fs : List (Str × W)} {ps : List (Bool × Str)} {s : XS} : runX x fs (.ifx ps s) env S = if ps.any (fun p => isSub x p.2 == p.1) then runX x fs s env S else .nx env S := id rfl
@[simp] theorem wipe_nx {o : Option Nat} : (Out.nx env S).wipe o = .nx (wipeO o env) S := id rfl
@[simp] theorem wipe_ct {o : Option Nat} : (Out.ct env S).wipe o = .ct (wipeO o env) S := id rfl
@[simp] theorem wipe_ret {o : Option Nat} {w : W} : (Out.ret w env S).wipe o = .ret w (wipeO o env) S := id rfl
@[simp] theorem wipe_if {o : Option Nat} {p : Prop} [Decidable p] {a b : Out} : (if p then a else b).wipe o = if p then a.wipe o else b.wipe o := by split <;> rfl
@[simp] theorem wipeO_none : wipeO none env = env := id rfl
@[simp] theorem wipeO_some {i : Nat} : wipeO (some i) env = env.set i none := id rfl
/-- what a body's end hands back -/
def endR (own : List Bool) (fresh : Bool) : Out → R (W × List W)
  | .nx env S => if fresh then .bad else match finW own 0 env with
    | some fs => .ok (.non, fs) S
    | none => .bad
  | .ret w env S => match finW own 0 env with
    | some fs => .ok (w, fs) S
    | none => .bad
  | .exn c fs _ S => .exn c fs S
  | _ => .bad
@[simp] theorem endR_if {own : List Bool} {fresh : Bool} {p : Prop} [Decidable p] {a b : Out} : endR own fresh (if p then a else b) = if p then endR own fresh a else endR own fresh b := by split <;> rfl
@[simp] theorem endR_exn {own : List Bool} {fresh : Bool} {x : Str} {fs : List (Str × W)} : endR own fresh (.exn x fs env S) = .exn x fs S := id rfl
@[simp] theorem endR_ret1 {w : W} {r : Env} {fresh : Bool} : endR [false] fresh (.ret w r S) = .ok (w, []) S := id rfl
@[simp] theorem endR_ret2 {w : W} {r : Env} {fresh : Bool} : endR [false, false] fresh (.ret w r S) = .ok (w, []) S := id rfl
@[simp] theorem endR_ret3 {w : W} {r : Env} {fresh : Bool} : endR [false, false, false] fresh (.ret w r S) = .ok (w, []) S := id rfl
@[simp] theorem endR_ret4 {w : W} {r : Env} {fresh : Bool} : endR [false, false, false, false] fresh (.ret w r S) = .ok (w, []) S := id rfl
@[simp] theorem endR_ret5 {w : W} {r : Env} {fresh : Bool} : endR [false, false, false, false, false] fresh (.ret w r S) = .ok (w, []) S := id rfl
@[simp] theorem endR_ret6 {w : W} {r : Env} {fresh : Bool} : endR [false, false, false, false, false, false] fresh (.ret w r S) = .ok (w, []) S := id rfl
@[simp] theorem noExn_ok' {α : Type} {a : α} : noExn (.ok a S) = .ok a S := id rfl
@[simp] theorem iter_lst {ws : List W} : itemsR .iter [.lst ws] S = .ok ws S := id rfl
@[simp] theorem iter_ro {ws : List W} : itemsR .iter [.ro ws] S = .ok ws S := id rfl
@[simp] theorem iter_tup {ws : List W} : itemsR .iter [.tup ws] S = .ok ws S := id rfl
@[simp] theorem iter_str {z : Str} : itemsR .iter [.str z] S = .ok (z.cps.toList.map fun c => .str ⟨#[c]⟩) S := id rfl
@[simp] theorem add_int' (i j : Int) : binW .add (.int i) (.int j) = some (false, .int (i + j)) := id rfl
@[simp] theorem sub_int' (i j : Int) : binW .sub (.int i) (.int j) = some (false, .int (i - j)) := id rfl
theorem mul_ok {i j : Int} (h : mulOk i j = true) : binW .mul (.int i) (.int j) = some (false, .int (i * j)) := if_pos h
@[simp] theorem mul_intR {i j : Int} (h : -1000000000000 < j ∧ j < 1000000000000) : binW .mul (.int i) (.int j) = some (false, .int (i * j)) := mul_ok (by
  unfold mulOk
  have e : (2 : Int) ^ 64 = 18446744073709551616 := by decide
  rw [e]
  simp
  omega)
@[simp] theorem mod_int' {i j : Int} (h : 0 < j) : binW .mod (.int i) (.int j) = some (false, .int (i % j)) := by
  show (if j ≠ 0 then some (false, W.int (i.fmod j)) else none) = _
  rw [if_pos (by omega), Int.fmod_eq_emod_of_nonneg _ (by omega)]
@[simp] theorem div_int' {i j : Int} (h : 0 < j ∧ j < 1073741824) : binW .fdiv (.int i) (.int j) = some (false, .int (i / j)) := by
  show (if j ≠ 0 ∧ j.natAbs < 1073741824 then some (false, W.int (i.fdiv j)) else none) = _
  rw [if_pos (by omega), Int.fdiv_eq_ediv_of_nonneg _ (by omega)]
@[simp] theorem lt_int' (i j : Int) : cmpW .lt (.int i) (.int j) = some (decide (i < j)) := id rfl
@[simp] theorem le_int' (i j : Int) : cmpW .le (.int i) (.int j) = some (decide (i ≤ j)) := id rfl
@[simp] theorem gt_int' (i j : Int) : cmpW .gt (.int i) (.int j) = some (decide (j < i)) := id rfl
@[simp] theorem ge_int' (i j : Int) : cmpW .ge (.int i) (.int j) = some (decide (j ≤ i)) := id rfl
theorem eqW_int (i j : Int) : eqW (.int i) (.int j) = some (decide (i = j)) := by
  show (if (SeqAt.shaped (.int i) && SeqAt.shaped (.int j)) = true then some (PyData.eqv (.int i) (.int j)) else none) = _
  have h : (SeqAt.shaped (.int i) && SeqAt.shaped (.int j)) = true := rfl
  rw [if_pos h]
  show some (i == j) = _
  rw [Bool.beq_eq_decide_eq]
@[simp] theorem eq_int' (i j : Int) : cmpW .eq (.int i) (.int j) = some (decide (i = j)) := eqW_int i j
@[simp] theorem ne_int' (i j : Int) : cmpW .ne (.int i) (.int j) = some (!decide (i = j)) := by
  show (eqW (.int i) (.int j)).map (! ·) = _
  rw [eqW_int]; rfl
theorem eqW_bl (i j : Bool) : eqW (.bl i) (.bl j) = some (i == j) := by
  show (if (SeqAt.shaped (.bool i) && SeqAt.shaped (.bool j)) = true then some (PyData.eqv (.bool i) (.bool j)) else none) = _
  have h : (SeqAt.shaped (.bool i) && SeqAt.shaped (.bool j)) = true := rfl
  rw [if_pos h]
  cases i <;> cases j <;> rfl
@[simp] theorem eq_bl' (i j : Bool) : cmpW .eq (.bl i) (.bl j) = some (i == j) := eqW_bl i j
@[simp] theorem ne_bl' (i j : Bool) : cmpW .ne (.bl i) (.bl j) = some (!(i == j)) := by
  show (eqW (.bl i) (.bl j)).map (! ·) = _
  rw [eqW_bl]; rfl
@[simp] theorem bi_int_int (i : Int) : biW .int [.int i] = some (false, .int i) := id rfl
@[simp] theorem bi_int_bl (b : Bool) : biW .int [.bl b] = some (false, .int (if b then 1 else 0)) := id rfl
@[simp] theorem bi_abs (i : Int) : biW .abs [.int i] = some (false, .int (if i < 0 then -i else i)) := id rfl
@[simp] theorem bi_len_lst (ws : List W) : biW .len [.lst ws] = some (false, .int (ws.length : Int)) := id rfl
@[simp] theorem bi_len_ro (ws : List W) : biW .len [.ro ws] = some (false, .int (ws.length : Int)) := id rfl
@[simp] theorem bi_len_tup (ws : List W) : biW .len [.tup ws] = some (false, .int (ws.length : Int)) := id rfl
@[simp] theorem isi_bl_bl (b : Bool) : isiW (.bl b) .bool = some true := id rfl
theorem sub_tup {ws : List W} {k : Nat} {w : W} (h : ws[k]? = some w) : subW (.tup ws) (.int k) = some w := L2.atI_nat h
end Wb

namespace Wb
open PySem PySem.Spec PyProof.Rows
open L2 (V Hp HO Rd RelV Vals SqL)
abbrev FV : Type := Option (Str × Str × Arguments × FuncBody × Scope × Addr × Addr)
def fvObs (K : PySem.W.Frag) (a : Addr) : FV := match K.lookup a with
  | some ⟨_, _, .func fd, _⟩ => some (fd.name, fd.qualname, fd.params, fd.body, fd.scope, fd.globals, fd.builtins)
  | _ => none
/-- a def of the text: where it stands, its names, its statement -/
structure Fd where
  at_ : PySem.W.Frag → Addr
  name : Str
  qual : Str
  st : Stmt
def Fd.val (d : Fd) : FV := some (d.name, d.qual, L2.defArgs d.st, .stmts (L2.defBody d.st), L2.defScope d.st, mainGlobals, builtinsNs)
abbrev Ck : Type := PySem.W.Frag → Bool
/-- a dict of texts of the module: its name, its entries; what is looked at is its hashes -/
abbrev Dg : Type := Str × List (Str × Str)
def hsObs (K : PySem.W.Frag) (x : Str) : List Int := match PySem.W.nsIn K mainGlobals x with
  | some (some (.ref a)) => (match K.lookup a with
    | some ⟨_, _, .dict es _, _⟩ => es.toList.map fun e => e.hash
    | _ => [])
  | _ => []
abbrev AlB : Type := Bool × List FV × List (List Int)
def obsB (fc : List Ck) (fd : List Fd) (dg : List Dg) (K : PySem.W.Frag) : AlB := (fc.all fun f => f K, fd.map fun d => fvObs K (d.at_ K), dg.map fun p => hsObs K p.1)
def valB (fd : List Fd) (dg : List Dg) (w : World) : AlB := (true, fd.map Fd.val, dg.map fun p => p.2.map fun r => hashStr w r.1)
def SaysB (fc : List Ck) (fd : List Fd) (dg : List Dg) (w : World) (K : PySem.W.Frag) : Prop := obsB fc fd dg K = valB fd dg w
/-- what a def, a class, a tuple of the module names -/
def refsD (g : Addr → Option Obj) (a : Addr) : List Addr := match g a with
  | some o => (match o.data with
    | .func fd => He.refV fd.code ++ (He.refV fd.defaults ++ ((He.refV fd.defaults).flatMap fun t => match g t with
      | some o => He.refsO o
      | none => []))
    | .cls cd => cd.ns :: (match g cd.ns with
      | some n => He.refsO n ++ ((He.refsO n).flatMap fun m => match g m with
        | some mo => (match mo.data with
          | .func fd => He.refV fd.code ++ fd.closure.map (·.2)
          | _ => [])
        | none => [])
      | none => [])
    | .seq its _ => its.toList.flatMap He.refV
    | _ => [])
  | none => []
def topA (g : Addr → Option Obj) : List Addr := match g mainGlobals with
  | some o => He.refsO o
  | none => []
def asK (g : Addr → Option Obj) : List Addr := mainGlobals :: cStatics :: (topA g ++ (topA g).flatMap (refsD g))
def obsBG (fc : List Ck) (fd : List Fd) (dg : List Dg) (g : Addr → Option Obj) : AlB := obsB fc fd dg (He.frG g (asK g))
def hookB (fc : List Ck) (fd : List Fd) (dg : List Dg) : PySem.W.Hook where
  α := AlB
  obs := fun s => obsBG fc fd dg s.heap.get?
  val := fun w => valB fd dg w
  says := fun w h => ∃ K : PySem.W.Frag, K.In h ∧ SaysB fc fd dg w K
  of := fun _ _ e => ⟨_, He.frG_in, e⟩
  keeps := fun _ _ _ ⟨K, hK, c⟩ k => ⟨K, PySem.W.Frag.In.keeps hK k, c⟩
theorem SaysB.hs {fc : List Ck} {fd : List Fd} {dg : List Dg} {w : World} {K : PySem.W.Frag} (c : SaysB fc fd dg w K) (i : Nat) {p : Dg} (h : dg[i]? = some p) : hsObs K p.1 = p.2.map fun r => hashStr w r.1 := by
  have e : dg.map (fun p => hsObs K p.1) = dg.map fun p => p.2.map fun r => hashStr w r.1 := congrArg (fun z : AlB => z.2.2) c
  have e2 : (dg.map fun p => hsObs K p.1)[i]? = (dg.map fun p => p.2.map fun r => hashStr w r.1)[i]? := by rw [e]
  rw [List.getElem?_map, List.getElem?_map, h] at e2
  exact Option.some.inj e2
theorem b2 {a b : Bool} (h : (a && b) = true) : a = true ∧ b = true := Bool.and_eq_true_iff.mp h
/-- of a plain def: no closure, no defaults, its code's name -/
def ckF (f : PySem.W.Frag → Addr) (q : Str) : Ck := fun K => (match K.lookup (f K) with
  | some ⟨_, _, .func fd, _⟩ => fd.closure.isEmpty && (decide (fd.defaults = .none) && PySem.W.codeIn K fd.code q)
  | _ => false) && PySem.W.keepIn K (.ref (f K))
theorem ckF_ok {K : PySem.W.Frag} {d : Fd} (e : fvObs K (d.at_ K) = d.val) (c : ckF d.at_ d.qual K = true) :
    (∃ oc od osl kV doc pm an cdv ct, K.lookup (d.at_ K) = some ⟨oc, od, .func (PySem.W.fnOf d.name d.qual (L2.defArgs d.st) (L2.defBody d.st) (L2.defScope d.st) .none kV doc pm an cdv ct), osl⟩ ∧ PySem.W.codeIn K cdv d.qual = true) ∧ PySem.W.keepIn K (.ref (d.at_ K)) = true := by
  unfold ckF at c
  obtain ⟨c, k⟩ := b2 c
  refine ⟨?_, k⟩
  unfold fvObs at e
  cases q : K.lookup (d.at_ K) with
  | none => rw [q] at c; cases c
  | some o =>
    obtain ⟨oc, od, dt, osl⟩ := o
    rw [q] at c e
    cases dt with
    | func fd =>
      dsimp only at c e
      obtain ⟨c1, c⟩ := b2 c
      obtain ⟨c2, c3⟩ := b2 c
      have k2 := of_decide_eq_true c2
      clear c2
      obtain ⟨n1, n2, n3, n4, n5, n6, n7, n8, n9, n10, n11, n12, n13, n14, n15⟩ := fd
      unfold Fd.val at e
      simp only [Option.some.injEq, Prod.mk.injEq] at e c1 k2 c3
      obtain ⟨h1, h2, h3, h4, h5, h6, h7⟩ := e
      have h8 : n7 = [] := by simpa using c1
      subst h1 h2 h3 h4 h5 h6 h7 h8 k2
      exact ⟨oc, od, osl, n9, n10, n11, n12, n13, n14, rfl, c3⟩
    | _ => cases c
theorem fun_of {K : PySem.W.Frag} {d : Fd} (e : fvObs K (d.at_ K) = d.val) (c : ckF d.at_ d.qual K = true) : ∃ fd, L2.Fun K d.name d.qual d.st (d.at_ K) fd := by
  obtain ⟨⟨oc, od, osl, kV, doc, pm, an, cdv, ct, l, cc⟩, k⟩ := ckF_ok e c
  exact ⟨_, L2.fun_mk l cc k⟩
/-- of an error's class: C, its __init__ f, where its code, the cell of the class stand -/
def iniA (C : Addr) (K : PySem.W.Frag) : Addr := He.ma K C "__init__"
def codA (K : PySem.W.Frag) (f : Addr) : Addr := match K.lookup f with
  | some ⟨_, _, .func fd, _⟩ => (match fd.code with
    | .ref a => a
    | _ => 0)
  | _ => 0
def celA (K : PySem.W.Frag) (f : Addr) : Addr := match K.lookup f with
  | some ⟨_, _, .func fd, _⟩ => (match fd.closure with
    | [(_, a)] => a
    | _ => 0)
  | _ => 0
def excB (K : PySem.W.Frag) (C : Addr) : Bool := match K.lookup C with
  | some ⟨.type "type", _, .cls cd, sl⟩ => (match cd.mro, sl.toList with
    | .ref C' :: bm, [_, _, _, _, some (.builtin n), _] => C' == C && (n == "ValueError.__new__" && (!cd.hasDel && (cd.hasDict && PySem.HandSPX.refsVE bm)))
    | _, _ => false)
  | _ => false
def bi (s : String) : Option (Option Value) := some (some (.builtin s))
def fnB (K : PySem.W.Frag) (F A D : Addr) : Bool := match K.lookup F with
  | some ⟨_, _, .func fd, _⟩ => decide (fd.closure = [(("__class__" : Str), A)]) && (decide (fd.defaults = .none) && decide (fd.code = .ref D))
  | _ => false
def yfB (K : PySem.W.Frag) (D : Addr) (file : Str) : Bool := match K.lookup D with
  | some ⟨_, _, .fields vs, _⟩ => (match vs[2]? with
    | some (Value.str y _) => decide (y = file)
    | _ => false)
  | _ => false
def clB (K : PySem.W.Frag) (A C : Addr) : Bool := match K.lookup A with
  | some ⟨_, _, .cell (some (.ref c)), _⟩ => decide (c = C)
  | _ => false
def ckX (x : Str) (qual : Str) (fls : List Str) (file : Str) : Ck := fun K =>
  let C := He.ga K x
  let F := iniA C K
  let D := codA K F
  let A := celA K F
  He.eqO (PySem.W.nsIn K mainGlobals x) (some (some (.ref C))) && (excB K C && (He.eqO (PySem.W.findIn K (.ref C) "__setattr__") (bi "object.__setattr__") &&
  (decide (PySem.W.subIn K (.ref C) (.type "BaseException") = some true) && (decide (PySem.W.typeIn K (.ref C) = some (.type "type")) && (PySem.W.keepIn K (.ref C) &&
  (He.eqO (PySem.W.findIn K (.ref C) "__init__") (some (some (.ref F))) && (decide (PySem.W.typeIn K (.ref F) = some (.type "function")) &&
  (fnB K F A D && (yfB K D file && (clB K A C && (decide (PySem.W.mroIn K C (.ref C) = some true) && (decide (PySem.W.ks_superIn K C C "__init__" = bi "ValueError.__init__") &&
  (decide (PySem.W.subIn K (.ref C) (.type "ValueError") = some true) && (PySem.W.codeIn K (.ref D) qual && (fls.all fun f => He.eqO (PySem.W.findIn K (.ref C) f) (some none))))))))))))))))
/-- of a class that is caught, whose fields are read -/
def ckXc (x : Str) : Ck := fun K =>
  let C := He.ga K x
  He.eqO (PySem.W.findIn K (.ref C) "__getattribute__") (bi "BaseException.__getattribute__") && (He.eqO (PySem.W.findIn K (.ref C) "__getattr__") (some none) && (PySem.W.hasDictIn K C && (He.eqO (PySem.W.findIn K (.ref C) "__class__") (bi "object.__class__") &&
  (decide (PySem.W.mroIn K C (.type "object") = some true) && decide (PySem.W.subIn K (.ref C) (.type "BaseException") = some true)))))
/-- of all errors -/
def ckY : Ck := fun K => He.eqO (PySem.W.nsIn K cStatics "thirdparty.any") (some none) && (He.eqO (PySem.W.nsIn K mainGlobals "super") (some none) &&
  (decide (PySem.W.specialIn K (.builtin "object.__class__") "__get__" = bi "getset_descriptor.__get__") && decide (PySem.W.takesIn K (.builtin "object.__class__") = some true)))
/-- a class of objects -/
def ckO (x : Str) (fls : List Str) : Ck := fun K =>
  let C := He.ga K x
  He.eqO (PySem.W.nsIn K mainGlobals x) (some (some (.ref C))) && (PySem.W.plainGet K C Str.empty && (PySem.W.hasDictIn K C && (PySem.W.plainOver K C && (He.eqO (PySem.W.findIn K (.ref C) "__setattr__") (bi "object.__setattr__") &&
  (PySem.W.makesIn K C && (PySem.W.keepIn K (.ref C) && (fls.all fun f => He.eqO (PySem.W.findIn K (.ref C) f) (some none))))))))
/-- a method -/
def ckM (x m : Str) : Ck := fun K =>
  let C := He.ga K x
  let F := He.ma K C m
  He.eqO (PySem.W.findIn K (.ref C) m) (some (some (.ref F))) && PySem.W.isFn K (.ref F)
/-- a name of the module's -/
def ckG (x : Str) : Ck := fun K => He.eqO (PySem.W.nsIn K mainGlobals x) (some (some (.ref (He.ga K x))))
def ckN (x : Str) : Ck := fun K => He.eqO (PySem.W.nsIn K mainGlobals x) (some none)
/-- how two classes stand: the class x, the named y -/
def ckS (x : Str) (y : Str) (own : Bool) : Ck := fun K =>
  let v : Value := if own then .ref (He.ga K y) else .type (String.ofList (y.cps.toList.map fun c => Char.ofNat c))
  decide (PySem.W.exmOne K (.ref (He.ga K x)) v = some (isSub x y)) && decide (PySem.W.kitOne K (.ref (He.ga K x)) v = some (isSub x y))
def ckA (x f : Str) : Ck := fun K => He.eqO (PySem.W.findIn K (.ref (He.ga K x)) f) (some none)
mutual
def gvB (K : PySem.W.Frag) : Nat → Value → W → Bool
  | _, .none, .non => true
  | _, .bool b, .bl c => b == c
  | _, .int i _, .int j => decide (i = j)
  | _, .str s _, .str z => decide (s = z)
  | n + 1, .ref a, .tup ws => match K.lookup a with
    | some ⟨.type "tuple", _, .seq its _, _⟩ => decide (its.size ≤ sizeLine) && gvBs K n its.toList ws
    | _ => false
  | _, _, _ => false
def gvBs (K : PySem.W.Frag) : Nat → List Value → List W → Bool
  | _, [], [] => true
  | n + 1, v :: vs, w :: ws => gvB K n v w && gvBs K n vs ws
  | _, _, _ => false
end
def ckV (x : Str) (n : Nat) (w : W) : Ck := fun K => match PySem.W.nsIn K mainGlobals x with
  | some (some u) => gvB K n u w
  | _ => false
/-- a module's dict of texts -/
def dcB : List DictEntry → List (Str × Str) → Bool
  | [], [] => true
  | e :: es, p :: ps => (match e.key, e.val with
    | .str k _, .str v _ => decide (k = p.1) && decide (v = p.2)
    | _, _ => false) && dcB es ps
  | _, _ => false
def ckDc (x : Str) (ss : List (Str × Str)) : Ck := fun K => match PySem.W.nsIn K mainGlobals x with
  | some (some (.ref a)) => !(a == sysModules) && (match K.lookup a with
    | some ⟨.type "dict", none, .dict es _, sl⟩ => sl.isEmpty && dcB es.toList ss
    | _ => false)
  | _ => false
theorem dcB_ok {P : Program} {w : World} : ∀ (es : List DictEntry) (ss : List (Str × Str)), dcB es ss = true → es.map (fun e => e.hash) = ss.map (fun p => hashStr w p.1) →
    ∃ vs, (∀ e ∈ es, ∃ k, (L2.mixKind P w).is k e.key = true ∧ e.hash = (L2.mixKind P w).hash k) ∧ Pairs (L2.mixKind P w) es vs ∧ vs.map (·.1) = ss.map (fun p => (Sum.inr p.1 : L2.Key)) ∧
      Paired (fun (p : Str × Str) (r : L2.Key × Value) => r.1 = .inr p.1 ∧ ∃ t, r.2 = .str p.2 t) ss vs
  | [], [], _, _ => ⟨[], (fun _ h => by cases h), .nil, rfl, .nil⟩
  | [], _ :: _, h, _ => by cases h
  | _ :: _, [], h, _ => by cases h
  | e :: es, p :: ps, h, hh => by
    obtain ⟨h1, h2⟩ := b2 h
    rw [List.map_cons, List.map_cons] at hh
    injection hh with g1 g2
    obtain ⟨vs, i1, i2, i3, i4⟩ := dcB_ok (P := P) es ps h2 g2
    obtain ⟨hs, key, val⟩ := e
    split at h1
    · rename_i k t v u hk hv
      dsimp only at hk hv g1
      subst hk hv
      obtain ⟨e1, e2⟩ := b2 h1
      have e1 := of_decide_eq_true e1
      have e2 := of_decide_eq_true e2
      subst e1 e2
      refine ⟨(.inr p.1, .str p.2 u) :: vs, fun x hx => ?_, .cons (L2.keyIs_str p.1 t) rfl i2, by rw [List.map_cons, List.map_cons, i3], .cons ⟨rfl, u, rfl⟩ i4⟩
      rcases List.mem_cons.mp hx with rfl | hx
      · exact ⟨.inr p.1, L2.keyIs_str p.1 t, g1⟩
      · exact i1 x hx
    · cases h1
/-- a module's tuple -/
def ckT (x : Str) : Ck := fun K => match PySem.W.nsIn K mainGlobals x with
  | some (some (.ref a)) => match K.lookup a with
    | some ⟨.type "tuple", none, _, _⟩ => true
    | _ => false
  | _ => false
mutual
theorem gvB_ok {T : Tx} : ∀ (n : Nat) (u : Value) (w : W), gvB T.K n u w = true → ∃ v, RelV v u ∧ Stable T v w
  | n, .none, w, h => by
    cases w <;> first | (cases n <;> cases h; done) | exact ⟨.non, rfl, fun _ _ => repX_non⟩
  | n, .bool b, w, h => by
    cases w with
    | bl c =>
      have h' : (b == c) = true := by cases n <;> exact h
      rw [← eq_of_beq h']
      exact ⟨.bl b, rfl, fun _ _ => repX_bl⟩
    | _ => cases n <;> cases h
  | n, .int i t, w, h => by
    cases w with
    | int j =>
      have h' : decide (i = j) = true := by cases n <;> exact h
      rw [← of_decide_eq_true h']
      exact ⟨.int i, ⟨_, rfl⟩, fun _ _ => repX_int⟩
    | _ => cases n <;> cases h
  | n, .str s t, w, h => by
    cases w with
    | str z =>
      have h' : decide (s = z) = true := by cases n <;> exact h
      rw [← of_decide_eq_true h']
      exact ⟨.str s, ⟨_, rfl⟩, fun _ _ => repX_str⟩
    | _ => cases n <;> cases h
  | n + 1, .ref a, .tup ws, h => by
    unfold gvB at h
    split at h
    · rename_i its n' sl ho
      obtain ⟨h1, h2⟩ := b2 h
      obtain ⟨xs, r1, r2⟩ := gvBs_ok n its.toList ws h2
      refine ⟨.ref a, rfl, fun g H => repX_tup (.inr ⟨_, its, _, ho, rfl, rfl, of_decide_eq_true h1, r1⟩) (r2 g H)⟩
    · cases h
  | 0, .ref a, w, h => by cases w <;> cases h
  | n + 1, .ref a, .non, h => by cases h
  | n + 1, .ref a, .bl _, h => by cases h
  | n + 1, .ref a, .int _, h => by cases h
  | n + 1, .ref a, .str _, h => by cases h
  | n + 1, .ref a, .lst _, h => by cases h
  | n + 1, .ref a, .ro _, h => by cases h
  | n + 1, .ref a, .dct _, h => by cases h
  | n + 1, .ref a, .ins _ _, h => by cases h
  | n + 1, .ref a, .ref _, h => by cases h
  | n, .float _ _, w, h => by cases n <;> cases w <;> cases h
  | n, .bytes _ _, w, h => by cases n <;> cases w <;> cases h
  | n, .type _, w, h => by cases n <;> cases w <;> cases h
  | n, .ellipsis, w, h => by cases n <;> cases w <;> cases h
  | n, .notImplemented, w, h => by cases n <;> cases w <;> cases h
  | n, .builtin _, w, h => by cases n <;> cases w <;> cases h
theorem gvBs_ok {T : Tx} : ∀ (n : Nat) (us : List Value) (ws : List W), gvBs T.K n us ws = true → ∃ xs : List V, Vals xs us ∧ ∀ g H, Paired (RepX T g H) xs ws
  | n, [], ws, h => by
    cases ws with
    | nil => exact ⟨[], .nil, fun _ _ => .nil⟩
    | cons w ws => cases n <;> cases h
  | n + 1, u :: us, w :: ws, h => by
    unfold gvBs at h
    obtain ⟨h1, h2⟩ := b2 h
    obtain ⟨x, r, s⟩ := gvB_ok n u w h1
    obtain ⟨xs, rs, ss⟩ := gvBs_ok n us ws h2
    exact ⟨x :: xs, .cons r rs, fun g H => .cons (s g H) (ss g H)⟩
  | n, u :: us, [], h => by cases n <;> cases h
  | 0, u :: us, w :: ws, h => by cases h
end
end Wb

namespace Wb
open PySem PySem.Spec PyProof.Rows
open L2 (V Hp HO Rd RelV Vals SqL)
abbrev txH (P : Program) (w : World) (K : PySem.W.Frag) (mg : Str → Option Value) (base : Heap) : Tx := { K := K, ca := fun s => He.ga K s, prog := P, w := w, base := base, mg := mg }
structure HD (fc : List Ck) (fd : List Fd) (dg : List Dg) (file : Str) (P : Program) (w : World) (K : PySem.W.Frag) (mg : Str → Option Value) (base : Heap) : Prop where
  X : ∃ h, K.In h ∧ h.Ns mainGlobals mg
  c : SaysB fc fd dg w K
  pf : P.main.file = file
  ps : (P.main.scope.names.lookup ("super" : Str)).isSome = false
section
variable {fc : List Ck} {fds : List Fd} {dgs : List Dg} {file : Str} {P : Program} {w : World} {K : PySem.W.Frag} {mg : Str → Option Value} {base : Heap} (d : HD fc fds dgs file P w K mg base)
include d
theorem HD.mgR {x : Str} {v : Value} (h : He.eqO (PySem.W.nsIn K mainGlobals x) (some (some v)) = true) : mg x = some v := by
  obtain ⟨h', X, G⟩ := d.X
  exact PySem.W.mg_of X G (He.eqO_ok h)
theorem HD.mgG {x : Str} (h : ckG x K = true) : mg x = some (.ref (He.ga K x)) := d.mgR h
theorem HD.glob {x : Str} {n : Nat} {v : W} (h : ckV x n v K = true) : Rq.ok (txH P w K mg base) (.glob x v) := by
  unfold ckV at h
  cases e : PySem.W.nsIn K mainGlobals x with
  | none => rw [e] at h; cases h
  | some o =>
    rw [e] at h
    cases o with
    | none => cases h
    | some u =>
      obtain ⟨v, r, s⟩ := gvB_ok (T := txH P w K mg base) n u v h
      obtain ⟨h', X, G⟩ := d.X
      exact ⟨u, v, PySem.W.mg_of X G e, r, s⟩
theorem HD.tupG {x : Str} (h : ckT x K = true) : Rq.ok (txH P w K mg base) (.tupG x) := by
  unfold ckT at h
  split at h
  · rename_i a e
    split at h
    · rename_i dt sl e2
      obtain ⟨h', X, G⟩ := d.X
      exact ⟨a, _, PySem.W.mg_of X G e, e2, rfl, rfl⟩
    · cases h
  · cases h
theorem HD.dicG {x : Str} {ss : List (Str × Str)} (h : ckDc x ss K = true) (hh : hsObs K x = ss.map fun r => hashStr w r.1) (nd : (ss.map fun p => p.1).Nodup) (hl : ss.length ≤ sizeLine) : Rq.ok (txH P w K mg base) (.dicG x (ss.map dcW)) := by
  unfold ckDc at h
  unfold hsObs at hh
  split at h
  · rename_i a e
    obtain ⟨h1, h⟩ := b2 h
    rw [e] at hh
    dsimp only at hh
    split at h
    · rename_i es ep sl e2
      rw [e2] at hh
      dsimp only at hh
      obtain ⟨h2, h3⟩ := b2 h
      obtain ⟨h', X, G⟩ := d.X
      obtain ⟨vs, i1, i2, i3, i4⟩ := dcB_ok (P := P) es.toList ss h3 hh
      refine ⟨a, ss, PySem.W.mg_of X G e, ⟨by simpa using h1, _, es, ep, vs, e2, ⟨rfl, rfl, by simpa using h2⟩, rfl, fun x hx => i1 x (Array.mem_def.mp hx), i2, ?_, i4⟩, rfl, hl⟩
      rw [i3]
      have e9 : (ss.map fun p => (Sum.inr p.1 : L2.Key)) = (ss.map fun p => p.1).map Sum.inr := by rw [List.map_map]; rfl
      rw [e9]
      exact nd.map Sum.inr fun a b hab hc => hab (Sum.inr.inj hc)
    · cases h
  · cases h
/-- a def of the module -/
theorem HD.fn {f : Fn} {st : Stmt} {N ps : List Str} {k n : Nat} {ir : List Wb.S} (hg : ckG f.nm K = true) (hc : ckF (fun K => He.ga K f.nm) f.nm K = true) (hv : fvObs K (He.ga K f.nm) = Fd.val ⟨fun K => He.ga K f.nm, f.nm, f.nm, st⟩)
    (hb : ∀ (kV doc pm : Value) (an : Option Addr) (cdv ct : Value) (us : List Value), us.length = ps.length → bindArgs (PySem.W.fnOf f.nm f.nm (L2.defArgs st) (L2.defBody st) (L2.defScope st) .none kV doc pm an cdv ct) ⟨us, []⟩ = pure (ps.zip us))
    (S : L2.FnScope N ps (L2.defScope st)) (hm : mSs n (infOf N (L2.defScope st) k) (bdOf f.own f.fresh) (L2.defBody st) ir = true) (hsem : f.sem = runDef N.length f.own f.fresh ir) (ho : f.own.length = ps.length) (hfr : f.fresh = true → f.plain = true) (hlv : f.lvl = k + 1) (hd : f.dfl = [])
    (bl : BLT (txH P w K mg base)) (rq : RqOk (txH P w K mg base) (rqSs ir)) : FnK (txH P w K mg base) f := by
  obtain ⟨fd, F⟩ := fun_of (d := ⟨fun K => He.ga K f.nm, f.nm, f.nm, st⟩) hv hc
  exact fnk_mk (T := txH P w K mg base) F (F.binds hb) (d.mgG hg) S hm hsem ho hfr hlv hd bl rq
/-- a def with one default -/
def ckD (x : Str) (n : Nat) (v : W) : Ck := fun K => (match K.lookup (He.ga K x) with
  | some ⟨_, _, .func fd, _⟩ => fd.closure.isEmpty && (PySem.W.codeIn K fd.code x && (match fd.defaults with
    | .ref t => (match K.lookup t with
      | some ⟨_, _, .seq its _, _⟩ => gvBs K n its.toList [v]
      | _ => false)
    | _ => false))
  | _ => false) && PySem.W.keepIn K (.ref (He.ga K x))
structure ObK (K : PySem.W.Frag) (x : Str) (fls : List Str) : Prop where
  cls : L2.Cls K (He.ga K x)
  mks : PySem.W.makesIn K (He.ga K x) = true
  kp : PySem.W.keepIn K (.ref (He.ga K x)) = true
  na : ∀ f ∈ fls, L2.NoAttr K (He.ga K x) f
omit d in
theorem ob_of {x : Str} {fls : List Str} (h : ckO x fls K = true) : ObK K x fls := by
  unfold ckO at h
  obtain ⟨h1, h⟩ := b2 h
  obtain ⟨h2, h⟩ := b2 h
  obtain ⟨h3, h⟩ := b2 h
  obtain ⟨h4, h⟩ := b2 h
  obtain ⟨h5, h⟩ := b2 h
  obtain ⟨h6, h⟩ := b2 h
  obtain ⟨h7, h8⟩ := b2 h
  exact ⟨⟨h2, h3, h4, He.eqO_ok h5⟩, h6, h7, fun f hf => He.eqO_ok (List.all_eq_true.mp h8 f hf)⟩
theorem HD.mth {f : Fn} {cl : Str} {fls ps : List Str} (hcl : f.cls = some cl) (h : ckO cl fls K = true) (hm : ckM cl f.nm K = true) (hk : PySem.W.keepIn K (.ref (He.ma K (He.ga K cl) f.nm)) = true) (E : ∃ fd, FOK (txH P w K mg base) f (He.ma K (He.ga K cl) f.nm) fd ps) : MthK (txH P w K mg base) f := by
  obtain ⟨fd, E⟩ := E
  unfold ckM at hm
  obtain ⟨m1, m2⟩ := b2 hm
  exact ⟨cl, _, fd, ps, hcl, (ob_of h).cls, ⟨He.eqO_ok m1, m2, hk⟩, E⟩
theorem HD.fld {x f : Str} {fls : List Str} (h : ckO x fls K = true) (hf : f ∈ fls) : Rq.ok (txH P w K mg base) (.fld x f) := (ob_of h).na f hf
theorem HD.xcl {cs : List Str} (hy : ckY K = true) (h : ∀ c ∈ cs, ckXc c K = true) : Rq.ok (txH P w K mg base) (.xcl cs) := by
  intro c hc
  unfold ckY at hy
  obtain ⟨_, hy⟩ := b2 hy
  obtain ⟨_, hy⟩ := b2 hy
  obtain ⟨y3, y4⟩ := b2 hy
  have z := h c hc
  unfold ckXc at z
  dsimp only at z
  obtain ⟨z1, z⟩ := b2 z
  obtain ⟨z2, z⟩ := b2 z
  obtain ⟨z3, z⟩ := b2 z
  obtain ⟨z4, z⟩ := b2 z
  obtain ⟨z5, z6⟩ := b2 z
  have y3 := of_decide_eq_true y3
  have y4 := of_decide_eq_true y4
  exact ⟨⟨He.eqO_ok z1, He.eqO_ok z2, of_decide_eq_true z6, z3⟩, ⟨He.eqO_ok z1, He.eqO_ok z2, of_decide_eq_true z6, z3, He.eqO_ok z4, y3, y4, of_decide_eq_true z5⟩⟩
/-- a built-in class of errors -/
def ckSb (x : Str) (y : String) : Ck := fun K => decide (PySem.W.exmOne K (.ref (He.ga K x)) (.type y) = some (isSub x y)) && decide (PySem.W.kitOne K (.ref (He.ga K x)) (.type y) = some (isSub x y))
theorem HD.xfl {cs : List Str} {f : Str} (h : ∀ c ∈ cs, ckA c f K = true) : Rq.ok (txH P w K mg base) (.xfl cs f) := fun c hc => He.eqO_ok (h c hc)
/-- the law itself -/
theorem HD.law {f : Fn} {st : Stmt} {N : List Str} {k n : Nat} {ir : List Wb.S} (hnm : f.nm = "law") (hc : ckF (fun K => He.ga K "law") "law" K = true) (hv : fvObs K (He.ga K "law") = Fd.val ⟨fun K => He.ga K "law", "law", "law", st⟩)
    (hb : ∀ (kV doc pm : Value) (an : Option Addr) (cdv ct : Value) (us : List Value), us.length = 1 → bindArgs (PySem.W.fnOf "law" "law" (L2.defArgs st) (L2.defBody st) (L2.defScope st) .none kV doc pm an cdv ct) ⟨us, []⟩ = pure ([("script" : Str)].zip us))
    (S : L2.FnScope N ["script"] (L2.defScope st)) (hm : mSs n (infOf N (L2.defScope st) k) (bdOf f.own f.fresh) (L2.defBody st) ir = true) (hsem : f.sem = runDef N.length f.own f.fresh ir) (ho : f.own = [false]) (hfr : f.fresh = false) (hlv : f.lvl = k + 1)
    (bl : BLT (txH P w K mg base)) (rq : RqOk (txH P w K mg base) (rqSs ir))
    (hlaw : ∀ ns : List Int, ns.length ≤ 63 → (∀ z ∈ ns, Builtin.Int.intBits z ≤ 1048576) → ∃ fs S', f.sem [] [.ro (ns.map .int)] = .ok (.bl true, fs) S') :
    ∃ fd : FuncData, L2.Fun K "law" "law" st (He.ga K "law") fd ∧ L2.FnOk P w K mg base (L2.CX P w) (k + 1) (He.ga K "law") fd ["script"] (spLaw K) := by
  obtain ⟨fd, F⟩ := fun_of (d := ⟨fun K => He.ga K "law", "law", "law", st⟩) hv hc
  refine ⟨fd, F, ?_⟩
  have z := fn_ok (f := f) (T := txH P w K mg base) (toD F) S hm hsem (by rw [ho]; rfl) (fun z => by rw [hfr] at z; cases z) hlv bl rq
  rw [hlv] at z
  exact z.imp (law_imp (T := txH P w K mg base) ho hfr hlaw)
end
end Wb

namespace Wb
open PySem PySem.Spec PyProof.Rows
open L2 (V Hp HO Rd RelV Vals)
def top (i : Nat) : Stmt := PySem.Challenge.pw_weirbook_k12_flows.main.body.getD i (.Pass ⟨0, 0, 0, 0⟩)
def X_BadText : Xc := ⟨"BadText", 3, [("label", .cst "BadText"), ("line", .arg 0), ("column", .arg 1), ("reason", .arg 2)]⟩
def X_OutOfRange : Xc := ⟨"OutOfRange", 1, [("label", .cst "OutOfRange"), ("value", .arg 0)]⟩
def X_UnknownName : Xc := ⟨"UnknownName", 1, [("label", .cst "UnknownName"), ("name", .arg 0)]⟩
abbrev XCS : List Str := ["BadText", "OutOfRange", "UnknownName"]
def D_KINDS : List (Str × Str) := [((sx [116, 97, 107, 101, 115]), (sx [116, 97, 107, 101])), ((sx [107, 101, 101, 112, 115]), (sx [107, 101, 101, 112])), ((sx [115, 116, 111, 114, 101, 115]), (sx [115, 116, 111, 114, 101]))]
def N_l_draw : List Str := ["cell", "limits", "row", "rest", "great", "k", "mixed"]
def B_l_draw : List S := [.asgO 2 (.lst []), .asg 3 (.bcall .abs [(.var 0)]), .asg 4 (.cmp .ge (.var 3) (.cst (.int 1000000000000000000))), .for_ (.one 5) .range [(.bcall .len [(.var 1)])] [.ife (.and (.tru (.var 4)) (.cmp .ge (.var 3) (.sub (.var 1) (.var 5)))) [.app (.slot 2) (.bin .mod (.bcall .int [(.var 3)]) (.sub (.var 1) (.var 5))), .asg 3 (.bin .fdiv (.var 3) (.sub (.var 1) (.var 5)))] [.asg 6 (.bin .mod (.bcall .int [(.bin .add (.bin .mul (.bcall .abs [(.var 0)]) (.cst (.int 48271))) (.bin .mul (.bin .add (.var 5) (.cst (.int 1))) (.cst (.int 69621))))]) (.cst (.int 2147483647))), .asg 6 (.bin .mod (.bcall .int [(.bin .add (.bin .mul (.var 6) (.cst (.int 16807))) (.bin .mul (.bin .add (.var 5) (.cst (.int 1))) (.cst (.int 40692))))]) (.cst (.int 2147483399))), .app (.slot 2) (.bin .mod (.bcall .int [(.var 6)]) (.sub (.var 1) (.var 5)))]], .frz 2, .ret (.var 2)]
def F_l_draw : Fn := ⟨"_law_draw", none, 1, [false, false], false, [], runDef 7 [false, false] false B_l_draw⟩
def N_l_made_river : List Str := ["cell", "most", "d", "count", "rows", "names", "k", "e", "below", "loss"]
def B_l_made_river : List S := [.asg 2 (.call F_l_draw [(.var 0), (.lst [(.var 1), (.cst (.int 1000)), (.cst (.int 4))])] 0), .asg 3 (.bin .add (.cst (.int 1)) (.sub (.var 2) (.cst (.int 0)))), .asgO 4 (.lst []), .asg 5 (.lst [(.cst (.str (sx [115, 101, 97]))), (.cst (.str (sx [102, 111, 114, 100]))), (.cst (.str (sx [109, 105, 108, 108]))), (.cst (.str (sx [111, 97, 107]))), (.cst (.str (sx [97, 108, 109]))), (.cst (.str (sx [98, 101, 110, 100]))), (.cst (.str (sx [99, 111, 118, 101]))), (.cst (.str (sx [100, 101, 108, 108]))), (.cst (.str (sx [101, 108, 109]))), (.cst (.str (sx [102, 101, 110]))), (.cst (.str (sx [103, 97, 116, 101]))), (.cst (.str (sx [104, 105, 108, 108])))]), .for_ (.one 6) .range [(.var 3)] [.asg 7 (.call F_l_draw [(.bin .add (.bin .add (.bin .fdiv (.var 0) (.cst (.int 3))) (.bin .mul (.cst (.int 31)) (.var 6))) (.sub (.var 2) (.cst (.int 1)))), (.lst [(.bin .add (.var 6) (.cst (.int 2))), (.cst (.int 3)), (.cst (.int 60))])] 0), .asg 8 (.cst .non), .ife (.and (.cmp .gt (.var 6) (.cst (.int 0))) (.cmp .gt (.sub (.var 7) (.cst (.int 0))) (.cst (.int 0)))) [.asg 8 (.bcall .min2 [(.bin .sub (.var 6) (.cst (.int 1))), (.bin .sub (.sub (.var 7) (.cst (.int 0))) (.cst (.int 1)))])] [], .asg 9 (.cst (.int 0)), .ife (.and (.cmp .notN (.var 8) (.cst .non)) (.cmp .gt (.sub (.var 7) (.cst (.int 1))) (.cst (.int 0)))) [.asg 9 (.sub (.var 7) (.cst (.int 2)))] [], .app (.slot 4) (.tup [(.sub (.var 5) (.var 6)), (.var 8), (.var 9)])], .frz 4, .ret (.var 4)]
def F_l_made_river : Fn := ⟨"_law_made_river", none, 2, [false, false], false, [], runDef 10 [false, false] false B_l_made_river⟩
def N_l_cell : List Str := ["script", "k"]
def B_l_cell : List S := [.ife (.cmp .lt (.var 1) (.bcall .len [(.var 0)])) [.ret (.sub (.var 0) (.var 1))] [], .ret (.cst (.int 0))]
def F_l_cell : Fn := ⟨"_law_cell", none, 1, [false, false], false, [], runDef 2 [false, false] false B_l_cell⟩
def N_is_digit : List Str := ["character"]
def B_is_digit : List S := [.ret (.chain .le .le (.cst (.str (sx [48]))) (.var 0) (.cst (.str (sx [57]))))]
def F_is_digit : Fn := ⟨"is_digit", none, 1, [false], false, [], runDef 1 [false] false B_is_digit⟩
def N_is_written : List Str := ["text", "at"]
def B_is_written : List S := [.ife (.cmp .ne (.bcall .len [(.var 0)]) (.cst (.int 10))) [.ret (.cst (.bl false))] [], .for_ (.one 1) .range [(.cst (.int 10))] [.ife (.cmp .isIn (.var 1) (.tup [(.cst (.int 4)), (.cst (.int 7))])) [.ife (.cmp .ne (.sub (.var 0) (.var 1)) (.cst (.str (sx [45])))) [.ret (.cst (.bl false))] []] [.ife (.not (.tru (.call F_is_digit [(.sub (.var 0) (.var 1))] 0))) [.ret (.cst (.bl false))] []]], .ret (.cst (.bl true))]
def F_is_written : Fn := ⟨"is_written", none, 2, [false], false, [], runDef 2 [false] false B_is_written⟩
def N_is_leap : List Str := ["year"]
def B_is_leap : List S := [.ife (.cmp .eq (.bin .mod (.var 0) (.cst (.int 400))) (.cst (.int 0))) [.ret (.cst (.bl true))] [], .ret (.and (.cmp .eq (.bin .mod (.var 0) (.cst (.int 4))) (.cst (.int 0))) (.cmp .ne (.bin .mod (.var 0) (.cst (.int 100))) (.cst (.int 0))))]
def F_is_leap : Fn := ⟨"is_leap", none, 1, [false], false, [], runDef 1 [false] false B_is_leap⟩
def N_month_length : List Str := ["year", "month"]
def B_month_length : List S := [.ife (.cmp .eq (.var 1) (.cst (.int 2))) [.ret (.ite (.tru (.call F_is_leap [(.var 0)] 0)) (.cst (.int 29)) (.cst (.int 28)))] [], .ife (.cmp .isIn (.var 1) (.tup [(.cst (.int 4)), (.cst (.int 6)), (.cst (.int 9)), (.cst (.int 11))])) [.ret (.cst (.int 30))] [], .ret (.cst (.int 31))]
def F_month_length : Fn := ⟨"month_length", none, 2, [false, false], false, [], runDef 2 [false, false] false B_month_length⟩
def N_is_date : List Str := ["text", "year", "month"]
def B_is_date : List S := [.ife (.not (.tru (.call F_is_written [(.var 0)] 0))) [.ret (.cst (.bl false))] [], .asg 1 (.bcall .int [(.slice (.var 0) [] [(.cst (.int 4))])]), .asg 2 (.bcall .int [(.slice (.var 0) [(.cst (.int 5))] [(.cst (.int 7))])]), .ife (.or (.cmp .lt (.var 1) (.glob "FIRST_YEAR" (.int 2000))) (.or (.cmp .gt (.var 1) (.glob "LAST_YEAR" (.int 2199))) (.or (.cmp .lt (.var 2) (.cst (.int 1))) (.cmp .gt (.var 2) (.cst (.int 12)))))) [.ret (.cst (.bl false))] [], .ret (.chain .le .le (.cst (.int 1)) (.bcall .int [(.slice (.var 0) [(.cst (.int 8))] [])]) (.call F_month_length [(.var 1), (.var 2)] 0))]
def F_is_date : Fn := ⟨"is_date", none, 3, [false], false, [], runDef 3 [false] false B_is_date⟩
def N_check_between : List Str := ["value", "least", "most"]
def B_check_between : List S := [.ife (.or (.cmp .lt (.var 0) (.var 1)) (.cmp .gt (.var 0) (.var 2))) [.raise X_OutOfRange [(.var 0)]] []]
def F_check_between : Fn := ⟨"check_between", none, 3, [false, false, false], false, [], runDef 3 [false, false, false] false B_check_between⟩
def N_year_start : List Str := ["year", "years"]
def B_year_start : List S := [.asg 1 (.bin .sub (.var 0) (.glob "FIRST_YEAR" (.int 2000))), .ret (.bin .add (.bin .sub (.bin .add (.bin .mul (.cst (.int 365)) (.var 1)) (.bin .fdiv (.bin .add (.var 1) (.cst (.int 3))) (.cst (.int 4)))) (.bin .fdiv (.bin .add (.var 1) (.cst (.int 99))) (.cst (.int 100)))) (.bin .fdiv (.bin .add (.var 1) (.cst (.int 399))) (.cst (.int 400))))]
def F_year_start : Fn := ⟨"year_start", none, 1, [false], false, [], runDef 2 [false] false B_year_start⟩
def N_day_number : List Str := ["year", "month", "day", "number", "earlier"]
def B_day_number : List S := [.expr (.call F_check_between [(.var 0), (.glob "FIRST_YEAR" (.int 2000)), (.glob "LAST_YEAR" (.int 2199))] 0), .expr (.call F_check_between [(.var 1), (.cst (.int 1)), (.cst (.int 12))] 0), .expr (.call F_check_between [(.var 2), (.cst (.int 1)), (.call F_month_length [(.var 0), (.var 1)] 0)] 0), .asg 3 (.call F_year_start [(.var 0)] 0), .for_ (.one 4) .range [(.cst (.int 1)), (.var 1)] [.aug 3 .add (.call F_month_length [(.var 0), (.var 4)] 0)], .ret (.bin .sub (.bin .add (.var 3) (.var 2)) (.cst (.int 1)))]
def F_day_number : Fn := ⟨"day_number", none, 4, [false, false, false], false, [], runDef 5 [false, false, false] false B_day_number⟩
def N_read_date : List Str := ["text"]
def B_read_date : List S := [.ife (.not (.tru (.call F_is_date [(.var 0)] 0))) [.raise X_BadText [(.cst (.int 1)), (.cst (.int 1)), (.cst (.str (sx [100, 97, 116, 101])))]] [], .ret (.call F_day_number [(.bcall .int [(.slice (.var 0) [] [(.cst (.int 4))])]), (.bcall .int [(.slice (.var 0) [(.cst (.int 5))] [(.cst (.int 7))])]), (.bcall .int [(.slice (.var 0) [(.cst (.int 8))] [])])] 0)]
def F_read_date : Fn := ⟨"read_date", none, 5, [false], false, [], runDef 1 [false] false B_read_date⟩
def N_is_letter : List Str := ["character"]
def B_is_letter : List S := [.ret (.chain .le .le (.cst (.str (sx [97]))) (.var 0) (.cst (.str (sx [122]))))]
def F_is_letter : Fn := ⟨"is_letter", none, 1, [false], false, [], runDef 1 [false] false B_is_letter⟩
def N_is_any_letter : List Str := ["character"]
def B_is_any_letter : List S := [.ret (.or (.call F_is_letter [(.var 0)] 0) (.chain .le .le (.cst (.str (sx [65]))) (.var 0) (.cst (.str (sx [90])))))]
def F_is_any_letter : Fn := ⟨"is_any_letter", none, 2, [false], false, [], runDef 1 [false] false B_is_any_letter⟩
def N_is_run_end : List Str := ["line", "at"]
def B_is_run_end : List S := [.ife (.cmp .ge (.var 1) (.bcall .len [(.var 0)])) [.ret (.cst (.bl true))] [], .ret (.and (.not (.call F_is_any_letter [(.sub (.var 0) (.var 1))] 0)) (.and (.not (.call F_is_digit [(.sub (.var 0) (.var 1))] 0)) (.cmp .ne (.sub (.var 0) (.var 1)) (.cst (.str (sx [45]))))))]
def F_is_run_end : Fn := ⟨"is_run_end", none, 3, [false, false], false, [], runDef 2 [false, false] false B_is_run_end⟩
def N_run_of_digits : List Str := ["line", "start", "end"]
def B_run_of_digits : List S := [.asg 2 (.var 1), .whl (.and (.cmp .lt (.var 2) (.bcall .len [(.var 0)])) (.tru (.call F_is_digit [(.sub (.var 0) (.var 2))] 0))) [.aug 2 .add (.cst (.int 1))], .ret (.var 2)]
def F_run_of_digits : Fn := ⟨"run_of_digits", none, 2, [false, false], false, [], runDef 3 [false, false] false B_run_of_digits⟩
def N_number_of_digits : List Str := ["digits", "value"]
def B_number_of_digits : List S := [.ife (.or (.cmp .gt (.bcall .len [(.var 0)]) (.glob "LONGEST_NUMBER" (.int 10))) (.and (.cmp .gt (.bcall .len [(.var 0)]) (.cst (.int 1))) (.cmp .eq (.sub (.var 0) (.cst (.int 0))) (.cst (.str (sx [48])))))) [.ret (.cst .non)] [], .asg 1 (.bcall .int [(.var 0)]), .ife (.cmp .gt (.var 1) (.glob "MOST_AMOUNT" (.int 1000000000))) [.ret (.cst .non)] [], .ret (.var 1)]
def F_number_of_digits : Fn := ⟨"number_of_digits", none, 1, [false], false, [], runDef 2 [false] false B_number_of_digits⟩
def N_token_of_digits : List Str := ["line", "at", "written", "end", "value"]
def B_token_of_digits : List S := [.asg 2 (.slice (.var 0) [(.var 1)] [(.bin .add (.var 1) (.glob "DATE" (.int 10)))]), .ife (.and (.tru (.call F_is_date [(.var 2)] 0)) (.tru (.call F_is_run_end [(.var 0), (.bin .add (.var 1) (.glob "DATE" (.int 10)))] 0))) [.ret (.tup [(.cst (.str (sx [100, 97, 116, 101]))), (.call F_read_date [(.var 2)] 0), (.bin .add (.var 1) (.glob "DATE" (.int 10)))])] [], .asg 3 (.call F_run_of_digits [(.var 0), (.var 1)] 0), .asg 4 (.call F_number_of_digits [(.slice (.var 0) [(.var 1)] [(.var 3)])] 0), .ife (.or (.cmp .isN (.var 4) (.cst .non)) (.and (.cmp .lt (.var 3) (.bcall .len [(.var 0)])) (.tru (.call F_is_any_letter [(.sub (.var 0) (.var 3))] 0)))) [.ret (.cst .non)] [], .ret (.tup [(.cst (.str (sx [110, 117, 109, 98, 101, 114]))), (.var 4), (.var 3)])]
def F_token_of_digits : Fn := ⟨"token_of_digits", none, 6, [false, false], false, [], runDef 5 [false, false] false B_token_of_digits⟩
def N_run_of_letters : List Str := ["line", "start", "end"]
def B_run_of_letters : List S := [.asg 2 (.var 1), .whl (.and (.cmp .lt (.var 2) (.bcall .len [(.var 0)])) (.or (.tru (.call F_is_letter [(.sub (.var 0) (.var 2))] 0)) (.tru (.call F_is_digit [(.sub (.var 0) (.var 2))] 0)))) [.aug 2 .add (.cst (.int 1))], .ret (.var 2)]
def F_run_of_letters : Fn := ⟨"run_of_letters", none, 2, [false, false], false, [], runDef 3 [false, false] false B_run_of_letters⟩
def N_token_at : List Str := ["line", "at", "character", "end"]
def B_token_at : List S := [.asg 2 (.sub (.var 0) (.var 1)), .ife (.tru (.call F_is_digit [(.var 2)] 0)) [.ret (.call F_token_of_digits [(.var 0), (.var 1)] 0)] [], .ife (.tru (.call F_is_letter [(.var 2)] 0)) [.asg 3 (.call F_run_of_letters [(.var 0), (.var 1)] 0), .ret (.tup [(.cst (.str (sx [119, 111, 114, 100]))), (.slice (.var 0) [(.var 1)] [(.var 3)]), (.var 3)])] [], .ife (.cmp .isIn (.var 2) (.glob "SIGNS" (.str (sx [123, 125, 40, 41, 59, 44, 58, 61])))) [.ret (.tup [(.cst (.str (sx [115, 105, 103, 110]))), (.var 2), (.bin .add (.var 1) (.cst (.int 1)))])] [], .ret (.cst .non)]
def F_token_at : Fn := ⟨"token_at", none, 7, [false, false], false, [], runDef 4 [false, false] false B_token_at⟩
def N_scan_line : List Str := ["line", "number", "found", "at", "token"]
def B_scan_line : List S := [.asg 3 (.cst (.int 0)), .whl (.cmp .lt (.var 3) (.bcall .len [(.var 0)])) [.ife (.cmp .eq (.sub (.var 0) (.var 3)) (.cst (.str (sx [35])))) [.ret (.cst (.int 0))] [], .ife (.cmp .eq (.sub (.var 0) (.var 3)) (.cst (.str (sx [32])))) [.aug 3 .add (.cst (.int 1))] [.asg 4 (.call F_token_at [(.var 0), (.var 3)] 0), .ife (.cmp .isN (.var 4) (.cst .non)) [.ret (.bin .add (.var 3) (.cst (.int 1)))] [], .app (.slot 2) (.tup [(.sub (.var 4) (.cst (.int 0))), (.sub (.var 4) (.cst (.int 1))), (.var 1), (.bin .add (.var 3) (.cst (.int 1)))]), .asg 3 (.sub (.var 4) (.cst (.int 2)))]], .ret (.cst (.int 0))]
def F_scan_line : Fn := ⟨"scan_line", none, 8, [false, false, true], false, [], runDef 5 [false, false, true] false B_scan_line⟩
def N_scan : List Str := ["text", "lines", "found", "number", "line", "column"]
def B_scan : List S := [.asg 1 (.bmeth .split (.var 0) [(.cst (.str (sx [10])))]), .asgO 2 (.lst []), .asg 3 (.cst (.int 0)), .for_ (.one 4) .iter [(.var 1)] [.aug 3 .add (.cst (.int 1)), .callO (some 5) F_scan_line [.inr (.var 4), .inr (.var 3), .inl 2], .ife (.cmp .gt (.var 5) (.cst (.int 0))) [.app (.slot 2) (.tup [(.cst (.str (sx [102, 97, 117, 108, 116]))), (.cst (.str (sx []))), (.var 3), (.var 5)]), .frz 2, .ret (.var 2)] []], .app (.slot 2) (.tup [(.cst (.str (sx [101, 110, 100]))), (.cst (.str (sx []))), (.var 3), (.bin .add (.bcall .len [(.sub (.var 1) (.neg (.cst (.int 1))))]) (.cst (.int 1)))]), .frz 2, .ret (.var 2)]
def F_scan : Fn := ⟨"scan", none, 9, [false], false, [], runDef 6 [false] false B_scan⟩
def N_Reader_init : List Str := ["self", "text"]
def B_Reader_init : List S := [.seta "Reader" (.var 0) "_tokens" (.call F_scan [(.var 1)] 0), .seta "Reader" (.var 0) "_at" (.cst (.int 0))]
def F_Reader_init : Fn := ⟨"__init__", some "Reader", 10, [false, false], false, [], runDef 2 [false, false] false B_Reader_init⟩
def N_Reader_token : List Str := ["self"]
def B_Reader_token : List S := [.ret (.sub (.attr (.var 0) "_tokens") (.attr (.var 0) "_at"))]
def F_Reader_token : Fn := ⟨"token", some "Reader", 1, [false], false, [], runDef 1 [false] false B_Reader_token⟩
def N_Reader_refuse : List Str := ["self", "reason", "token"]
def B_Reader_refuse : List S := [.asg 2 (.meth F_Reader_token (.var 0) [] 0), .ife (.cmp .eq (.sub (.var 2) (.cst (.int 0))) (.cst (.str (sx [102, 97, 117, 108, 116])))) [.asg 1 (.cst (.str (sx [116, 111, 107, 101, 110])))] [], .raise X_BadText [(.sub (.var 2) (.cst (.int 2))), (.sub (.var 2) (.cst (.int 3))), (.var 1)]]
def F_Reader_refuse : Fn := ⟨"refuse", some "Reader", 3, [false, false], false, [], runDef 3 [false, false] false B_Reader_refuse⟩
def N_Reader_sees_word : List Str := ["self", "word", "token"]
def B_Reader_sees_word : List S := [.asg 2 (.meth F_Reader_token (.var 0) [] 0), .ret (.and (.cmp .eq (.sub (.var 2) (.cst (.int 0))) (.cst (.str (sx [119, 111, 114, 100])))) (.cmp .eq (.sub (.var 2) (.cst (.int 1))) (.var 1)))]
def F_Reader_sees_word : Fn := ⟨"sees_word", some "Reader", 2, [false, false], false, [], runDef 3 [false, false] false B_Reader_sees_word⟩
def N_Reader_advance : List Str := ["self", "token"]
def B_Reader_advance : List S := [.asg 1 (.sub (.attr (.var 0) "_tokens") (.attr (.var 0) "_at")), .ife (.cmp .notIn (.sub (.var 1) (.cst (.int 0))) (.tup [(.cst (.str (sx [101, 110, 100]))), (.cst (.str (sx [102, 97, 117, 108, 116])))])) [.augA "Reader" (.var 0) "_at" .add (.cst (.int 1))] [], .ret (.var 1)]
def F_Reader_advance : Fn := ⟨"advance", some "Reader", 1, [false], false, [], runDef 2 [false] false B_Reader_advance⟩
def N_Reader_take_word : List Str := ["self", "word"]
def B_Reader_take_word : List S := [.ife (.not (.tru (.meth F_Reader_sees_word (.var 0) [(.var 1)] 0))) [.expr (.meth F_Reader_refuse (.var 0) [(.cst (.str (sx [115, 121, 110, 116, 97, 120])))] 0)] [], .ret (.meth F_Reader_advance (.var 0) [] 0)]
def F_Reader_take_word : Fn := ⟨"take_word", some "Reader", 4, [false, false], false, [], runDef 2 [false, false] false B_Reader_take_word⟩
def N_is_name : List Str := ["text", "character"]
def B_is_name : List S := [.ife (.or (.cmp .lt (.bcall .len [(.var 0)]) (.cst (.int 1))) (.or (.cmp .gt (.bcall .len [(.var 0)]) (.glob "LONGEST" (.int 12))) (.not (.tru (.call F_is_letter [(.sub (.var 0) (.cst (.int 0)))] 0))))) [.ret (.cst (.bl false))] [], .for_ (.one 1) .iter [(.var 0)] [.ife (.and (.not (.tru (.call F_is_letter [(.var 1)] 0))) (.not (.tru (.call F_is_digit [(.var 1)] 0)))) [.ret (.cst (.bl false))] []], .ret (.cst (.bl true))]
def F_is_name : Fn := ⟨"is_name", none, 2, [false], false, [], runDef 2 [false] false B_is_name⟩
def N_is_free : List Str := ["text"]
def B_is_free : List S := [.ret (.and (.call F_is_name [(.var 0)] 0) (.cmp .notIn (.var 0) (.glob "KEPT" (.tup [(.str (sx [114, 105, 103, 104, 116])), (.str (sx [116, 97, 107, 101, 115])), (.str (sx [107, 101, 101, 112, 115])), (.str (sx [115, 116, 111, 114, 101, 115])), (.str (sx [97, 116])), (.str (sx [114, 101, 116, 117, 114, 110, 115])), (.str (sx [116, 111])), (.str (sx [102, 114, 111, 109])), (.str (sx [119, 105, 116, 104, 105, 110])), (.str (sx [121, 101, 97, 114, 108, 121])), (.str (sx [106, 97, 110])), (.str (sx [102, 101, 98])), (.str (sx [109, 97, 114])), (.str (sx [97, 112, 114])), (.str (sx [109, 97, 121])), (.str (sx [106, 117, 110])), (.str (sx [106, 117, 108])), (.str (sx [97, 117, 103])), (.str (sx [115, 101, 112])), (.str (sx [111, 99, 116])), (.str (sx [110, 111, 118])), (.str (sx [100, 101, 99])), (.str (sx [112, 108, 97, 99, 101])), (.str (sx [108, 111, 115, 115])), (.str (sx [114, 101, 115, 101, 114, 118, 111, 105, 114])), (.str (sx [104, 111, 108, 100, 115])), (.str (sx [108, 111, 115, 101, 115])), (.str (sx [114, 105, 118, 101, 114])), (.str (sx [114, 101, 115, 101, 114, 118, 111, 105, 114, 115])), (.str (sx [114, 105, 103, 104, 116, 115])), (.str (sx [98, 101, 103, 105, 110])), (.str (sx [115, 116, 111, 99, 107])), (.str (sx [105, 110, 102, 108, 111, 119])), (.str (sx [111, 110])), (.str (sx [97, 115, 107])), (.str (sx [111, 114, 100, 101, 114])), (.str (sx [114, 101, 116, 105, 114, 101])), (.str (sx [115, 117, 98, 111, 114, 100, 105, 110, 97, 116, 101])), (.str (sx [117, 110, 100, 111])), (.str (sx [115, 104, 97, 114, 101, 115])), (.str (sx [115, 104, 111, 114, 116])), (.str (sx [115, 117, 109, 115])), (.str (sx [98, 117, 108, 108, 101, 116, 105, 110]))]))))]
def F_is_free : Fn := ⟨"is_free", none, 3, [false], false, [], runDef 1 [false] false B_is_free⟩
def N_Reader_take_new_name_o1 : List Str := ["self", "taken", "token"]
def B_Reader_take_new_name_o1 : List S := [.asg 2 (.meth F_Reader_token (.var 0) [] 0), .ife (.cmp .ne (.sub (.var 2) (.cst (.int 0))) (.cst (.str (sx [119, 111, 114, 100])))) [.expr (.meth F_Reader_refuse (.var 0) [(.cst (.str (sx [115, 121, 110, 116, 97, 120])))] 0)] [], .ife (.not (.tru (.call F_is_free [(.sub (.var 2) (.cst (.int 1)))] 0))) [.expr (.meth F_Reader_refuse (.var 0) [(.cst (.str (sx [110, 97, 109, 101])))] 0)] [], .ife (.cmp .isIn (.sub (.var 2) (.cst (.int 1))) (.var 1)) [.expr (.meth F_Reader_refuse (.var 0) [(.cst (.str (sx [116, 119, 105, 99, 101])))] 0)] [], .ret (.sub (.meth F_Reader_advance (.var 0) [] 0) (.cst (.int 1)))]
def F_Reader_take_new_name_o1 : Fn := ⟨"take_new_name", some "Reader", 4, [false, true], false, [], runDef 3 [false, true] false B_Reader_take_new_name_o1⟩
def N_Reader_take_known_name_o1 : List Str := ["self", "known", "token"]
def B_Reader_take_known_name_o1 : List S := [.asg 2 (.meth F_Reader_token (.var 0) [] 0), .ife (.or (.cmp .ne (.sub (.var 2) (.cst (.int 0))) (.cst (.str (sx [119, 111, 114, 100])))) (.not (.tru (.call F_is_name [(.sub (.var 2) (.cst (.int 1)))] 0)))) [.expr (.meth F_Reader_refuse (.var 0) [(.cst (.str (sx [115, 121, 110, 116, 97, 120])))] 0)] [], .ife (.cmp .notIn (.sub (.var 2) (.cst (.int 1))) (.var 1)) [.expr (.meth F_Reader_refuse (.var 0) [(.cst (.str (sx [117, 110, 107, 110, 111, 119, 110])))] 0)] [], .ret (.sub (.meth F_Reader_advance (.var 0) [] 0) (.cst (.int 1)))]
def F_Reader_take_known_name_o1 : Fn := ⟨"take_known_name", some "Reader", 4, [false, true], false, [], runDef 3 [false, true] false B_Reader_take_known_name_o1⟩
def N_Reader_take_number : List Str := ["self", "least", "most", "token"]
def B_Reader_take_number : List S := [.asg 3 (.meth F_Reader_token (.var 0) [] 0), .ife (.cmp .ne (.sub (.var 3) (.cst (.int 0))) (.cst (.str (sx [110, 117, 109, 98, 101, 114])))) [.expr (.meth F_Reader_refuse (.var 0) [(.cst (.str (sx [115, 121, 110, 116, 97, 120])))] 0)] [], .ife (.or (.cmp .lt (.sub (.var 3) (.cst (.int 1))) (.var 1)) (.cmp .gt (.sub (.var 3) (.cst (.int 1))) (.var 2))) [.expr (.meth F_Reader_refuse (.var 0) [(.cst (.str (sx [114, 97, 110, 103, 101])))] 0)] [], .ret (.sub (.meth F_Reader_advance (.var 0) [] 0) (.cst (.int 1)))]
def F_Reader_take_number : Fn := ⟨"take_number", some "Reader", 4, [false, false, false], false, [], runDef 4 [false, false, false] false B_Reader_take_number⟩
def N_Reader_sees_sign : List Str := ["self", "sign", "token"]
def B_Reader_sees_sign : List S := [.asg 2 (.meth F_Reader_token (.var 0) [] 0), .ret (.and (.cmp .eq (.sub (.var 2) (.cst (.int 0))) (.cst (.str (sx [115, 105, 103, 110])))) (.cmp .eq (.sub (.var 2) (.cst (.int 1))) (.var 1)))]
def F_Reader_sees_sign : Fn := ⟨"sees_sign", some "Reader", 2, [false, false], false, [], runDef 3 [false, false] false B_Reader_sees_sign⟩
def N_Reader_take_sign : List Str := ["self", "sign"]
def B_Reader_take_sign : List S := [.ife (.not (.tru (.meth F_Reader_sees_sign (.var 0) [(.var 1)] 0))) [.expr (.meth F_Reader_refuse (.var 0) [(.cst (.str (sx [115, 121, 110, 116, 97, 120])))] 0)] [], .ret (.meth F_Reader_advance (.var 0) [] 0)]
def F_Reader_take_sign : Fn := ⟨"take_sign", some "Reader", 4, [false, false], false, [], runDef 2 [false, false] false B_Reader_take_sign⟩
def N_parse_place : List Str := ["reader", "below", "losses", "name", "lower", "loss"]
def B_parse_place : List S := [.expr (.meth F_Reader_take_word (.var 0) [(.cst (.str (sx [112, 108, 97, 99, 101])))] 0), .methO (some 3) F_Reader_take_new_name_o1 (.var 0) [.inl 1], .asg 4 (.cst .non), .asg 5 (.cst (.int 0)), .ife (.tru (.meth F_Reader_sees_word (.var 0) [(.cst (.str (sx [116, 111])))] 0)) [.expr (.meth F_Reader_advance (.var 0) [] 0), .methO (some 4) F_Reader_take_known_name_o1 (.var 0) [.inl 1], .ife (.tru (.meth F_Reader_sees_word (.var 0) [(.cst (.str (sx [108, 111, 115, 115])))] 0)) [.expr (.meth F_Reader_advance (.var 0) [] 0), .asg 5 (.meth F_Reader_take_number (.var 0) [(.cst (.int 0)), (.glob "MOST_AMOUNT" (.int 1000000000))] 0)] []] [], .expr (.meth F_Reader_take_sign (.var 0) [(.cst (.str (sx [59])))] 0), .seti (.slot 1) (.var 3) (.var 4), .seti (.slot 2) (.var 3) (.var 5)]
def F_parse_place : Fn := ⟨"parse_place", none, 5, [false, true, true], false, [], runDef 6 [false, true, true] false B_parse_place⟩
def N_ordered : List Str := ["below", "waiting", "place", "left", "order", "one"]
def B_ordered : List S := [.asgO 1 (.dc (.one 2) .keys [(.var 0)] [] (.var 2) (.cst (.int 0)) [("place", 2)]), .for_ (.one 2) .keys [(.var 0)] [.ife (.cmp .notN (.sub (.var 0) (.var 2)) (.cst .non)) [.augi (.slot 1) (.sub (.var 0) (.var 2)) .add (.cst (.int 1))] []], .asgO 3 (.bcall .list [(.var 0)]), .asgO 4 (.lst []), .whl (.cmp .gt (.bcall .len [(.var 3)]) (.cst (.int 0))) [.asg 2 (.sub (.lc (.one 5) .own [(.var 3)] [(.cmp .eq (.sub (.var 1) (.var 5)) (.cst (.int 0)))] (.var 5) [("one", 5)]) (.cst (.int 0))), .app (.slot 4) (.var 2), .rem (.slot 3) (.var 2), .ife (.cmp .notN (.sub (.var 0) (.var 2)) (.cst .non)) [.augi (.slot 1) (.sub (.var 0) (.var 2)) .sub (.cst (.int 1))] []], .frz 4, .ret (.var 4)]
def F_ordered : Fn := ⟨"ordered", none, 1, [false], false, [], runDef 6 [false] false B_ordered⟩
def N_River_init : List Str := ["self", "below", "losses"]
def B_River_init : List S := [.self "River" 0 "_below" (.var 1), .self "River" 0 "_losses" (.var 2), .self "River" 0 "_order" (.call F_ordered [(.var 1)] 0)]
def F_River_init : Fn := ⟨"__init__", some "River", 2, [true, false, false], false, [], runDef 3 [true, false, false] false B_River_init⟩
def N_parse_river : List Str := ["reader", "below", "losses"]
def B_parse_river : List S := [.asgO 1 (.dct []), .asgO 2 (.dct []), .whl (.or (.cmp .eq (.bcall .len [(.var 1)]) (.cst (.int 0))) (.tru (.meth F_Reader_sees_word (.var 0) [(.cst (.str (sx [112, 108, 97, 99, 101])))] 0))) [.ife (.cmp .eq (.bcall .len [(.var 1)]) (.glob "MOST_PLACES" (.int 60))) [.expr (.meth F_Reader_refuse (.var 0) [(.cst (.str (sx [109, 97, 110, 121])))] 0)] [], .callO none F_parse_place [.inr (.var 0), .inl 1, .inl 2]], .frz 1, .frz 2, .ret (.mkF "River" F_River_init [(.var 1), (.var 2)])]
def F_parse_river : Fn := ⟨"parse_river", none, 6, [false], false, [], runDef 3 [false] false B_parse_river⟩
def N_Reader_is_at_end : List Str := ["self"]
def B_Reader_is_at_end : List S := [.ret (.cmp .eq (.sub (.meth F_Reader_token (.var 0) [] 0) (.cst (.int 0))) (.cst (.str (sx [101, 110, 100]))))]
def F_Reader_is_at_end : Fn := ⟨"is_at_end", some "Reader", 2, [false], false, [], runDef 1 [false] false B_Reader_is_at_end⟩
def N_Reader_finish : List Str := ["self"]
def B_Reader_finish : List S := [.ife (.not (.tru (.meth F_Reader_is_at_end (.var 0) [] 0))) [.expr (.meth F_Reader_refuse (.var 0) [(.cst (.str (sx [115, 121, 110, 116, 97, 120])))] 0)] []]
def F_Reader_finish : Fn := ⟨"finish", some "Reader", 4, [false], false, [], runDef 1 [false] false B_Reader_finish⟩
def N_read_river : List Str := ["text", "reader", "river"]
def B_read_river : List S := [.asg 1 (.mk "Reader" F_Reader_init [(.var 0)]), .asg 2 (.call F_parse_river [(.var 1)] 0), .expr (.meth F_Reader_finish (.var 1) [] 0), .ret (.var 2)]
def F_read_river : Fn := ⟨"read_river", none, 12, [false], false, [], runDef 3 [false] false B_read_river⟩
def N_l_river_text : List Str := ["rows", "lines", "row", "line"]
def B_l_river_text : List S := [.asgO 1 (.lst []), .for_ (.one 2) .iter [(.var 0)] [.asg 3 (.bin .add (.cst (.str (sx [112, 108, 97, 99, 101, 32]))) (.sub (.var 2) (.cst (.int 0)))), .ife (.cmp .notN (.sub (.var 2) (.cst (.int 1))) (.cst .non)) [.asg 3 (.bin .add (.bin .add (.var 3) (.cst (.str (sx [32, 116, 111, 32])))) (.sub (.sub (.var 0) (.sub (.var 2) (.cst (.int 1)))) (.cst (.int 0)))), .ife (.cmp .gt (.sub (.var 2) (.cst (.int 2))) (.cst (.int 0))) [.asg 3 (.bin .add (.bin .add (.var 3) (.cst (.str (sx [32, 108, 111, 115, 115, 32])))) (.bcall .str [(.sub (.var 2) (.cst (.int 2)))]))] []] [], .app (.slot 1) (.bin .add (.var 3) (.cst (.str (sx [32, 59]))))], .frz 1, .ret (.bmeth .join (.cst (.str (sx [10]))) [(.var 1)])]
def F_l_river_text : Fn := ⟨"_law_river_text", none, 1, [false], false, [], runDef 4 [false] false B_l_river_text⟩
def N_l_path : List Str := ["rows", "at", "path", "k"]
def B_l_path : List S := [.asgO 2 (.lst []), .for_ (.one 3) .range [(.bcall .len [(.var 0)])] [.ife (.cmp .notN (.var 1) (.cst .non)) [.app (.slot 2) (.var 1), .asg 1 (.sub (.sub (.var 0) (.var 1)) (.cst (.int 1)))] []], .frz 2, .ret (.var 2)]
def F_l_path : Fn := ⟨"_law_path", none, 1, [false, false], false, [], runDef 4 [false, false] false B_l_path⟩
def N_l_right : List Str := ["cell", "rows", "k", "d", "place", "path", "right", "clear", "at"]
def B_l_right : List S := [.asg 3 (.call F_l_draw [(.bin .add (.var 0) (.bin .mul (.cst (.int 41)) (.var 2))), (.lst [(.cst (.int 3)), (.bcall .len [(.var 1)]), (.cst (.int 1000)), (.cst (.int 2)), (.cst (.int 12)), (.cst (.int 12)), (.cst (.int 3)), (.cst (.int 5000)), (.cst (.int 2)), (.cst (.int 3652))])] 0), .asg 4 (.sub (.var 3) (.cst (.int 1))), .asg 5 (.call F_l_path [(.var 1), (.var 4)] 0), .asgO 6 (.dct [(.cst (.str (sx [110, 97, 109, 101]))), (.bin .add (.cst (.str (sx [114]))) (.bcall .str [(.var 2)])), (.cst (.str (sx [115, 111, 114, 116]))), (.sub (.lst [(.cst (.str (sx [116, 97, 107, 101]))), (.cst (.str (sx [107, 101, 101, 112]))), (.cst (.str (sx [115, 116, 111, 114, 101])))]) (.sub (.var 3) (.cst (.int 0)))), (.cst (.str (sx [97, 109, 111, 117, 110, 116]))), (.bin .add (.cst (.int 1)) (.sub (.var 3) (.cst (.int 2)))), (.cst (.str (sx [112, 108, 97, 99, 101]))), (.var 4), (.cst (.str (sx [112, 97, 114, 116]))), (.cst (.int 0)), (.cst (.str (sx [98, 97, 99, 107]))), (.cst .non)]), .seti (.slot 6) (.cst (.str (sx [100, 97, 116, 101]))) (.bin .mul (.bin .fdiv (.sub (.var 3) (.cst (.int 9))) (.cst (.int 40))) (.cst (.int 40))), .seti (.slot 6) (.cst (.str (sx [115, 101, 97, 115, 111, 110]))) (.cst .non), .seti (.slot 6) (.cst (.str (sx [121, 101, 97, 114, 108, 121]))) (.cst .non), .ife (.and (.cmp .eq (.sub (.var 3) (.cst (.int 0))) (.cst (.int 0))) (.cmp .eq (.sub (.var 3) (.cst (.int 3))) (.cst (.int 1)))) [.seti (.slot 6) (.cst (.str (sx [112, 97, 114, 116]))) (.bin .add (.cst (.int 1)) (.sub (.var 3) (.cst (.int 2)))), .asgO 7 (.lst [(.var 4)]), .for_ (.one 8) .iter [(.var 5)] [.ife (.and (.cmp .notN (.sub (.sub (.var 1) (.var 8)) (.cst (.int 1))) (.cst .non)) (.and (.cmp .eq (.sub (.sub (.var 1) (.var 8)) (.cst (.int 2))) (.cst (.int 0))) (.cmp .eq (.sub (.var 7) (.bin .sub (.bcall .len [(.var 7)]) (.cst (.int 1)))) (.var 8)))) [.app (.slot 7) (.sub (.sub (.var 1) (.var 8)) (.cst (.int 1)))] []], .seti (.slot 6) (.cst (.str (sx [98, 97, 99, 107]))) (.sub (.var 7) (.bin .mod (.bcall .int [(.sub (.var 3) (.cst (.int 7)))]) (.bcall .len [(.var 7)])))] [], .ife (.cmp .eq (.sub (.var 3) (.cst (.int 6))) (.cst (.int 1))) [.seti (.slot 6) (.cst (.str (sx [115, 101, 97, 115, 111, 110]))) (.tup [(.bin .add (.cst (.int 1)) (.sub (.var 3) (.cst (.int 4)))), (.bin .add (.cst (.int 1)) (.sub (.var 3) (.cst (.int 5))))])] [], .ife (.and (.cmp .ne (.sub (.var 3) (.cst (.int 0))) (.cst (.int 1))) (.cmp .eq (.sub (.var 3) (.cst (.int 8))) (.cst (.int 1)))) [.seti (.slot 6) (.cst (.str (sx [121, 101, 97, 114, 108, 121]))) (.bin .add (.cst (.int 1)) (.sub (.var 3) (.cst (.int 7))))] [], .frz 6, .ret (.var 6)]
def F_l_right : Fn := ⟨"_law_right", none, 2, [false, false, false], false, [], runDef 9 [false, false, false] false B_l_right⟩
def N_l_rights : List Str := ["cell", "rows", "count", "k"]
def B_l_rights : List S := [.ret (.lc (.one 3) .range [(.var 2)] [] (.call F_l_right [(.var 0), (.var 1), (.var 3)] 0) [("k", 3)])]
def F_l_rights : Fn := ⟨"_law_rights", none, 3, [false, false, false], false, [], runDef 4 [false, false, false] false B_l_rights⟩
def N_l_leap : List Str := ["year"]
def B_l_leap : List S := [.ret (.and (.cmp .eq (.bin .mod (.bcall .int [(.var 0)]) (.cst (.int 4))) (.cst (.int 0))) (.or (.cmp .ne (.bin .mod (.bcall .int [(.var 0)]) (.cst (.int 100))) (.cst (.int 0))) (.cmp .eq (.bin .mod (.bcall .int [(.var 0)]) (.cst (.int 400))) (.cst (.int 0)))))]
def F_l_leap : Fn := ⟨"_law_leap", none, 1, [false], false, [], runDef 1 [false] false B_l_leap⟩
def N_l_length : List Str := ["year", "month"]
def B_l_length : List S := [.ife (.cmp .eq (.var 1) (.cst (.int 2))) [.ret (.bin .add (.cst (.int 28)) (.bcall .int [(.call F_l_leap [(.var 0)] 0)]))] [], .ret (.sub (.lst [(.cst (.int 31)), (.cst (.int 28)), (.cst (.int 31)), (.cst (.int 30)), (.cst (.int 31)), (.cst (.int 30)), (.cst (.int 31)), (.cst (.int 31)), (.cst (.int 30)), (.cst (.int 31)), (.cst (.int 30)), (.cst (.int 31))]) (.bin .sub (.var 1) (.cst (.int 1))))]
def F_l_length : Fn := ⟨"_law_length", none, 2, [false, false], false, [], runDef 2 [false, false] false B_l_length⟩
def N_l_fast : List Str := ["year", "month", "day", "k", "count", "one"]
def B_l_fast : List S := [.asg 3 (.bin .sub (.var 0) (.cst (.int 2000))), .asg 4 (.bin .add (.bin .sub (.bin .add (.bin .mul (.cst (.int 365)) (.var 3)) (.bin .fdiv (.bin .add (.var 3) (.cst (.int 3))) (.cst (.int 4)))) (.bin .fdiv (.bin .add (.var 3) (.cst (.int 99))) (.cst (.int 100)))) (.bin .fdiv (.bin .add (.var 3) (.cst (.int 399))) (.cst (.int 400)))), .for_ (.one 5) .range [(.cst (.int 1)), (.var 1)] [.asg 4 (.bin .add (.var 4) (.call F_l_length [(.var 0), (.var 5)] 0))], .ret (.bin .sub (.bin .add (.var 4) (.var 2)) (.cst (.int 1)))]
def F_l_fast : Fn := ⟨"_law_fast", none, 3, [false, false, false], false, [], runDef 6 [false, false, false] false B_l_fast⟩
def N_l_date : List Str := ["day", "year", "k", "rest", "month"]
def B_l_date : List S := [.asg 1 (.bin .add (.cst (.int 2000)) (.bin .fdiv (.var 0) (.cst (.int 366)))), .for_ (.one 2) .range [(.cst (.int 2))] [.ife (.cmp .le (.call F_l_fast [(.bin .add (.var 1) (.cst (.int 1))), (.cst (.int 1)), (.cst (.int 1))] 0) (.var 0)) [.asg 1 (.bin .add (.var 1) (.cst (.int 1)))] []], .asg 3 (.bin .sub (.var 0) (.call F_l_fast [(.var 1), (.cst (.int 1)), (.cst (.int 1))] 0)), .asg 4 (.cst (.int 1)), .for_ (.one 2) .range [(.cst (.int 11))] [.ife (.cmp .ge (.var 3) (.call F_l_length [(.var 1), (.var 4)] 0)) [.asg 3 (.bin .sub (.var 3) (.call F_l_length [(.var 1), (.var 4)] 0)), .asg 4 (.bin .add (.var 4) (.cst (.int 1)))] [.brk]], .ret (.tup [(.var 1), (.var 4), (.bin .add (.var 3) (.cst (.int 1)))])]
def F_l_date : Fn := ⟨"_law_date", none, 4, [false], false, [], runDef 5 [false] false B_l_date⟩
def N_l_right_text : List Str := ["right", "rows", "months", "word", "text", "date"]
def B_l_right_text : List S := [.asg 2 (.lst [(.cst (.str (sx [106, 97, 110]))), (.cst (.str (sx [102, 101, 98]))), (.cst (.str (sx [109, 97, 114]))), (.cst (.str (sx [97, 112, 114]))), (.cst (.str (sx [109, 97, 121]))), (.cst (.str (sx [106, 117, 110]))), (.cst (.str (sx [106, 117, 108]))), (.cst (.str (sx [97, 117, 103]))), (.cst (.str (sx [115, 101, 112]))), (.cst (.str (sx [111, 99, 116]))), (.cst (.str (sx [110, 111, 118]))), (.cst (.str (sx [100, 101, 99])))]), .asg 3 (.sub (.dct [(.cst (.str (sx [116, 97, 107, 101]))), (.cst (.str (sx [32, 116, 97, 107, 101, 115, 32]))), (.cst (.str (sx [107, 101, 101, 112]))), (.cst (.str (sx [32, 107, 101, 101, 112, 115, 32]))), (.cst (.str (sx [115, 116, 111, 114, 101]))), (.cst (.str (sx [32, 115, 116, 111, 114, 101, 115, 32])))]) (.sub (.var 0) (.cst (.str (sx [115, 111, 114, 116]))))), .asg 4 (.bin .add (.bin .add (.bin .add (.bin .add (.bin .add (.cst (.str (sx [114, 105, 103, 104, 116, 32]))) (.sub (.var 0) (.cst (.str (sx [110, 97, 109, 101]))))) (.var 3)) (.bcall .str [(.sub (.var 0) (.cst (.str (sx [97, 109, 111, 117, 110, 116]))))])) (.cst (.str (sx [32, 97, 116, 32])))) (.sub (.sub (.var 1) (.sub (.var 0) (.cst (.str (sx [112, 108, 97, 99, 101]))))) (.cst (.int 0)))), .ife (.cmp .notN (.sub (.var 0) (.cst (.str (sx [98, 97, 99, 107])))) (.cst .non)) [.asg 4 (.bin .add (.bin .add (.bin .add (.bin .add (.var 4) (.cst (.str (sx [32, 114, 101, 116, 117, 114, 110, 115, 32])))) (.bcall .str [(.sub (.var 0) (.cst (.str (sx [112, 97, 114, 116]))))])) (.cst (.str (sx [32, 116, 111, 32])))) (.sub (.sub (.var 1) (.sub (.var 0) (.cst (.str (sx [98, 97, 99, 107]))))) (.cst (.int 0))))] [], .asg 5 (.call F_l_date [(.sub (.var 0) (.cst (.str (sx [100, 97, 116, 101]))))] 0), .asg 4 (.bin .add (.bin .add (.bin .add (.bin .add (.bin .add (.bin .add (.var 4) (.cst (.str (sx [32, 102, 114, 111, 109, 32])))) (.bcall .str [(.sub (.var 5) (.cst (.int 0)))])) (.cst (.str (sx [45])))) (.slice (.bcall .str [(.bin .add (.cst (.int 100)) (.sub (.var 5) (.cst (.int 1))))]) [(.cst (.int 1))] [])) (.cst (.str (sx [45])))) (.slice (.bcall .str [(.bin .add (.cst (.int 100)) (.sub (.var 5) (.cst (.int 2))))]) [(.cst (.int 1))] [])), .ife (.cmp .notN (.sub (.var 0) (.cst (.str (sx [115, 101, 97, 115, 111, 110])))) (.cst .non)) [.asg 4 (.bin .add (.bin .add (.bin .add (.bin .add (.var 4) (.cst (.str (sx [32, 119, 105, 116, 104, 105, 110, 32])))) (.sub (.var 2) (.bin .sub (.sub (.sub (.var 0) (.cst (.str (sx [115, 101, 97, 115, 111, 110])))) (.cst (.int 0))) (.cst (.int 1))))) (.cst (.str (sx [32, 116, 111, 32])))) (.sub (.var 2) (.bin .sub (.sub (.sub (.var 0) (.cst (.str (sx [115, 101, 97, 115, 111, 110])))) (.cst (.int 1))) (.cst (.int 1)))))] [], .ife (.cmp .notN (.sub (.var 0) (.cst (.str (sx [121, 101, 97, 114, 108, 121])))) (.cst .non)) [.asg 4 (.bin .add (.bin .add (.var 4) (.cst (.str (sx [32, 121, 101, 97, 114, 108, 121, 32])))) (.bcall .str [(.sub (.var 0) (.cst (.str (sx [121, 101, 97, 114, 108, 121]))))]))] [], .ret (.bin .add (.var 4) (.cst (.str (sx [32, 59]))))]
def F_l_right_text : Fn := ⟨"_law_right_text", none, 5, [false, false], false, [], runDef 6 [false, false] false B_l_right_text⟩
def N_Reader_take_one_of : List Str := ["self", "words", "token"]
def B_Reader_take_one_of : List S := [.asg 2 (.meth F_Reader_token (.var 0) [] 0), .ife (.or (.cmp .ne (.sub (.var 2) (.cst (.int 0))) (.cst (.str (sx [119, 111, 114, 100])))) (.cmp .notIn (.sub (.var 2) (.cst (.int 1))) (.var 1))) [.expr (.meth F_Reader_refuse (.var 0) [(.cst (.str (sx [115, 121, 110, 116, 97, 120])))] 0)] [], .ret (.sub (.meth F_Reader_advance (.var 0) [] 0) (.cst (.int 1)))]
def F_Reader_take_one_of : Fn := ⟨"take_one_of", some "Reader", 4, [false, false], false, [], runDef 3 [false, false] false B_Reader_take_one_of⟩
def N_River_places : List Str := ["self"]
def B_River_places : List S := [.ret (.bcall .list [(.attr (.var 0) "_below")])]
def F_River_places : Fn := ⟨"places", some "River", 1, [false], false, [], runDef 1 [false] false B_River_places⟩
def N_Reader_take_known_name : List Str := ["self", "known", "token"]
def B_Reader_take_known_name : List S := [.asg 2 (.meth F_Reader_token (.var 0) [] 0), .ife (.or (.cmp .ne (.sub (.var 2) (.cst (.int 0))) (.cst (.str (sx [119, 111, 114, 100])))) (.not (.tru (.call F_is_name [(.sub (.var 2) (.cst (.int 1)))] 0)))) [.expr (.meth F_Reader_refuse (.var 0) [(.cst (.str (sx [115, 121, 110, 116, 97, 120])))] 0)] [], .ife (.cmp .notIn (.sub (.var 2) (.cst (.int 1))) (.var 1)) [.expr (.meth F_Reader_refuse (.var 0) [(.cst (.str (sx [117, 110, 107, 110, 111, 119, 110])))] 0)] [], .ret (.sub (.meth F_Reader_advance (.var 0) [] 0) (.cst (.int 1)))]
def F_Reader_take_known_name : Fn := ⟨"take_known_name", some "Reader", 4, [false, false], false, [], runDef 3 [false, false] false B_Reader_take_known_name⟩
def N_River_check : List Str := ["self", "name"]
def B_River_check : List S := [.ife (.cmp .notIn (.var 1) (.attr (.var 0) "_below")) [.raise X_UnknownName [(.var 1)]] []]
def F_River_check : Fn := ⟨"_check", some "River", 3, [false, false], false, [], runDef 2 [false, false] false B_River_check⟩
def N_River_path : List Str := ["self", "name", "found"]
def B_River_path : List S := [.expr (.meth F_River_check (.var 0) [(.var 1)] 0), .asgO 2 (.lst [(.var 1)]), .whl (.cmp .notN (.sub (.attr (.var 0) "_below") (.sub (.var 2) (.neg (.cst (.int 1))))) (.cst .non)) [.app (.slot 2) (.sub (.attr (.var 0) "_below") (.sub (.var 2) (.neg (.cst (.int 1)))))], .frz 2, .ret (.var 2)]
def F_River_path : Fn := ⟨"path", some "River", 4, [false, false], false, [], runDef 3 [false, false] false B_River_path⟩
def N_River_is_near : List Str := ["self", "name", "other", "place"]
def B_River_is_near : List S := [.expr (.meth F_River_check (.var 0) [(.var 1)] 0), .for_ (.one 3) .iter [(.meth F_River_path (.var 0) [(.var 2)] 0)] [.ife (.cmp .eq (.var 3) (.var 1)) [.ret (.cst (.bl true))] [], .ife (.cmp .gt (.sub (.attr (.var 0) "_losses") (.var 3)) (.cst (.int 0))) [.ret (.cst (.bl false))] []], .ret (.cst (.bl false))]
def F_River_is_near : Fn := ⟨"is_near", some "River", 5, [false, false, false], false, [], runDef 4 [false, false, false] false B_River_is_near⟩
def N_parse_return : List Str := ["reader", "river", "place", "part", "near", "other"]
def B_parse_return : List S := [.asg 3 (.meth F_Reader_take_number (.var 0) [(.cst (.int 1)), (.glob "THOUSAND" (.int 1000))] 0), .expr (.meth F_Reader_take_word (.var 0) [(.cst (.str (sx [116, 111])))] 0), .asg 4 (.lc (.one 5) .iter [(.meth F_River_path (.var 1) [(.var 2)] 0)] [(.tru (.meth F_River_is_near (.var 1) [(.var 5), (.var 2)] 0))] (.var 5) [("other", 5)]), .ret (.tup [(.var 3), (.meth F_Reader_take_known_name (.var 0) [(.var 4)] 0)])]
def F_parse_return : Fn := ⟨"parse_return", none, 6, [false, false, false], false, [], runDef 6 [false, false, false] false B_parse_return⟩
def N_Reader_take_date : List Str := ["self"]
def B_Reader_take_date : List S := [.ife (.cmp .ne (.sub (.meth F_Reader_token (.var 0) [] 0) (.cst (.int 0))) (.cst (.str (sx [100, 97, 116, 101])))) [.expr (.meth F_Reader_refuse (.var 0) [(.cst (.str (sx [115, 121, 110, 116, 97, 120])))] 0)] [], .ret (.sub (.meth F_Reader_advance (.var 0) [] 0) (.cst (.int 1)))]
def F_Reader_take_date : Fn := ⟨"take_date", some "Reader", 4, [false], false, [], runDef 1 [false] false B_Reader_take_date⟩
def N_parse_season : List Str := ["reader", "first"]
def B_parse_season : List S := [.asg 1 (.bin .add (.bmeth .indexT (.glob "MONTHS" (.tup [(.str (sx [106, 97, 110])), (.str (sx [102, 101, 98])), (.str (sx [109, 97, 114])), (.str (sx [97, 112, 114])), (.str (sx [109, 97, 121])), (.str (sx [106, 117, 110])), (.str (sx [106, 117, 108])), (.str (sx [97, 117, 103])), (.str (sx [115, 101, 112])), (.str (sx [111, 99, 116])), (.str (sx [110, 111, 118])), (.str (sx [100, 101, 99]))])) [(.meth F_Reader_take_one_of (.var 0) [(.glob "MONTHS" (.tup [(.str (sx [106, 97, 110])), (.str (sx [102, 101, 98])), (.str (sx [109, 97, 114])), (.str (sx [97, 112, 114])), (.str (sx [109, 97, 121])), (.str (sx [106, 117, 110])), (.str (sx [106, 117, 108])), (.str (sx [97, 117, 103])), (.str (sx [115, 101, 112])), (.str (sx [111, 99, 116])), (.str (sx [110, 111, 118])), (.str (sx [100, 101, 99]))]))] 0)]) (.cst (.int 1))), .expr (.meth F_Reader_take_word (.var 0) [(.cst (.str (sx [116, 111])))] 0), .ret (.tup [(.var 1), (.bin .add (.bmeth .indexT (.glob "MONTHS" (.tup [(.str (sx [106, 97, 110])), (.str (sx [102, 101, 98])), (.str (sx [109, 97, 114])), (.str (sx [97, 112, 114])), (.str (sx [109, 97, 121])), (.str (sx [106, 117, 110])), (.str (sx [106, 117, 108])), (.str (sx [97, 117, 103])), (.str (sx [115, 101, 112])), (.str (sx [111, 99, 116])), (.str (sx [110, 111, 118])), (.str (sx [100, 101, 99]))])) [(.meth F_Reader_take_one_of (.var 0) [(.glob "MONTHS" (.tup [(.str (sx [106, 97, 110])), (.str (sx [102, 101, 98])), (.str (sx [109, 97, 114])), (.str (sx [97, 112, 114])), (.str (sx [109, 97, 121])), (.str (sx [106, 117, 110])), (.str (sx [106, 117, 108])), (.str (sx [97, 117, 103])), (.str (sx [115, 101, 112])), (.str (sx [111, 99, 116])), (.str (sx [110, 111, 118])), (.str (sx [100, 101, 99]))]))] 0)]) (.cst (.int 1)))])]
def F_parse_season : Fn := ⟨"parse_season", none, 5, [false], false, [], runDef 2 [false] false B_parse_season⟩
def N_Right_init : List Str := ["self", "name", "kind", "amount", "place", "part", "back", "date", "season", "yearly"]
def B_Right_init : List S := [.self "Right" 0 "name" (.var 1), .self "Right" 0 "kind" (.var 2), .self "Right" 0 "amount" (.var 3), .self "Right" 0 "place" (.var 4), .self "Right" 0 "part" (.var 5), .self "Right" 0 "back" (.var 6), .self "Right" 0 "date" (.var 7), .self "Right" 0 "season" (.var 8), .self "Right" 0 "yearly" (.var 9)]
def F_Right_init : Fn := ⟨"__init__", some "Right", 1, [true, false, false, false, false, false, false, false, false, false], false, [], runDef 10 [true, false, false, false, false, false, false, false, false, false] false B_Right_init⟩
def N_parse_right_o3 : List Str := ["reader", "river", "reservoirs", "taken", "name", "kind", "amount", "places", "place", "part", "back", "date", "season", "yearly"]
def B_parse_right_o3 : List S := [.expr (.meth F_Reader_take_word (.var 0) [(.cst (.str (sx [114, 105, 103, 104, 116])))] 0), .methO (some 4) F_Reader_take_new_name_o1 (.var 0) [.inl 3], .asg 5 (.bmeth (.subG "KINDS") (.cst (.dct (D_KINDS.map dcW))) [(.meth F_Reader_take_one_of (.var 0) [(.bmeth (.tupG "KINDS") (.cst (.dct (D_KINDS.map dcW))) [])] 0)]), .asg 6 (.meth F_Reader_take_number (.var 0) [(.cst (.int 1)), (.glob "MOST_AMOUNT" (.int 1000000000))] 0), .expr (.meth F_Reader_take_word (.var 0) [(.cst (.str (sx [97, 116])))] 0), .asg 7 (.ite (.cmp .eq (.var 5) (.cst (.str (sx [115, 116, 111, 114, 101])))) (.var 2) (.meth F_River_places (.var 1) [] 0)), .asg 8 (.meth F_Reader_take_known_name (.var 0) [(.var 7)] 0), .asg 9 (.cst (.int 0)), .asg 10 (.cst .non), .ife (.and (.cmp .eq (.var 5) (.cst (.str (sx [116, 97, 107, 101])))) (.tru (.meth F_Reader_sees_word (.var 0) [(.cst (.str (sx [114, 101, 116, 117, 114, 110, 115])))] 0))) [.expr (.meth F_Reader_advance (.var 0) [] 0), .asgT [9, 10] (.call F_parse_return [(.var 0), (.var 1), (.var 8)] 0)] [], .expr (.meth F_Reader_take_word (.var 0) [(.cst (.str (sx [102, 114, 111, 109])))] 0), .asg 11 (.meth F_Reader_take_date (.var 0) [] 0), .asg 12 (.cst .non), .ife (.tru (.meth F_Reader_sees_word (.var 0) [(.cst (.str (sx [119, 105, 116, 104, 105, 110])))] 0)) [.expr (.meth F_Reader_advance (.var 0) [] 0), .asg 12 (.call F_parse_season [(.var 0)] 0)] [], .asg 13 (.cst .non), .ife (.and (.cmp .ne (.var 5) (.cst (.str (sx [107, 101, 101, 112])))) (.tru (.meth F_Reader_sees_word (.var 0) [(.cst (.str (sx [121, 101, 97, 114, 108, 121])))] 0))) [.expr (.meth F_Reader_advance (.var 0) [] 0), .asg 13 (.meth F_Reader_take_number (.var 0) [(.cst (.int 1)), (.glob "MOST_AMOUNT" (.int 1000000000))] 0)] [], .expr (.meth F_Reader_take_sign (.var 0) [(.cst (.str (sx [59])))] 0), .ret (.mkF "Right" F_Right_init [(.var 4), (.var 5), (.var 6), (.var 8), (.var 9), (.var 10), (.var 11), (.var 12), (.var 13)])]
def F_parse_right_o3 : Fn := ⟨"parse_right", none, 7, [false, false, false, true], false, [], runDef 14 [false, false, false, true] false B_parse_right_o3⟩
def N_parse_rights : List Str := ["reader", "river", "reservoirs", "rights", "names", "right"]
def B_parse_rights : List S := [.asgO 3 (.lst []), .asgO 4 (.lst []), .whl (.tru (.meth F_Reader_sees_word (.var 0) [(.cst (.str (sx [114, 105, 103, 104, 116])))] 0)) [.ife (.cmp .eq (.bcall .len [(.var 3)]) (.glob "MOST_RIGHTS" (.int 120))) [.expr (.meth F_Reader_refuse (.var 0) [(.cst (.str (sx [109, 97, 110, 121])))] 0)] [], .callO (some 5) F_parse_right_o3 [.inr (.var 0), .inr (.var 1), .inr (.var 2), .inl 4], .app (.slot 3) (.var 5), .app (.slot 4) (.attr (.var 5) "name")], .frz 3, .ret (.var 3)]
def F_parse_rights : Fn := ⟨"parse_rights", none, 8, [false, false, false], false, [], runDef 6 [false, false, false] false B_parse_rights⟩
def N_read_rights : List Str := ["river", "text", "reservoirs", "reader", "rights"]
def B_read_rights : List S := [.asg 3 (.mk "Reader" F_Reader_init [(.var 1)]), .asg 4 (.call F_parse_rights [(.var 3), (.var 0), (.var 2)] 0), .expr (.meth F_Reader_finish (.var 3) [] 0), .ret (.var 4)]
def F_read_rights : Fn := ⟨"read_rights", none, 12, [false, false, false], false, [(.tup [])], runDef 5 [false, false, false] false B_read_rights⟩
def N_l_all_rights : List Str := ["river", "rows", "rights", "text", "right", "row"]
def B_l_all_rights : List S := [.asg 3 (.bmeth .join (.cst (.str (sx [10]))) [(.lc (.one 4) .iter [(.var 2)] [] (.call F_l_right_text [(.var 4), (.var 1)] 0) [("right", 4)])]), .ret (.call F_read_rights [(.var 0), (.var 3), (.bcall .tuple [(.lc (.one 5) .iter [(.var 1)] [] (.sub (.var 5) (.cst (.int 0))) [("row", 5)])])] 0)]
def F_l_all_rights : Fn := ⟨"_law_all_rights", none, 13, [false, false, false], false, [], runDef 6 [false, false, false] false B_l_all_rights⟩
def N_l_water : List Str := ["cell", "rows", "d", "limit", "sums", "inflows", "released", "k", "row"]
def B_l_water : List S := [.asg 2 (.call F_l_draw [(.var 0), (.lst [(.cst (.int 3)), (.cst (.int 1000000001))])] 0), .asg 3 (.sub (.lst [(.cst (.int 60)), (.cst (.int 3000)), (.cst (.int 1000000001))]) (.sub (.var 2) (.cst (.int 0)))), .asg 4 (.call F_l_draw [(.bin .add (.var 0) (.cst (.int 7))), (.lc (.one 8) .iter [(.var 1)] [] (.var 3) [("row", 8)])] 0), .asgO 5 (.dct []), .asgO 6 (.dct []), .for_ (.one 7) .range [(.bcall .len [(.var 1)])] [.ife (.cmp .gt (.bin .mod (.bcall .int [(.sub (.var 4) (.var 7))]) (.cst (.int 4))) (.cst (.int 0))) [.seti (.slot 5) (.sub (.sub (.var 1) (.var 7)) (.cst (.int 0))) (.sub (.var 4) (.var 7))] [], .ife (.cmp .eq (.bin .mod (.bcall .int [(.sub (.var 4) (.var 7))]) (.cst (.int 7))) (.cst (.int 1))) [.seti (.slot 6) (.sub (.sub (.var 1) (.var 7)) (.cst (.int 0))) (.bin .fdiv (.sub (.var 4) (.var 7)) (.cst (.int 3)))] []], .frz 5, .frz 6, .ret (.tup [(.var 5), (.var 6)])]
def F_l_water : Fn := ⟨"_law_water", none, 2, [false, false], false, [], runDef 9 [false, false] false B_l_water⟩
def N_l_flows : List Str := ["rows", "inflows", "rights", "amounts", "released", "arrives", "flow", "leaves", "back", "used", "k", "j", "at", "row"]
def B_l_flows : List S := [.asgO 5 (.lc (.one 13) .iter [(.var 0)] [] (.bin .add (.bmeth .get2 (.var 1) [(.sub (.var 13) (.cst (.int 0))), (.cst (.int 0))]) (.bmeth .get2 (.var 4) [(.sub (.var 13) (.cst (.int 0))), (.cst (.int 0))])) [("row", 13)]), .asgO 6 (.lc (.one 13) .iter [(.var 0)] [] (.cst (.int 0)) [("row", 13)]), .asgO 7 (.lc (.one 13) .iter [(.var 0)] [] (.cst (.int 0)) [("row", 13)]), .asgO 8 (.lc (.one 13) .iter [(.var 0)] [] (.cst (.int 0)) [("row", 13)]), .asgO 9 (.lc (.one 13) .iter [(.var 0)] [] (.cst (.int 0)) [("row", 13)]), .for_ (.one 10) .range [(.bcall .len [(.var 2)])] [.ife (.cmp .ne (.sub (.sub (.var 2) (.var 10)) (.cst (.str (sx [115, 111, 114, 116])))) (.cst (.str (sx [107, 101, 101, 112])))) [.seti (.slot 9) (.sub (.sub (.var 2) (.var 10)) (.cst (.str (sx [112, 108, 97, 99, 101])))) (.bin .add (.sub (.var 9) (.sub (.sub (.var 2) (.var 10)) (.cst (.str (sx [112, 108, 97, 99, 101]))))) (.sub (.var 3) (.var 10)))] [], .ife (.cmp .notN (.sub (.sub (.var 2) (.var 10)) (.cst (.str (sx [98, 97, 99, 107])))) (.cst .non)) [.seti (.slot 8) (.sub (.sub (.var 2) (.var 10)) (.cst (.str (sx [98, 97, 99, 107])))) (.bin .add (.sub (.var 8) (.sub (.sub (.var 2) (.var 10)) (.cst (.str (sx [98, 97, 99, 107]))))) (.bin .fdiv (.bin .mul (.sub (.var 3) (.var 10)) (.sub (.sub (.var 2) (.var 10)) (.cst (.str (sx [112, 97, 114, 116]))))) (.cst (.int 1000))))] []], .for_ (.one 11) .range [(.bcall .len [(.var 0)])] [.asg 12 (.bin .sub (.bin .sub (.bcall .len [(.var 0)]) (.cst (.int 1))) (.var 11)), .seti (.slot 6) (.var 12) (.bin .sub (.sub (.var 5) (.var 12)) (.sub (.var 9) (.var 12))), .seti (.slot 7) (.var 12) (.bin .add (.sub (.var 6) (.var 12)) (.sub (.var 8) (.var 12))), .ife (.cmp .notN (.sub (.sub (.var 0) (.var 12)) (.cst (.int 1))) (.cst .non)) [.seti (.slot 5) (.sub (.sub (.var 0) (.var 12)) (.cst (.int 1))) (.bin .add (.sub (.var 5) (.sub (.sub (.var 0) (.var 12)) (.cst (.int 1)))) (.bcall .max2 [(.cst (.int 0)), (.bin .sub (.sub (.var 7) (.var 12)) (.sub (.sub (.var 0) (.var 12)) (.cst (.int 2))))]))] []], .ret (.lc (.one 10) .range [(.bcall .len [(.var 0)])] [] (.tup [(.sub (.var 5) (.var 10)), (.sub (.var 6) (.var 10)), (.sub (.var 7) (.var 10))]) [("k", 10)])]
def F_l_flows : Fn := ⟨"_law_flows", none, 1, [false, false, false, false, false], false, [], runDef 14 [false, false, false, false, false] false B_l_flows⟩
def N_River_has_place : List Str := ["self", "name"]
def B_River_has_place : List S := [.ret (.cmp .isIn (.var 1) (.attr (.var 0) "_below"))]
def F_River_has_place : Fn := ⟨"has_place", some "River", 1, [false, false], false, [], runDef 2 [false, false] false B_River_has_place⟩
def N_check_places : List Str := ["river", "amounts", "place"]
def B_check_places : List S := [.for_ (.one 2) .iter [(.bcall .sorted [(.bcall .list [(.var 1)])])] [.ife (.not (.tru (.meth F_River_has_place (.var 0) [(.var 2)] 0))) [.raise X_UnknownName [(.var 2)]] []]]
def F_check_places : Fn := ⟨"check_places", none, 3, [false, false], false, [], runDef 3 [false, false] false B_check_places⟩
def N_check_amount : List Str := ["amount"]
def B_check_amount : List S := [.expr (.call F_check_between [(.var 0), (.cst (.int 0)), (.glob "MOST_AMOUNT" (.int 1000000000))] 0)]
def F_check_amount : Fn := ⟨"check_amount", none, 4, [false], false, [], runDef 1 [false] false B_check_amount⟩
def N_check_amounts : List Str := ["amounts", "key"]
def B_check_amounts : List S := [.for_ (.one 1) .iter [(.bcall .sorted [(.bcall .list [(.var 0)])])] [.expr (.call F_check_amount [(.sub (.var 0) (.var 1))] 0)]]
def F_check_amounts : Fn := ⟨"check_amounts", none, 5, [false], false, [], runDef 2 [false] false B_check_amounts⟩
def N_check_situation : List Str := ["river", "inflows", "rights", "amounts", "released", "amount"]
def B_check_situation : List S := [.expr (.call F_check_places [(.var 0), (.var 1)] 0), .expr (.call F_check_places [(.var 0), (.var 4)] 0), .expr (.call F_check_amounts [(.var 1)] 0), .expr (.call F_check_amounts [(.var 4)] 0), .ife (.cmp .ne (.bcall .len [(.var 3)]) (.bcall .len [(.var 2)])) [.raise X_OutOfRange [(.bcall .len [(.var 3)])]] [], .for_ (.one 5) .iter [(.var 3)] [.ife (.cmp .lt (.var 5) (.cst (.int 0))) [.raise X_OutOfRange [(.var 5)]] []]]
def F_check_situation : Fn := ⟨"check_situation", none, 6, [false, false, false, false, false], false, [], runDef 6 [false, false, false, false, false] false B_check_situation⟩
def N_Stream_rows : List Str := ["self", "place"]
def B_Stream_rows : List S := [.ret (.dc (.one 1) .iter [(.meth F_River_places (.attr (.var 0) "river") [] 0)] [] (.var 1) (.tup [(.sub (.attr (.var 0) "arrives") (.var 1)), (.sub (.attr (.var 0) "flow") (.var 1)), (.sub (.attr (.var 0) "leaves") (.var 1))]) [("place", 1)])]
def F_Stream_rows : Fn := ⟨"rows", some "Stream", 2, [false], false, [], runDef 2 [false] false B_Stream_rows⟩
def N_River_order : List Str := ["self"]
def B_River_order : List S := [.ret (.bcall .list [(.attr (.var 0) "_order")])]
def F_River_order : Fn := ⟨"order", some "River", 1, [false], false, [], runDef 1 [false] false B_River_order⟩
def N_Stream_init : List Str := ["self", "river", "inflows", "released", "place"]
def B_Stream_init : List S := [.seta "Stream" (.var 0) "river" (.var 1), .seta "Stream" (.var 0) "order" (.meth F_River_order (.var 1) [] 0), .seta "Stream" (.var 0) "coming" (.dc (.one 4) .iter [(.attr (.var 0) "order")] [] (.var 4) (.bin .add (.bmeth .get2 (.var 2) [(.var 4), (.cst (.int 0))]) (.bmeth .get2 (.var 3) [(.var 4), (.cst (.int 0))])) [("place", 4)]), .setaO "Stream" (.var 0) "taken" (.dc (.one 4) .iter [(.attr (.var 0) "order")] [] (.var 4) (.cst (.int 0)) [("place", 4)]), .setaO "Stream" (.var 0) "returned" (.dc (.one 4) .iter [(.attr (.var 0) "order")] [] (.var 4) (.cst (.int 0)) [("place", 4)]), .setaO "Stream" (.var 0) "must" (.dc (.one 4) .iter [(.attr (.var 0) "order")] [] (.var 4) (.cst (.int 0)) [("place", 4)]), .setaO "Stream" (.var 0) "arrives" (.dct []), .setaO "Stream" (.var 0) "flow" (.dct []), .setaO "Stream" (.var 0) "leaves" (.dct [])]
def F_Stream_init : Fn := ⟨"__init__", some "Stream", 2, [false, false, false, false], false, [], runDef 5 [false, false, false, false] false B_Stream_init⟩
def N_Right_gives_back : List Str := ["self", "amount"]
def B_Right_gives_back : List S := [.ife (.cmp .isN (.attr (.var 0) "back") (.cst .non)) [.ret (.cst (.int 0))] [], .ret (.bin .fdiv (.bin .mul (.var 1) (.attr (.var 0) "part")) (.glob "THOUSAND" (.int 1000)))]
def F_Right_gives_back : Fn := ⟨"gives_back", some "Right", 1, [false, false], false, [], runDef 2 [false, false] false B_Right_gives_back⟩
def N_Stream_give : List Str := ["self", "right", "amount"]
def B_Stream_give : List S := [.ife (.cmp .eq (.attr (.var 1) "kind") (.cst (.str (sx [107, 101, 101, 112])))) [.seti (.fld (.var 0) "must") (.attr (.var 1) "place") (.bcall .max2 [(.sub (.attr (.var 0) "must") (.attr (.var 1) "place")), (.var 2)])] [.augi (.fld (.var 0) "taken") (.attr (.var 1) "place") .add (.var 2), .ife (.cmp .notN (.attr (.var 1) "back") (.cst .non)) [.augi (.fld (.var 0) "returned") (.attr (.var 1) "back") .add (.pmeth F_Right_gives_back (.var 1) [(.var 2)])] []]]
def F_Stream_give : Fn := ⟨"give", some "Stream", 2, [false, false, false], false, [], runDef 3 [false, false, false] false B_Stream_give⟩
def N_River_next_of : List Str := ["self", "name"]
def B_River_next_of : List S := [.expr (.meth F_River_check (.var 0) [(.var 1)] 0), .ret (.sub (.attr (.var 0) "_below") (.var 1))]
def F_River_next_of : Fn := ⟨"next_of", some "River", 4, [false, false], false, [], runDef 2 [false, false] false B_River_next_of⟩
def N_River_loss_of : List Str := ["self", "name"]
def B_River_loss_of : List S := [.expr (.meth F_River_check (.var 0) [(.var 1)] 0), .ret (.sub (.attr (.var 0) "_losses") (.var 1))]
def F_River_loss_of : Fn := ⟨"loss_of", some "River", 4, [false, false], false, [], runDef 2 [false, false] false B_River_loss_of⟩
def N_Stream_run : List Str := ["self", "place", "below"]
def B_Stream_run : List S := [.setaO "Stream" (.var 0) "arrives" (.dc (.one 1) .iter [(.attr (.var 0) "order")] [] (.var 1) (.sub (.attr (.var 0) "coming") (.var 1)) [("place", 1)]), .for_ (.one 1) .iter [(.attr (.var 0) "order")] [.seti (.fld (.var 0) "flow") (.var 1) (.bin .sub (.sub (.attr (.var 0) "arrives") (.var 1)) (.sub (.attr (.var 0) "taken") (.var 1))), .seti (.fld (.var 0) "leaves") (.var 1) (.bin .add (.sub (.attr (.var 0) "flow") (.var 1)) (.sub (.attr (.var 0) "returned") (.var 1))), .asg 2 (.meth F_River_next_of (.attr (.var 0) "river") [(.var 1)] 0), .ife (.cmp .notN (.var 2) (.cst .non)) [.augi (.fld (.var 0) "arrives") (.var 2) .add (.bcall .max2 [(.bin .sub (.sub (.attr (.var 0) "leaves") (.var 1)) (.pmeth F_River_loss_of (.attr (.var 0) "river") [(.var 1)])), (.cst (.int 0))])] []]]
def F_Stream_run : Fn := ⟨"run", some "Stream", 5, [false], false, [], runDef 3 [false] false B_Stream_run⟩
def N_stream_of : List Str := ["river", "inflows", "rights", "amounts", "released", "stream", "right", "amount"]
def B_stream_of : List S := [.asg 5 (.mk "Stream" F_Stream_init [(.var 0), (.var 1), (.var 4)]), .for_ (.many [6, 7]) .zip [(.var 2), (.var 3)] [.expr (.meth F_Stream_give (.var 5) [(.var 6), (.var 7)] 0)], .expr (.meth F_Stream_run (.var 5) [] 0), .ret (.var 5)]
def F_stream_of : Fn := ⟨"stream_of", none, 6, [false, false, false, false, false], false, [], runDef 8 [false, false, false, false, false] false B_stream_of⟩
def N_flows : List Str := ["river", "inflows", "rights", "amounts", "released", "more"]
def B_flows : List S := [.asg 5 (.ite (.cmp .isN (.var 4) (.cst .non)) (.dct []) (.var 4)), .expr (.call F_check_situation [(.var 0), (.var 1), (.var 2), (.var 3), (.var 5)] 0), .ret (.meth F_Stream_rows (.call F_stream_of [(.var 0), (.var 1), (.var 2), (.var 3), (.var 5)] 0) [] 0)]
def F_flows : Fn := ⟨"flows", none, 7, [false, false, false, false, false], false, [.non], runDef 6 [false, false, false, false, false] false B_flows⟩
def N_Stream_is_possible : List Str := ["self", "place"]
def B_Stream_is_possible : List S := [.for_ (.one 1) .iter [(.attr (.var 0) "order")] [.ife (.cmp .lt (.sub (.attr (.var 0) "flow") (.var 1)) (.sub (.attr (.var 0) "must") (.var 1))) [.ret (.cst (.bl false))] []], .ret (.cst (.bl true))]
def F_Stream_is_possible : Fn := ⟨"is_possible", some "Stream", 1, [false], false, [], runDef 2 [false] false B_Stream_is_possible⟩
def N_is_possible : List Str := ["river", "inflows", "rights", "amounts", "released", "more"]
def B_is_possible : List S := [.asg 5 (.ite (.cmp .isN (.var 4) (.cst .non)) (.dct []) (.var 4)), .expr (.call F_check_situation [(.var 0), (.var 1), (.var 2), (.var 3), (.var 5)] 0), .ret (.meth F_Stream_is_possible (.call F_stream_of [(.var 0), (.var 1), (.var 2), (.var 3), (.var 5)] 0) [] 0)]
def F_is_possible : Fn := ⟨"is_possible", none, 7, [false, false, false, false, false], false, [.non], runDef 6 [false, false, false, false, false] false B_is_possible⟩
def N_l_told : List Str := ["way", "river", "inflows", "rights", "amounts", "released", "e"]
def B_l_told : List S := [.try_ XCS [.ife (.cmp .eq (.var 0) (.cst (.int 0))) [.ret (.tup [(.cst (.str (sx [118, 97, 108, 117, 101]))), (.call F_flows [(.var 1), (.var 2), (.var 3), (.var 4), (.var 5)] 0)])] [], .ret (.tup [(.cst (.str (sx [118, 97, 108, 117, 101]))), (.call F_is_possible [(.var 1), (.var 2), (.var 3), (.var 4), (.var 5)] 0)])] [⟨"UnknownName", some 6, [.ret (.tup [.cst (.str (sx [110, 97, 109, 101])), .fld "name"])]⟩, ⟨"OutOfRange", some 6, [.ret (.tup [.cst (.str (sx [114, 97, 110, 103, 101])), .fld "value"])]⟩, ⟨"WeirError", none, [.ret (.tup [.cst (.str (sx [111, 116, 104, 101, 114])), .cst (.int 0)])]⟩]]
def F_l_told : Fn := ⟨"_law_told", none, 8, [false, false, false, false, false, false], false, [], runDef 7 [false, false, false, false, false, false] false B_l_told⟩
def N_l_whole : List Str := ["x"]
def B_l_whole : List S := [.ret (.and (.isi (.var 0) .int) (.not (.isi (.var 0) .bool)))]
def F_l_whole : Fn := ⟨"_law_whole", none, 1, [false], false, [], runDef 1 [false] false B_l_whole⟩
def N_l_possible : List Str := ["rows", "inflows", "rights", "amounts", "released", "told", "k"]
def B_l_possible : List S := [.asg 5 (.call F_l_flows [(.var 0), (.var 1), (.var 2), (.var 3), (.var 4)] 0), .for_ (.one 6) .range [(.bcall .len [(.var 0)])] [.ife (.cmp .lt (.sub (.sub (.var 5) (.var 6)) (.cst (.int 1))) (.cst (.int 0))) [.ret (.cst (.bl false))] []], .for_ (.one 6) .range [(.bcall .len [(.var 2)])] [.ife (.and (.cmp .eq (.sub (.sub (.var 2) (.var 6)) (.cst (.str (sx [115, 111, 114, 116])))) (.cst (.str (sx [107, 101, 101, 112])))) (.cmp .lt (.sub (.sub (.var 5) (.sub (.sub (.var 2) (.var 6)) (.cst (.str (sx [112, 108, 97, 99, 101]))))) (.cst (.int 1))) (.sub (.var 3) (.var 6)))) [.ret (.cst (.bl false))] []], .ret (.cst (.bl true))]
def F_l_possible : Fn := ⟨"_law_possible", none, 2, [false, false, false, false, false], false, [], runDef 7 [false, false, false, false, false] false B_l_possible⟩
def N_law : List Str := ["script", "rows", "river", "rights", "told", "water", "drawn", "amounts", "rest", "due", "k", "given", "answer", "name", "good", "way", "one", "pair", "right"]
def B_law : List S := [.asg 1 (.call F_l_made_river [(.call F_l_cell [(.var 0), (.cst (.int 0))] 0), (.cst (.int 8))] 0), .asg 2 (.call F_read_river [(.call F_l_river_text [(.var 1)] 0)] 0), .asg 3 (.call F_l_rights [(.call F_l_cell [(.var 0), (.cst (.int 1))] 0), (.var 1), (.bin .mod (.bcall .int [(.call F_l_cell [(.var 0), (.cst (.int 2))] 0)]) (.cst (.int 7)))] 0), .asg 4 (.call F_l_all_rights [(.var 2), (.var 1), (.var 3)] 0), .asg 5 (.call F_l_water [(.bcall .abs [(.call F_l_cell [(.var 0), (.cst (.int 3))] 0)]), (.var 1)] 0), .asg 6 (.call F_l_draw [(.call F_l_cell [(.var 0), (.cst (.int 4))] 0), (.lc (.one 18) .iter [(.var 3)] [] (.cst (.int 1100)) [("right", 18)])] 0), .asg 7 (.lc (.one 10) .range [(.bcall .len [(.var 3)])] [] (.bin .fdiv (.bcall .min2 [(.sub (.var 6) (.var 10)), (.bin .add (.sub (.sub (.var 3) (.var 10)) (.cst (.str (sx [97, 109, 111, 117, 110, 116])))) (.cst (.int 50)))]) (.sub (.lst [(.cst (.int 1)), (.cst (.int 20))]) (.bin .mod (.bcall .int [(.call F_l_cell [(.var 0), (.cst (.int 5))] 0)]) (.cst (.int 2))))) [("k", 10)]), .asg 8 (.call F_l_flows [(.var 1), (.sub (.var 5) (.cst (.int 0))), (.var 3), (.var 7), (.sub (.var 5) (.cst (.int 1)))] 0), .asgO 9 (.dct []), .for_ (.one 10) .range [(.bcall .len [(.var 1)])] [.seti (.slot 9) (.sub (.sub (.var 1) (.var 10)) (.cst (.int 0))) (.sub (.var 8) (.var 10))], .asg 11 (.tup [(.bcall .dict [(.sub (.var 5) (.cst (.int 0)))]), (.bcall .list [(.var 7)]), (.bcall .dict [(.sub (.var 5) (.cst (.int 1)))])]), .asg 12 (.call F_l_told [(.cst (.int 0)), (.var 2), (.sub (.var 11) (.cst (.int 0))), (.var 4), (.sub (.var 11) (.cst (.int 1))), (.sub (.var 11) (.cst (.int 2)))] 0), .frz 9, .ife (.or (.cmp .dne (.var 12) (.tup [(.cst (.str (sx [118, 97, 108, 117, 101]))), (.var 9)])) (.cmp .dne (.var 11) (.tup [(.sub (.var 5) (.cst (.int 0))), (.var 7), (.sub (.var 5) (.cst (.int 1)))]))) [.ret (.cst (.bl false))] [], .for_ (.one 13) .keys [(.var 9)] [.for_ (.one 16) .iter [(.sub (.sub (.var 12) (.cst (.int 1))) (.var 13))] [.ife (.not (.tru (.call F_l_whole [(.var 16)] 0))) [.ret (.cst (.bl false))] []]], .asg 14 (.call F_l_told [(.cst (.int 1)), (.var 2), (.sub (.var 5) (.cst (.int 0))), (.var 4), (.var 7), (.sub (.var 5) (.cst (.int 1)))] 0), .ife (.or (.cmp .ne (.var 14) (.tup [(.cst (.str (sx [118, 97, 108, 117, 101]))), (.call F_l_possible [(.var 1), (.sub (.var 5) (.cst (.int 0))), (.var 3), (.var 7), (.sub (.var 5) (.cst (.int 1)))] 0)])) (.not (.isi (.sub (.var 14) (.cst (.int 1))) .bool))) [.ret (.cst (.bl false))] [], .ife (.and (.cmp .eq (.bcall .len [(.sub (.var 5) (.cst (.int 1)))]) (.cst (.int 0))) (.cmp .dne (.call F_flows [(.var 2), (.sub (.var 5) (.cst (.int 0))), (.var 4), (.var 7)] 1) (.var 9))) [.ret (.cst (.bl false))] [], .for_ (.one 15) .range [(.cst (.int 2))] [.ife (.cmp .ne (.call F_l_told [(.var 15), (.var 2), (.dct [(.cst (.str (sx [122, 122]))), (.neg (.cst (.int 1))), (.cst (.str (sx [121, 121]))), (.cst (.int 5))]), (.var 4), (.var 7), (.dct [(.cst (.str (sx [120, 120]))), (.cst (.int 5))])] 0) (.tup [(.cst (.str (sx [110, 97, 109, 101]))), (.cst (.str (sx [121, 121])))])) [.ret (.cst (.bl false))] [], .ife (.cmp .ne (.call F_l_told [(.var 15), (.var 2), (.dct [(.sub (.sub (.var 1) (.cst (.int 0))) (.cst (.int 0))), (.neg (.cst (.int 1)))]), (.var 4), (.var 7), (.dct [(.cst (.str (sx [120, 120]))), (.cst (.int 5))])] 0) (.tup [(.cst (.str (sx [110, 97, 109, 101]))), (.cst (.str (sx [120, 120])))])) [.ret (.cst (.bl false))] [], .ife (.cmp .gt (.bcall .len [(.var 1)]) (.cst (.int 1))) [.asg 17 (.bcall .sorted [(.lst [(.sub (.sub (.var 1) (.cst (.int 0))) (.cst (.int 0))), (.sub (.sub (.var 1) (.cst (.int 1))) (.cst (.int 0)))])]), .ife (.cmp .ne (.call F_l_told [(.var 15), (.var 2), (.dct [(.sub (.var 17) (.cst (.int 1))), (.neg (.cst (.int 1))), (.sub (.var 17) (.cst (.int 0))), (.neg (.cst (.int 2)))]), (.var 4), (.var 7), (.cst .non)] 0) (.tup [(.cst (.str (sx [114, 97, 110, 103, 101]))), (.neg (.cst (.int 2)))])) [.ret (.cst (.bl false))] []] [], .ife (.cmp .ne (.call F_l_told [(.var 15), (.var 2), (.dct [(.sub (.sub (.var 1) (.cst (.int 0))) (.cst (.int 0))), (.neg (.cst (.int 1)))]), (.var 4), (.var 7), (.dct [(.sub (.sub (.var 1) (.cst (.int 0))) (.cst (.int 0))), (.cst (.int 1000000001))])] 0) (.tup [(.cst (.str (sx [114, 97, 110, 103, 101]))), (.neg (.cst (.int 1)))])) [.ret (.cst (.bl false))] [], .ife (.cmp .ne (.call F_l_told [(.var 15), (.var 2), (.dct []), (.var 4), (.bin .add (.var 7) (.lst [(.neg (.cst (.int 5)))])), (.dct [(.sub (.sub (.var 1) (.cst (.int 0))) (.cst (.int 0))), (.cst (.int 1000000001))])] 0) (.tup [(.cst (.str (sx [114, 97, 110, 103, 101]))), (.cst (.int 1000000001))])) [.ret (.cst (.bl false))] [], .ife (.cmp .ne (.call F_l_told [(.var 15), (.var 2), (.dct []), (.var 4), (.bin .add (.var 7) (.lst [(.neg (.cst (.int 5)))])), (.cst .non)] 0) (.tup [(.cst (.str (sx [114, 97, 110, 103, 101]))), (.bin .add (.bcall .len [(.var 7)]) (.cst (.int 1)))])) [.ret (.cst (.bl false))] [], .ife (.and (.cmp .gt (.bcall .len [(.var 7)]) (.cst (.int 0))) (.cmp .ne (.call F_l_told [(.var 15), (.var 2), (.dct []), (.var 4), (.bin .add (.slice (.var 7) [(.cst (.int 1))] []) (.lst [(.neg (.cst (.int 5)))])), (.cst .non)] 0) (.tup [(.cst (.str (sx [114, 97, 110, 103, 101]))), (.neg (.cst (.int 5)))]))) [.ret (.cst (.bl false))] []], .ret (.cst (.bl true))]
def F_law : Fn := ⟨"law", none, 14, [false], false, [], runDef 19 [false] false B_law⟩
def clsDef (st : Stmt) (i : Nat) : Stmt := match st with | .ClassDef _ _ _ b _ _ _ _ _ _ _ => b.getD i (.Pass ⟨0, 0, 0, 0⟩) | _ => .Pass ⟨0, 0, 0, 0⟩
def fileN : Str := PySem.Challenge.pw_weirbook_k12_flows.main.file
abbrev i_BadText : Stmt := clsDef (top 3) 0
abbrev P_BadText : List Str := ["self", "line", "column", "reason"]
abbrev i_OutOfRange : Stmt := clsDef (top 4) 0
abbrev P_OutOfRange : List Str := ["self", "value"]
abbrev i_UnknownName : Stmt := clsDef (top 5) 0
abbrev P_UnknownName : List Str := ["self", "name"]
abbrev s_l_draw : Stmt := top 70
abbrev s_l_made_river : Stmt := top 76
abbrev s_l_cell : Stmt := top 69
abbrev s_is_digit : Stmt := top 24
abbrev s_is_written : Stmt := top 34
abbrev s_is_leap : Stmt := top 30
abbrev s_month_length : Stmt := top 31
abbrev s_is_date : Stmt := top 35
abbrev s_check_between : Stmt := top 9
abbrev s_year_start : Stmt := top 32
abbrev s_day_number : Stmt := top 33
abbrev s_read_date : Stmt := top 36
abbrev s_is_letter : Stmt := top 22
abbrev s_is_any_letter : Stmt := top 23
abbrev s_is_run_end : Stmt := top 43
abbrev s_run_of_digits : Stmt := top 41
abbrev s_number_of_digits : Stmt := top 44
abbrev s_token_of_digits : Stmt := top 45
abbrev s_run_of_letters : Stmt := top 42
abbrev s_token_at : Stmt := top 46
abbrev s_scan_line : Stmt := top 47
abbrev s_scan : Stmt := top 48
abbrev s_Reader_init : Stmt := clsDef (top 50) 0
abbrev s_Reader_token : Stmt := clsDef (top 50) 1
abbrev s_Reader_refuse : Stmt := clsDef (top 50) 3
abbrev s_Reader_sees_word : Stmt := clsDef (top 50) 7
abbrev s_Reader_advance : Stmt := clsDef (top 50) 2
abbrev s_Reader_take_word : Stmt := clsDef (top 50) 9
abbrev s_is_name : Stmt := top 25
abbrev s_is_free : Stmt := top 26
abbrev s_Reader_take_new_name : Stmt := clsDef (top 50) 15
abbrev s_Reader_take_known_name : Stmt := clsDef (top 50) 16
abbrev s_Reader_take_number : Stmt := clsDef (top 50) 12
abbrev s_Reader_sees_sign : Stmt := clsDef (top 50) 8
abbrev s_Reader_take_sign : Stmt := clsDef (top 50) 10
abbrev s_parse_place : Stmt := top 55
abbrev s_ordered : Stmt := top 54
abbrev s_River_init : Stmt := clsDef (top 53) 0
abbrev s_parse_river : Stmt := top 56
abbrev s_Reader_is_at_end : Stmt := clsDef (top 50) 5
abbrev s_Reader_finish : Stmt := clsDef (top 50) 6
abbrev s_read_river : Stmt := top 57
abbrev s_l_river_text : Stmt := top 77
abbrev s_l_path : Stmt := top 78
abbrev s_l_right : Stmt := top 79
abbrev s_l_rights : Stmt := top 80
abbrev s_l_leap : Stmt := top 72
abbrev s_l_length : Stmt := top 73
abbrev s_l_fast : Stmt := top 74
abbrev s_l_date : Stmt := top 75
abbrev s_l_right_text : Stmt := top 81
abbrev s_Reader_take_one_of : Stmt := clsDef (top 50) 11
abbrev s_River_places : Stmt := clsDef (top 53) 3
abbrev s_River_check : Stmt := clsDef (top 53) 1
abbrev s_River_path : Stmt := clsDef (top 53) 6
abbrev s_River_is_near : Stmt := clsDef (top 53) 10
abbrev s_parse_return : Stmt := top 63
abbrev s_Reader_take_date : Stmt := clsDef (top 50) 13
abbrev s_parse_season : Stmt := top 64
abbrev s_Right_init : Stmt := clsDef (top 62) 0
abbrev s_parse_right : Stmt := top 65
abbrev s_parse_rights : Stmt := top 66
abbrev s_read_rights : Stmt := top 67
abbrev s_l_all_rights : Stmt := top 82
abbrev s_l_water : Stmt := top 85
abbrev s_l_flows : Stmt := top 83
abbrev s_River_has_place : Stmt := clsDef (top 53) 2
abbrev s_check_places : Stmt := top 13
abbrev s_check_amount : Stmt := top 10
abbrev s_check_amounts : Stmt := top 14
abbrev s_check_situation : Stmt := top 15
abbrev s_Stream_rows : Stmt := clsDef (top 12) 5
abbrev s_River_order : Stmt := clsDef (top 53) 11
abbrev s_Stream_init : Stmt := clsDef (top 12) 0
abbrev s_Right_gives_back : Stmt := clsDef (top 62) 3
abbrev s_Stream_give : Stmt := clsDef (top 12) 1
abbrev s_River_next_of : Stmt := clsDef (top 53) 4
abbrev s_River_loss_of : Stmt := clsDef (top 53) 5
abbrev s_Stream_run : Stmt := clsDef (top 12) 2
abbrev s_stream_of : Stmt := top 16
abbrev s_flows : Stmt := top 17
abbrev s_Stream_is_possible : Stmt := clsDef (top 12) 3
abbrev s_is_possible : Stmt := top 18
abbrev s_l_told : Stmt := top 86
abbrev s_l_whole : Stmt := top 71
abbrev s_l_possible : Stmt := top 84
abbrev s_law : Stmt := top 87
def fcs : List Ck := [fun K => bltNs.all fun x => ckN x K,
  ckV "LAST_YEAR" 200 (.int 2199),
  ckV "FIRST_YEAR" 200 (.int 2000),
  ckV "LONGEST_NUMBER" 200 (.int 10),
  ckV "MOST_AMOUNT" 200 (.int 1000000000),
  ckV "DATE" 200 (.int 10),
  ckV "SIGNS" 200 (.str (sx [123, 125, 40, 41, 59, 44, 58, 61])),
  ckV "LONGEST" 200 (.int 12),
  ckV "KEPT" 200 (.tup [(.str (sx [114, 105, 103, 104, 116])), (.str (sx [116, 97, 107, 101, 115])), (.str (sx [107, 101, 101, 112, 115])), (.str (sx [115, 116, 111, 114, 101, 115])), (.str (sx [97, 116])), (.str (sx [114, 101, 116, 117, 114, 110, 115])), (.str (sx [116, 111])), (.str (sx [102, 114, 111, 109])), (.str (sx [119, 105, 116, 104, 105, 110])), (.str (sx [121, 101, 97, 114, 108, 121])), (.str (sx [106, 97, 110])), (.str (sx [102, 101, 98])), (.str (sx [109, 97, 114])), (.str (sx [97, 112, 114])), (.str (sx [109, 97, 121])), (.str (sx [106, 117, 110])), (.str (sx [106, 117, 108])), (.str (sx [97, 117, 103])), (.str (sx [115, 101, 112])), (.str (sx [111, 99, 116])), (.str (sx [110, 111, 118])), (.str (sx [100, 101, 99])), (.str (sx [112, 108, 97, 99, 101])), (.str (sx [108, 111, 115, 115])), (.str (sx [114, 101, 115, 101, 114, 118, 111, 105, 114])), (.str (sx [104, 111, 108, 100, 115])), (.str (sx [108, 111, 115, 101, 115])), (.str (sx [114, 105, 118, 101, 114])), (.str (sx [114, 101, 115, 101, 114, 118, 111, 105, 114, 115])), (.str (sx [114, 105, 103, 104, 116, 115])), (.str (sx [98, 101, 103, 105, 110])), (.str (sx [115, 116, 111, 99, 107])), (.str (sx [105, 110, 102, 108, 111, 119])), (.str (sx [111, 110])), (.str (sx [97, 115, 107])), (.str (sx [111, 114, 100, 101, 114])), (.str (sx [114, 101, 116, 105, 114, 101])), (.str (sx [115, 117, 98, 111, 114, 100, 105, 110, 97, 116, 101])), (.str (sx [117, 110, 100, 111])), (.str (sx [115, 104, 97, 114, 101, 115])), (.str (sx [115, 104, 111, 114, 116])), (.str (sx [115, 117, 109, 115])), (.str (sx [98, 117, 108, 108, 101, 116, 105, 110]))]),
  ckV "MOST_PLACES" 200 (.int 60),
  ckV "THOUSAND" 200 (.int 1000),
  ckV "MONTHS" 200 (.tup [(.str (sx [106, 97, 110])), (.str (sx [102, 101, 98])), (.str (sx [109, 97, 114])), (.str (sx [97, 112, 114])), (.str (sx [109, 97, 121])), (.str (sx [106, 117, 110])), (.str (sx [106, 117, 108])), (.str (sx [97, 117, 103])), (.str (sx [115, 101, 112])), (.str (sx [111, 99, 116])), (.str (sx [110, 111, 118])), (.str (sx [100, 101, 99]))]),
  ckV "MOST_RIGHTS" 200 (.int 120),
  ckY,
  ckX "BadText" "BadText.__init__" ["label", "line", "column", "reason"] fileN,
  ckX "OutOfRange" "OutOfRange.__init__" ["label", "value"] fileN,
  ckX "UnknownName" "UnknownName.__init__" ["label", "name"] fileN,
  fun K => XCS.all fun x => ckXc x K,
  ckG "UnknownName",
  fun K => XCS.all fun c => ckS c "UnknownName" true K,
  ckG "OutOfRange",
  fun K => XCS.all fun c => ckS c "OutOfRange" true K,
  ckG "WeirError",
  fun K => XCS.all fun c => ckS c "WeirError" true K,
  fun K => XCS.all fun c => ckA c "name" K,
  fun K => XCS.all fun c => ckA c "value" K,
  ckG "_law_draw",
  ckF (fun K => He.ga K "_law_draw") "_law_draw",
  ckG "_law_made_river",
  ckF (fun K => He.ga K "_law_made_river") "_law_made_river",
  ckG "_law_cell",
  ckF (fun K => He.ga K "_law_cell") "_law_cell",
  ckG "is_digit",
  ckF (fun K => He.ga K "is_digit") "is_digit",
  ckG "is_written",
  ckF (fun K => He.ga K "is_written") "is_written",
  ckG "is_leap",
  ckF (fun K => He.ga K "is_leap") "is_leap",
  ckG "month_length",
  ckF (fun K => He.ga K "month_length") "month_length",
  ckG "is_date",
  ckF (fun K => He.ga K "is_date") "is_date",
  ckG "check_between",
  ckF (fun K => He.ga K "check_between") "check_between",
  ckG "year_start",
  ckF (fun K => He.ga K "year_start") "year_start",
  ckG "day_number",
  ckF (fun K => He.ga K "day_number") "day_number",
  ckG "read_date",
  ckF (fun K => He.ga K "read_date") "read_date",
  ckG "is_letter",
  ckF (fun K => He.ga K "is_letter") "is_letter",
  ckG "is_any_letter",
  ckF (fun K => He.ga K "is_any_letter") "is_any_letter",
  ckG "is_run_end",
  ckF (fun K => He.ga K "is_run_end") "is_run_end",
  ckG "run_of_digits",
  ckF (fun K => He.ga K "run_of_digits") "run_of_digits",
  ckG "number_of_digits",
  ckF (fun K => He.ga K "number_of_digits") "number_of_digits",
  ckG "token_of_digits",
  ckF (fun K => He.ga K "token_of_digits") "token_of_digits",
  ckG "run_of_letters",
  ckF (fun K => He.ga K "run_of_letters") "run_of_letters",
  ckG "token_at",
  ckF (fun K => He.ga K "token_at") "token_at",
  ckG "scan_line",
  ckF (fun K => He.ga K "scan_line") "scan_line",
  ckG "scan",
  ckF (fun K => He.ga K "scan") "scan",
  ckO "Reader" ["_tokens", "_at"],
  ckF (fun K => He.ma K (He.ga K "Reader") "__init__") "Reader.__init__",
  ckM "Reader" "__init__",
  ckF (fun K => He.ma K (He.ga K "Reader") "token") "Reader.token",
  ckM "Reader" "token",
  ckF (fun K => He.ma K (He.ga K "Reader") "refuse") "Reader.refuse",
  ckM "Reader" "refuse",
  ckF (fun K => He.ma K (He.ga K "Reader") "sees_word") "Reader.sees_word",
  ckM "Reader" "sees_word",
  ckF (fun K => He.ma K (He.ga K "Reader") "advance") "Reader.advance",
  ckM "Reader" "advance",
  ckF (fun K => He.ma K (He.ga K "Reader") "take_word") "Reader.take_word",
  ckM "Reader" "take_word",
  ckG "is_name",
  ckF (fun K => He.ga K "is_name") "is_name",
  ckG "is_free",
  ckF (fun K => He.ga K "is_free") "is_free",
  ckF (fun K => He.ma K (He.ga K "Reader") "take_new_name") "Reader.take_new_name",
  ckM "Reader" "take_new_name",
  ckF (fun K => He.ma K (He.ga K "Reader") "take_known_name") "Reader.take_known_name",
  ckM "Reader" "take_known_name",
  ckF (fun K => He.ma K (He.ga K "Reader") "take_number") "Reader.take_number",
  ckM "Reader" "take_number",
  ckF (fun K => He.ma K (He.ga K "Reader") "sees_sign") "Reader.sees_sign",
  ckM "Reader" "sees_sign",
  ckF (fun K => He.ma K (He.ga K "Reader") "take_sign") "Reader.take_sign",
  ckM "Reader" "take_sign",
  ckG "parse_place",
  ckF (fun K => He.ga K "parse_place") "parse_place",
  ckG "ordered",
  ckF (fun K => He.ga K "ordered") "ordered",
  ckO "River" ["_below", "_losses", "_order"],
  ckF (fun K => He.ma K (He.ga K "River") "__init__") "River.__init__",
  ckM "River" "__init__",
  ckG "parse_river",
  ckF (fun K => He.ga K "parse_river") "parse_river",
  ckF (fun K => He.ma K (He.ga K "Reader") "is_at_end") "Reader.is_at_end",
  ckM "Reader" "is_at_end",
  ckF (fun K => He.ma K (He.ga K "Reader") "finish") "Reader.finish",
  ckM "Reader" "finish",
  ckG "read_river",
  ckF (fun K => He.ga K "read_river") "read_river",
  ckG "_law_river_text",
  ckF (fun K => He.ga K "_law_river_text") "_law_river_text",
  ckG "_law_path",
  ckF (fun K => He.ga K "_law_path") "_law_path",
  ckG "_law_right",
  ckF (fun K => He.ga K "_law_right") "_law_right",
  ckG "_law_rights",
  ckF (fun K => He.ga K "_law_rights") "_law_rights",
  ckG "_law_leap",
  ckF (fun K => He.ga K "_law_leap") "_law_leap",
  ckG "_law_length",
  ckF (fun K => He.ga K "_law_length") "_law_length",
  ckG "_law_fast",
  ckF (fun K => He.ga K "_law_fast") "_law_fast",
  ckG "_law_date",
  ckF (fun K => He.ga K "_law_date") "_law_date",
  ckG "_law_right_text",
  ckF (fun K => He.ga K "_law_right_text") "_law_right_text",
  ckF (fun K => He.ma K (He.ga K "Reader") "take_one_of") "Reader.take_one_of",
  ckM "Reader" "take_one_of",
  ckF (fun K => He.ma K (He.ga K "River") "places") "River.places",
  ckM "River" "places",
  ckF (fun K => He.ma K (He.ga K "River") "_check") "River._check",
  ckM "River" "_check",
  ckF (fun K => He.ma K (He.ga K "River") "path") "River.path",
  ckM "River" "path",
  ckF (fun K => He.ma K (He.ga K "River") "is_near") "River.is_near",
  ckM "River" "is_near",
  ckG "parse_return",
  ckF (fun K => He.ga K "parse_return") "parse_return",
  ckF (fun K => He.ma K (He.ga K "Reader") "take_date") "Reader.take_date",
  ckM "Reader" "take_date",
  ckT "MONTHS",
  ckG "parse_season",
  ckF (fun K => He.ga K "parse_season") "parse_season",
  ckO "Right" ["name", "kind", "amount", "place", "part", "back", "date", "season", "yearly"],
  ckF (fun K => He.ma K (He.ga K "Right") "__init__") "Right.__init__",
  ckM "Right" "__init__",
  ckDc "KINDS" D_KINDS,
  ckG "parse_right",
  ckF (fun K => He.ga K "parse_right") "parse_right",
  ckG "parse_rights",
  ckF (fun K => He.ga K "parse_rights") "parse_rights",
  ckG "read_rights",
  ckD "read_rights" 50 (.tup []),
  ckG "_law_all_rights",
  ckF (fun K => He.ga K "_law_all_rights") "_law_all_rights",
  ckG "_law_water",
  ckF (fun K => He.ga K "_law_water") "_law_water",
  ckG "_law_flows",
  ckF (fun K => He.ga K "_law_flows") "_law_flows",
  ckF (fun K => He.ma K (He.ga K "River") "has_place") "River.has_place",
  ckM "River" "has_place",
  ckG "check_places",
  ckF (fun K => He.ga K "check_places") "check_places",
  ckG "check_amount",
  ckF (fun K => He.ga K "check_amount") "check_amount",
  ckG "check_amounts",
  ckF (fun K => He.ga K "check_amounts") "check_amounts",
  ckG "check_situation",
  ckF (fun K => He.ga K "check_situation") "check_situation",
  ckF (fun K => He.ma K (He.ga K "Stream") "rows") "Stream.rows",
  ckO "Stream" ["river", "order", "coming", "taken", "returned", "must", "arrives", "flow", "leaves"],
  ckM "Stream" "rows",
  ckF (fun K => He.ma K (He.ga K "River") "order") "River.order",
  ckM "River" "order",
  ckF (fun K => He.ma K (He.ga K "Stream") "__init__") "Stream.__init__",
  ckM "Stream" "__init__",
  ckF (fun K => He.ma K (He.ga K "Right") "gives_back") "Right.gives_back",
  ckM "Right" "gives_back",
  ckF (fun K => He.ma K (He.ga K "Stream") "give") "Stream.give",
  ckM "Stream" "give",
  ckF (fun K => He.ma K (He.ga K "River") "next_of") "River.next_of",
  ckM "River" "next_of",
  ckF (fun K => He.ma K (He.ga K "River") "loss_of") "River.loss_of",
  ckM "River" "loss_of",
  ckF (fun K => He.ma K (He.ga K "Stream") "run") "Stream.run",
  ckM "Stream" "run",
  ckG "stream_of",
  ckF (fun K => He.ga K "stream_of") "stream_of",
  ckG "flows",
  ckD "flows" 50 .non,
  ckF (fun K => He.ma K (He.ga K "Stream") "is_possible") "Stream.is_possible",
  ckM "Stream" "is_possible",
  ckG "is_possible",
  ckD "is_possible" 50 .non,
  ckG "_law_told",
  ckF (fun K => He.ga K "_law_told") "_law_told",
  ckG "_law_whole",
  ckF (fun K => He.ga K "_law_whole") "_law_whole",
  ckG "_law_possible",
  ckF (fun K => He.ga K "_law_possible") "_law_possible",
  ckF (fun K => He.ga K "law") "law",
  ckG "law"]
def fds : List Fd := [⟨fun K => iniA (He.ga K "BadText") K, "__init__", "BadText.__init__", i_BadText⟩,
  ⟨fun K => iniA (He.ga K "OutOfRange") K, "__init__", "OutOfRange.__init__", i_OutOfRange⟩,
  ⟨fun K => iniA (He.ga K "UnknownName") K, "__init__", "UnknownName.__init__", i_UnknownName⟩,
  ⟨fun K => He.ga K "_law_draw", "_law_draw", "_law_draw", s_l_draw⟩,
  ⟨fun K => He.ga K "_law_made_river", "_law_made_river", "_law_made_river", s_l_made_river⟩,
  ⟨fun K => He.ga K "_law_cell", "_law_cell", "_law_cell", s_l_cell⟩,
  ⟨fun K => He.ga K "is_digit", "is_digit", "is_digit", s_is_digit⟩,
  ⟨fun K => He.ga K "is_written", "is_written", "is_written", s_is_written⟩,
  ⟨fun K => He.ga K "is_leap", "is_leap", "is_leap", s_is_leap⟩,
  ⟨fun K => He.ga K "month_length", "month_length", "month_length", s_month_length⟩,
  ⟨fun K => He.ga K "is_date", "is_date", "is_date", s_is_date⟩,
  ⟨fun K => He.ga K "check_between", "check_between", "check_between", s_check_between⟩,
  ⟨fun K => He.ga K "year_start", "year_start", "year_start", s_year_start⟩,
  ⟨fun K => He.ga K "day_number", "day_number", "day_number", s_day_number⟩,
  ⟨fun K => He.ga K "read_date", "read_date", "read_date", s_read_date⟩,
  ⟨fun K => He.ga K "is_letter", "is_letter", "is_letter", s_is_letter⟩,
  ⟨fun K => He.ga K "is_any_letter", "is_any_letter", "is_any_letter", s_is_any_letter⟩,
  ⟨fun K => He.ga K "is_run_end", "is_run_end", "is_run_end", s_is_run_end⟩,
  ⟨fun K => He.ga K "run_of_digits", "run_of_digits", "run_of_digits", s_run_of_digits⟩,
  ⟨fun K => He.ga K "number_of_digits", "number_of_digits", "number_of_digits", s_number_of_digits⟩,
  ⟨fun K => He.ga K "token_of_digits", "token_of_digits", "token_of_digits", s_token_of_digits⟩,
  ⟨fun K => He.ga K "run_of_letters", "run_of_letters", "run_of_letters", s_run_of_letters⟩,
  ⟨fun K => He.ga K "token_at", "token_at", "token_at", s_token_at⟩,
  ⟨fun K => He.ga K "scan_line", "scan_line", "scan_line", s_scan_line⟩,
  ⟨fun K => He.ga K "scan", "scan", "scan", s_scan⟩,
  ⟨fun K => He.ma K (He.ga K "Reader") "__init__", "__init__", "Reader.__init__", s_Reader_init⟩,
  ⟨fun K => He.ma K (He.ga K "Reader") "token", "token", "Reader.token", s_Reader_token⟩,
  ⟨fun K => He.ma K (He.ga K "Reader") "refuse", "refuse", "Reader.refuse", s_Reader_refuse⟩,
  ⟨fun K => He.ma K (He.ga K "Reader") "sees_word", "sees_word", "Reader.sees_word", s_Reader_sees_word⟩,
  ⟨fun K => He.ma K (He.ga K "Reader") "advance", "advance", "Reader.advance", s_Reader_advance⟩,
  ⟨fun K => He.ma K (He.ga K "Reader") "take_word", "take_word", "Reader.take_word", s_Reader_take_word⟩,
  ⟨fun K => He.ga K "is_name", "is_name", "is_name", s_is_name⟩,
  ⟨fun K => He.ga K "is_free", "is_free", "is_free", s_is_free⟩,
  ⟨fun K => He.ma K (He.ga K "Reader") "take_new_name", "take_new_name", "Reader.take_new_name", s_Reader_take_new_name⟩,
  ⟨fun K => He.ma K (He.ga K "Reader") "take_known_name", "take_known_name", "Reader.take_known_name", s_Reader_take_known_name⟩,
  ⟨fun K => He.ma K (He.ga K "Reader") "take_number", "take_number", "Reader.take_number", s_Reader_take_number⟩,
  ⟨fun K => He.ma K (He.ga K "Reader") "sees_sign", "sees_sign", "Reader.sees_sign", s_Reader_sees_sign⟩,
  ⟨fun K => He.ma K (He.ga K "Reader") "take_sign", "take_sign", "Reader.take_sign", s_Reader_take_sign⟩,
  ⟨fun K => He.ga K "parse_place", "parse_place", "parse_place", s_parse_place⟩,
  ⟨fun K => He.ga K "ordered", "ordered", "ordered", s_ordered⟩,
  ⟨fun K => He.ma K (He.ga K "River") "__init__", "__init__", "River.__init__", s_River_init⟩,
  ⟨fun K => He.ga K "parse_river", "parse_river", "parse_river", s_parse_river⟩,
  ⟨fun K => He.ma K (He.ga K "Reader") "is_at_end", "is_at_end", "Reader.is_at_end", s_Reader_is_at_end⟩,
  ⟨fun K => He.ma K (He.ga K "Reader") "finish", "finish", "Reader.finish", s_Reader_finish⟩,
  ⟨fun K => He.ga K "read_river", "read_river", "read_river", s_read_river⟩,
  ⟨fun K => He.ga K "_law_river_text", "_law_river_text", "_law_river_text", s_l_river_text⟩,
  ⟨fun K => He.ga K "_law_path", "_law_path", "_law_path", s_l_path⟩,
  ⟨fun K => He.ga K "_law_right", "_law_right", "_law_right", s_l_right⟩,
  ⟨fun K => He.ga K "_law_rights", "_law_rights", "_law_rights", s_l_rights⟩,
  ⟨fun K => He.ga K "_law_leap", "_law_leap", "_law_leap", s_l_leap⟩,
  ⟨fun K => He.ga K "_law_length", "_law_length", "_law_length", s_l_length⟩,
  ⟨fun K => He.ga K "_law_fast", "_law_fast", "_law_fast", s_l_fast⟩,
  ⟨fun K => He.ga K "_law_date", "_law_date", "_law_date", s_l_date⟩,
  ⟨fun K => He.ga K "_law_right_text", "_law_right_text", "_law_right_text", s_l_right_text⟩,
  ⟨fun K => He.ma K (He.ga K "Reader") "take_one_of", "take_one_of", "Reader.take_one_of", s_Reader_take_one_of⟩,
  ⟨fun K => He.ma K (He.ga K "River") "places", "places", "River.places", s_River_places⟩,
  ⟨fun K => He.ma K (He.ga K "River") "_check", "_check", "River._check", s_River_check⟩,
  ⟨fun K => He.ma K (He.ga K "River") "path", "path", "River.path", s_River_path⟩,
  ⟨fun K => He.ma K (He.ga K "River") "is_near", "is_near", "River.is_near", s_River_is_near⟩,
  ⟨fun K => He.ga K "parse_return", "parse_return", "parse_return", s_parse_return⟩,
  ⟨fun K => He.ma K (He.ga K "Reader") "take_date", "take_date", "Reader.take_date", s_Reader_take_date⟩,
  ⟨fun K => He.ga K "parse_season", "parse_season", "parse_season", s_parse_season⟩,
  ⟨fun K => He.ma K (He.ga K "Right") "__init__", "__init__", "Right.__init__", s_Right_init⟩,
  ⟨fun K => He.ga K "parse_right", "parse_right", "parse_right", s_parse_right⟩,
  ⟨fun K => He.ga K "parse_rights", "parse_rights", "parse_rights", s_parse_rights⟩,
  ⟨fun K => He.ga K "read_rights", "read_rights", "read_rights", s_read_rights⟩,
  ⟨fun K => He.ga K "_law_all_rights", "_law_all_rights", "_law_all_rights", s_l_all_rights⟩,
  ⟨fun K => He.ga K "_law_water", "_law_water", "_law_water", s_l_water⟩,
  ⟨fun K => He.ga K "_law_flows", "_law_flows", "_law_flows", s_l_flows⟩,
  ⟨fun K => He.ma K (He.ga K "River") "has_place", "has_place", "River.has_place", s_River_has_place⟩,
  ⟨fun K => He.ga K "check_places", "check_places", "check_places", s_check_places⟩,
  ⟨fun K => He.ga K "check_amount", "check_amount", "check_amount", s_check_amount⟩,
  ⟨fun K => He.ga K "check_amounts", "check_amounts", "check_amounts", s_check_amounts⟩,
  ⟨fun K => He.ga K "check_situation", "check_situation", "check_situation", s_check_situation⟩,
  ⟨fun K => He.ma K (He.ga K "Stream") "rows", "rows", "Stream.rows", s_Stream_rows⟩,
  ⟨fun K => He.ma K (He.ga K "River") "order", "order", "River.order", s_River_order⟩,
  ⟨fun K => He.ma K (He.ga K "Stream") "__init__", "__init__", "Stream.__init__", s_Stream_init⟩,
  ⟨fun K => He.ma K (He.ga K "Right") "gives_back", "gives_back", "Right.gives_back", s_Right_gives_back⟩,
  ⟨fun K => He.ma K (He.ga K "Stream") "give", "give", "Stream.give", s_Stream_give⟩,
  ⟨fun K => He.ma K (He.ga K "River") "next_of", "next_of", "River.next_of", s_River_next_of⟩,
  ⟨fun K => He.ma K (He.ga K "River") "loss_of", "loss_of", "River.loss_of", s_River_loss_of⟩,
  ⟨fun K => He.ma K (He.ga K "Stream") "run", "run", "Stream.run", s_Stream_run⟩,
  ⟨fun K => He.ga K "stream_of", "stream_of", "stream_of", s_stream_of⟩,
  ⟨fun K => He.ga K "flows", "flows", "flows", s_flows⟩,
  ⟨fun K => He.ma K (He.ga K "Stream") "is_possible", "is_possible", "Stream.is_possible", s_Stream_is_possible⟩,
  ⟨fun K => He.ga K "is_possible", "is_possible", "is_possible", s_is_possible⟩,
  ⟨fun K => He.ga K "_law_told", "_law_told", "_law_told", s_l_told⟩,
  ⟨fun K => He.ga K "_law_whole", "_law_whole", "_law_whole", s_l_whole⟩,
  ⟨fun K => He.ga K "_law_possible", "_law_possible", "_law_possible", s_l_possible⟩,
  ⟨fun K => He.ga K "law", "law", "law", s_law⟩]
def dgs : List Dg := [("KINDS", D_KINDS)]
section
variable {P : Program} {w : World} {K : PySem.W.Frag} {mg : Str → Option Value} {base : Heap} (d : HD fcs fds dgs fileN P w K mg base)
include d
end
def nmsH0 : List PySem.Str := ["_wall", "WeirError", "BadText", "OutOfRange", "UnknownName", "MOST_AMOUNT", "THOUSAND", "check_between", "check_amount", "Stream", "check_places", "check_amounts", "check_situation", "stream_of", "flows", "is_possible", "KEPT", "LONGEST", "is_letter", "is_any_letter", "is_digit", "is_name", "is_free", "FIRST_YEAR", "LAST_YEAR", "is_leap", "month_length", "year_start", "day_number", "is_written"]
def nmsH1 : List PySem.Str := ["is_date", "read_date", "SIGNS", "LONGEST_NUMBER", "DATE", "run_of_digits", "run_of_letters", "is_run_end", "number_of_digits", "token_of_digits", "token_at", "scan_line", "scan", "Reader", "MOST_PLACES", "River", "ordered", "parse_place", "parse_river", "read_river", "KINDS", "MONTHS", "MOST_RIGHTS", "Right", "parse_return", "parse_season", "parse_right", "parse_rights", "read_rights", "_law_cell"]
def nmsH2 : List PySem.Str := ["_law_draw", "_law_whole", "_law_leap", "_law_length", "_law_fast", "_law_date", "_law_made_river", "_law_river_text", "_law_path", "_law_right", "_law_rights", "_law_right_text", "_law_all_rights", "_law_flows", "_law_possible", "_law_water", "_law_told"]
def nmsH : List PySem.Str := nmsH0 ++ nmsH1 ++ nmsH2
end Wb

namespace Wb
open PySem PySem.W PySem.Calls PyProof.Rows
abbrev rowR : OpenRow := OpenLaw.row PySem.Challenge.rw_weirbook_k12_flows
abbrev hkR : Hook := hookB fcs fds dgs
def obR (s : SharedT) : AlB := obsBG fcs fds dgs (HandSHeadRun.getT s)
abbrev viewR : Program := view rowR.prog [87]
end Wb

namespace Wb
open PySem PySem.Spec PyProof.Rows
@[simp] theorem szle_0 : (0 ≤ sizeL) = True := by unfold sizeL; simp
@[simp] theorem szle_1 : (1 ≤ sizeL) = True := by unfold sizeL; simp
@[simp] theorem szle_2 : (2 ≤ sizeL) = True := by unfold sizeL; simp
@[simp] theorem szle_3 : (3 ≤ sizeL) = True := by unfold sizeL; simp
@[simp] theorem szle_4 : (4 ≤ sizeL) = True := by unfold sizeL; simp
@[simp] theorem szle_5 : (5 ≤ sizeL) = True := by unfold sizeL; simp
@[simp] theorem szle_6 : (6 ≤ sizeL) = True := by unfold sizeL; simp
@[simp] theorem szle_7 : (7 ≤ sizeL) = True := by unfold sizeL; simp
@[simp] theorem szle_8 : (8 ≤ sizeL) = True := by unfold sizeL; simp
@[simp] theorem szle_9 : (9 ≤ sizeL) = True := by unfold sizeL; simp
@[simp] theorem szle_10 : (10 ≤ sizeL) = True := by unfold sizeL; simp
@[simp] theorem szle_11 : (11 ≤ sizeL) = True := by unfold sizeL; simp
@[simp] theorem szle_12 : (12 ≤ sizeL) = True := by unfold sizeL; simp
@[simp] theorem szle_13 : (13 ≤ sizeL) = True := by unfold sizeL; simp
@[simp] theorem szle_14 : (14 ≤ sizeL) = True := by unfold sizeL; simp
@[simp] theorem szle_15 : (15 ≤ sizeL) = True := by unfold sizeL; simp
@[simp] theorem szle_16 : (16 ≤ sizeL) = True := by unfold sizeL; simp
def cc (c : Nat) : W := .str ⟨#[c]⟩
theorem sx_len (l : List Nat) : (sx l).length = l.length := by
  show l.toArray.size = _
  simp
theorem sx_app (a b : List Nat) : sx a ++ sx b = sx (a ++ b) := by
  show (⟨(sx a).cps ++ (sx b).cps⟩ : Str) = _
  simp [sx]
def digit (c : Nat) : Bool := decide (48 ≤ c) && decide (c ≤ 57)
theorem add_str' (a b : Str) (h : a.length + b.length ≤ sizeL) : binW .add (.str a) (.str b) = some (false, .str (a ++ b)) := if_pos h
theorem add_sx (a b : List Nat) (h : a.length + b.length ≤ 1000) : binW .add (.str (sx a)) (.str (sx b)) = some (false, .str (sx (a ++ b))) := by
  rw [add_str' _ _ (by rw [sx_len, sx_len]; unfold sizeL; omega), sx_app]
def okD : Nat → W → Bool
  | _, .non => true
  | _, .bl _ => true
  | _, .int _ => true
  | _, .str s => PyData.strOk s
  | n + 1, .tup ws => ws.all (okD n)
  | n + 1, .lst ws => ws.all (okD n)
  | _, _ => false
theorem sx_inj {a b : List Nat} : sx a = sx b ↔ a = b := by
  unfold sx
  constructor
  · intro h
    have h2 := congrArg (fun z : Str => z.cps.toList) h
    simpa using h2
  · intro h; rw [h]
end Wb

namespace Wb
open PySem PySem.Spec PyProof.Rows
@[simp] theorem isSub_we (c : Str) : isSub c "WeirError" = true := by unfold isSub; simp
@[simp] theorem isSub_ve (c : Str) : isSub c "ValueError" = true := by unfold isSub; simp
@[simp] theorem isSub_self (c : Str) : isSub c c = true := by unfold isSub; simp
@[simp] theorem xmem_BadText : (("BadText" : Str) ∈ XCS) = True := by decide
@[simp] theorem xn_BadText : X_BadText.n = 3 := id rfl
@[simp] theorem xnm_BadText : X_BadText.nm = "BadText" := id rfl
@[simp] theorem xmem_OutOfRange : (("OutOfRange" : Str) ∈ XCS) = True := by decide
@[simp] theorem xn_OutOfRange : X_OutOfRange.n = 1 := id rfl
@[simp] theorem xnm_OutOfRange : X_OutOfRange.nm = "OutOfRange" := id rfl
@[simp] theorem xmem_UnknownName : (("UnknownName" : Str) ∈ XCS) = True := by decide
@[simp] theorem xn_UnknownName : X_UnknownName.n = 1 := id rfl
@[simp] theorem xnm_UnknownName : X_UnknownName.nm = "UnknownName" := id rfl
@[simp] theorem isSub_BadText_OutOfRange : isSub "BadText" "OutOfRange" = false := by decide
@[simp] theorem isSub_BadText_UnknownName : isSub "BadText" "UnknownName" = false := by decide
@[simp] theorem isSub_OutOfRange_UnknownName : isSub "OutOfRange" "UnknownName" = false := by decide
@[simp] theorem isSub_UnknownName_OutOfRange : isSub "UnknownName" "OutOfRange" = false := by decide
@[simp] theorem pl_F_l_draw : F_l_draw.plain = true := rfl
@[simp] theorem dv_F_l_draw : F_l_draw.dv 0 = [] := rfl
@[simp] theorem pl_F_l_made_river : F_l_made_river.plain = true := rfl
@[simp] theorem dv_F_l_made_river : F_l_made_river.dv 0 = [] := rfl
@[simp] theorem pl_F_l_cell : F_l_cell.plain = true := rfl
@[simp] theorem dv_F_l_cell : F_l_cell.dv 0 = [] := rfl
@[simp] theorem pl_F_is_digit : F_is_digit.plain = true := rfl
@[simp] theorem dv_F_is_digit : F_is_digit.dv 0 = [] := rfl
@[simp] theorem pl_F_is_written : F_is_written.plain = true := rfl
@[simp] theorem dv_F_is_written : F_is_written.dv 0 = [] := rfl
@[simp] theorem pl_F_is_leap : F_is_leap.plain = true := rfl
@[simp] theorem dv_F_is_leap : F_is_leap.dv 0 = [] := rfl
@[simp] theorem pl_F_month_length : F_month_length.plain = true := rfl
@[simp] theorem dv_F_month_length : F_month_length.dv 0 = [] := rfl
@[simp] theorem pl_F_is_date : F_is_date.plain = true := rfl
@[simp] theorem dv_F_is_date : F_is_date.dv 0 = [] := rfl
@[simp] theorem pl_F_check_between : F_check_between.plain = true := rfl
@[simp] theorem dv_F_check_between : F_check_between.dv 0 = [] := rfl
@[simp] theorem pl_F_year_start : F_year_start.plain = true := rfl
@[simp] theorem dv_F_year_start : F_year_start.dv 0 = [] := rfl
@[simp] theorem pl_F_day_number : F_day_number.plain = true := rfl
@[simp] theorem dv_F_day_number : F_day_number.dv 0 = [] := rfl
@[simp] theorem pl_F_read_date : F_read_date.plain = true := rfl
@[simp] theorem dv_F_read_date : F_read_date.dv 0 = [] := rfl
@[simp] theorem pl_F_is_letter : F_is_letter.plain = true := rfl
@[simp] theorem dv_F_is_letter : F_is_letter.dv 0 = [] := rfl
@[simp] theorem pl_F_is_any_letter : F_is_any_letter.plain = true := rfl
@[simp] theorem dv_F_is_any_letter : F_is_any_letter.dv 0 = [] := rfl
@[simp] theorem pl_F_is_run_end : F_is_run_end.plain = true := rfl
@[simp] theorem dv_F_is_run_end : F_is_run_end.dv 0 = [] := rfl
@[simp] theorem pl_F_run_of_digits : F_run_of_digits.plain = true := rfl
@[simp] theorem dv_F_run_of_digits : F_run_of_digits.dv 0 = [] := rfl
@[simp] theorem pl_F_number_of_digits : F_number_of_digits.plain = true := rfl
@[simp] theorem dv_F_number_of_digits : F_number_of_digits.dv 0 = [] := rfl
@[simp] theorem pl_F_token_of_digits : F_token_of_digits.plain = true := rfl
@[simp] theorem dv_F_token_of_digits : F_token_of_digits.dv 0 = [] := rfl
@[simp] theorem pl_F_run_of_letters : F_run_of_letters.plain = true := rfl
@[simp] theorem dv_F_run_of_letters : F_run_of_letters.dv 0 = [] := rfl
@[simp] theorem pl_F_token_at : F_token_at.plain = true := rfl
@[simp] theorem dv_F_token_at : F_token_at.dv 0 = [] := rfl
@[simp] theorem cl_F_scan_line : F_scan_line.cls = none := rfl
@[simp] theorem own_F_scan_line : F_scan_line.own = [false, false, true] := rfl
@[simp] theorem fr_F_scan_line : F_scan_line.fresh = false := rfl
@[simp] theorem dv_F_scan_line : F_scan_line.dv 0 = [] := rfl
@[simp] theorem pl_F_scan : F_scan.plain = true := rfl
@[simp] theorem dv_F_scan : F_scan.dv 0 = [] := rfl
@[simp] theorem pl_F_Reader_init : F_Reader_init.plain = true := rfl
@[simp] theorem cl_F_Reader_init : F_Reader_init.cls = some "Reader" := rfl
@[simp] theorem own_F_Reader_init : F_Reader_init.own = [false, false] := rfl
@[simp] theorem fr_F_Reader_init : F_Reader_init.fresh = false := rfl
@[simp] theorem dv_F_Reader_init : F_Reader_init.dv 0 = [] := rfl
@[simp] theorem pl_F_Reader_token : F_Reader_token.plain = true := rfl
@[simp] theorem cl_F_Reader_token : F_Reader_token.cls = some "Reader" := rfl
@[simp] theorem own_F_Reader_token : F_Reader_token.own = [false] := rfl
@[simp] theorem fr_F_Reader_token : F_Reader_token.fresh = false := rfl
@[simp] theorem dv_F_Reader_token : F_Reader_token.dv 0 = [] := rfl
@[simp] theorem pl_F_Reader_refuse : F_Reader_refuse.plain = true := rfl
@[simp] theorem cl_F_Reader_refuse : F_Reader_refuse.cls = some "Reader" := rfl
@[simp] theorem own_F_Reader_refuse : F_Reader_refuse.own = [false, false] := rfl
@[simp] theorem fr_F_Reader_refuse : F_Reader_refuse.fresh = false := rfl
@[simp] theorem dv_F_Reader_refuse : F_Reader_refuse.dv 0 = [] := rfl
@[simp] theorem pl_F_Reader_sees_word : F_Reader_sees_word.plain = true := rfl
@[simp] theorem cl_F_Reader_sees_word : F_Reader_sees_word.cls = some "Reader" := rfl
@[simp] theorem own_F_Reader_sees_word : F_Reader_sees_word.own = [false, false] := rfl
@[simp] theorem fr_F_Reader_sees_word : F_Reader_sees_word.fresh = false := rfl
@[simp] theorem dv_F_Reader_sees_word : F_Reader_sees_word.dv 0 = [] := rfl
@[simp] theorem pl_F_Reader_advance : F_Reader_advance.plain = true := rfl
@[simp] theorem cl_F_Reader_advance : F_Reader_advance.cls = some "Reader" := rfl
@[simp] theorem own_F_Reader_advance : F_Reader_advance.own = [false] := rfl
@[simp] theorem fr_F_Reader_advance : F_Reader_advance.fresh = false := rfl
@[simp] theorem dv_F_Reader_advance : F_Reader_advance.dv 0 = [] := rfl
@[simp] theorem pl_F_Reader_take_word : F_Reader_take_word.plain = true := rfl
@[simp] theorem cl_F_Reader_take_word : F_Reader_take_word.cls = some "Reader" := rfl
@[simp] theorem own_F_Reader_take_word : F_Reader_take_word.own = [false, false] := rfl
@[simp] theorem fr_F_Reader_take_word : F_Reader_take_word.fresh = false := rfl
@[simp] theorem dv_F_Reader_take_word : F_Reader_take_word.dv 0 = [] := rfl
@[simp] theorem pl_F_is_name : F_is_name.plain = true := rfl
@[simp] theorem dv_F_is_name : F_is_name.dv 0 = [] := rfl
@[simp] theorem pl_F_is_free : F_is_free.plain = true := rfl
@[simp] theorem dv_F_is_free : F_is_free.dv 0 = [] := rfl
@[simp] theorem cl_F_Reader_take_new_name_o1 : F_Reader_take_new_name_o1.cls = some "Reader" := rfl
@[simp] theorem own_F_Reader_take_new_name_o1 : F_Reader_take_new_name_o1.own = [false, true] := rfl
@[simp] theorem fr_F_Reader_take_new_name_o1 : F_Reader_take_new_name_o1.fresh = false := rfl
@[simp] theorem dv_F_Reader_take_new_name_o1 : F_Reader_take_new_name_o1.dv 0 = [] := rfl
@[simp] theorem cl_F_Reader_take_known_name_o1 : F_Reader_take_known_name_o1.cls = some "Reader" := rfl
@[simp] theorem own_F_Reader_take_known_name_o1 : F_Reader_take_known_name_o1.own = [false, true] := rfl
@[simp] theorem fr_F_Reader_take_known_name_o1 : F_Reader_take_known_name_o1.fresh = false := rfl
@[simp] theorem dv_F_Reader_take_known_name_o1 : F_Reader_take_known_name_o1.dv 0 = [] := rfl
@[simp] theorem pl_F_Reader_take_number : F_Reader_take_number.plain = true := rfl
@[simp] theorem cl_F_Reader_take_number : F_Reader_take_number.cls = some "Reader" := rfl
@[simp] theorem own_F_Reader_take_number : F_Reader_take_number.own = [false, false, false] := rfl
@[simp] theorem fr_F_Reader_take_number : F_Reader_take_number.fresh = false := rfl
@[simp] theorem dv_F_Reader_take_number : F_Reader_take_number.dv 0 = [] := rfl
@[simp] theorem pl_F_Reader_sees_sign : F_Reader_sees_sign.plain = true := rfl
@[simp] theorem cl_F_Reader_sees_sign : F_Reader_sees_sign.cls = some "Reader" := rfl
@[simp] theorem own_F_Reader_sees_sign : F_Reader_sees_sign.own = [false, false] := rfl
@[simp] theorem fr_F_Reader_sees_sign : F_Reader_sees_sign.fresh = false := rfl
@[simp] theorem dv_F_Reader_sees_sign : F_Reader_sees_sign.dv 0 = [] := rfl
@[simp] theorem pl_F_Reader_take_sign : F_Reader_take_sign.plain = true := rfl
@[simp] theorem cl_F_Reader_take_sign : F_Reader_take_sign.cls = some "Reader" := rfl
@[simp] theorem own_F_Reader_take_sign : F_Reader_take_sign.own = [false, false] := rfl
@[simp] theorem fr_F_Reader_take_sign : F_Reader_take_sign.fresh = false := rfl
@[simp] theorem dv_F_Reader_take_sign : F_Reader_take_sign.dv 0 = [] := rfl
@[simp] theorem cl_F_parse_place : F_parse_place.cls = none := rfl
@[simp] theorem own_F_parse_place : F_parse_place.own = [false, true, true] := rfl
@[simp] theorem fr_F_parse_place : F_parse_place.fresh = false := rfl
@[simp] theorem dv_F_parse_place : F_parse_place.dv 0 = [] := rfl
@[simp] theorem pl_F_ordered : F_ordered.plain = true := rfl
@[simp] theorem dv_F_ordered : F_ordered.dv 0 = [] := rfl
@[simp] theorem cl_F_River_init : F_River_init.cls = some "River" := rfl
@[simp] theorem own_F_River_init : F_River_init.own = [true, false, false] := rfl
@[simp] theorem fr_F_River_init : F_River_init.fresh = false := rfl
@[simp] theorem dv_F_River_init : F_River_init.dv 0 = [] := rfl
@[simp] theorem pl_F_parse_river : F_parse_river.plain = true := rfl
@[simp] theorem dv_F_parse_river : F_parse_river.dv 0 = [] := rfl
@[simp] theorem pl_F_Reader_is_at_end : F_Reader_is_at_end.plain = true := rfl
@[simp] theorem cl_F_Reader_is_at_end : F_Reader_is_at_end.cls = some "Reader" := rfl
@[simp] theorem own_F_Reader_is_at_end : F_Reader_is_at_end.own = [false] := rfl
@[simp] theorem fr_F_Reader_is_at_end : F_Reader_is_at_end.fresh = false := rfl
@[simp] theorem dv_F_Reader_is_at_end : F_Reader_is_at_end.dv 0 = [] := rfl
@[simp] theorem pl_F_Reader_finish : F_Reader_finish.plain = true := rfl
@[simp] theorem cl_F_Reader_finish : F_Reader_finish.cls = some "Reader" := rfl
@[simp] theorem own_F_Reader_finish : F_Reader_finish.own = [false] := rfl
@[simp] theorem fr_F_Reader_finish : F_Reader_finish.fresh = false := rfl
@[simp] theorem dv_F_Reader_finish : F_Reader_finish.dv 0 = [] := rfl
@[simp] theorem pl_F_read_river : F_read_river.plain = true := rfl
@[simp] theorem dv_F_read_river : F_read_river.dv 0 = [] := rfl
@[simp] theorem pl_F_l_river_text : F_l_river_text.plain = true := rfl
@[simp] theorem dv_F_l_river_text : F_l_river_text.dv 0 = [] := rfl
@[simp] theorem pl_F_l_path : F_l_path.plain = true := rfl
@[simp] theorem dv_F_l_path : F_l_path.dv 0 = [] := rfl
@[simp] theorem pl_F_l_right : F_l_right.plain = true := rfl
@[simp] theorem dv_F_l_right : F_l_right.dv 0 = [] := rfl
@[simp] theorem pl_F_l_rights : F_l_rights.plain = true := rfl
@[simp] theorem dv_F_l_rights : F_l_rights.dv 0 = [] := rfl
@[simp] theorem pl_F_l_leap : F_l_leap.plain = true := rfl
@[simp] theorem dv_F_l_leap : F_l_leap.dv 0 = [] := rfl
@[simp] theorem pl_F_l_length : F_l_length.plain = true := rfl
@[simp] theorem dv_F_l_length : F_l_length.dv 0 = [] := rfl
@[simp] theorem pl_F_l_fast : F_l_fast.plain = true := rfl
@[simp] theorem dv_F_l_fast : F_l_fast.dv 0 = [] := rfl
@[simp] theorem pl_F_l_date : F_l_date.plain = true := rfl
@[simp] theorem dv_F_l_date : F_l_date.dv 0 = [] := rfl
@[simp] theorem pl_F_l_right_text : F_l_right_text.plain = true := rfl
@[simp] theorem dv_F_l_right_text : F_l_right_text.dv 0 = [] := rfl
@[simp] theorem pl_F_Reader_take_one_of : F_Reader_take_one_of.plain = true := rfl
@[simp] theorem cl_F_Reader_take_one_of : F_Reader_take_one_of.cls = some "Reader" := rfl
@[simp] theorem own_F_Reader_take_one_of : F_Reader_take_one_of.own = [false, false] := rfl
@[simp] theorem fr_F_Reader_take_one_of : F_Reader_take_one_of.fresh = false := rfl
@[simp] theorem dv_F_Reader_take_one_of : F_Reader_take_one_of.dv 0 = [] := rfl
@[simp] theorem pl_F_River_places : F_River_places.plain = true := rfl
@[simp] theorem cl_F_River_places : F_River_places.cls = some "River" := rfl
@[simp] theorem own_F_River_places : F_River_places.own = [false] := rfl
@[simp] theorem fr_F_River_places : F_River_places.fresh = false := rfl
@[simp] theorem dv_F_River_places : F_River_places.dv 0 = [] := rfl
@[simp] theorem pl_F_Reader_take_known_name : F_Reader_take_known_name.plain = true := rfl
@[simp] theorem cl_F_Reader_take_known_name : F_Reader_take_known_name.cls = some "Reader" := rfl
@[simp] theorem own_F_Reader_take_known_name : F_Reader_take_known_name.own = [false, false] := rfl
@[simp] theorem fr_F_Reader_take_known_name : F_Reader_take_known_name.fresh = false := rfl
@[simp] theorem dv_F_Reader_take_known_name : F_Reader_take_known_name.dv 0 = [] := rfl
@[simp] theorem pl_F_River_check : F_River_check.plain = true := rfl
@[simp] theorem cl_F_River_check : F_River_check.cls = some "River" := rfl
@[simp] theorem own_F_River_check : F_River_check.own = [false, false] := rfl
@[simp] theorem fr_F_River_check : F_River_check.fresh = false := rfl
@[simp] theorem dv_F_River_check : F_River_check.dv 0 = [] := rfl
@[simp] theorem pl_F_River_path : F_River_path.plain = true := rfl
@[simp] theorem cl_F_River_path : F_River_path.cls = some "River" := rfl
@[simp] theorem own_F_River_path : F_River_path.own = [false, false] := rfl
@[simp] theorem fr_F_River_path : F_River_path.fresh = false := rfl
@[simp] theorem dv_F_River_path : F_River_path.dv 0 = [] := rfl
@[simp] theorem pl_F_River_is_near : F_River_is_near.plain = true := rfl
@[simp] theorem cl_F_River_is_near : F_River_is_near.cls = some "River" := rfl
@[simp] theorem own_F_River_is_near : F_River_is_near.own = [false, false, false] := rfl
@[simp] theorem fr_F_River_is_near : F_River_is_near.fresh = false := rfl
@[simp] theorem dv_F_River_is_near : F_River_is_near.dv 0 = [] := rfl
@[simp] theorem pl_F_parse_return : F_parse_return.plain = true := rfl
@[simp] theorem dv_F_parse_return : F_parse_return.dv 0 = [] := rfl
@[simp] theorem pl_F_Reader_take_date : F_Reader_take_date.plain = true := rfl
@[simp] theorem cl_F_Reader_take_date : F_Reader_take_date.cls = some "Reader" := rfl
@[simp] theorem own_F_Reader_take_date : F_Reader_take_date.own = [false] := rfl
@[simp] theorem fr_F_Reader_take_date : F_Reader_take_date.fresh = false := rfl
@[simp] theorem dv_F_Reader_take_date : F_Reader_take_date.dv 0 = [] := rfl
@[simp] theorem pl_F_parse_season : F_parse_season.plain = true := rfl
@[simp] theorem dv_F_parse_season : F_parse_season.dv 0 = [] := rfl
@[simp] theorem cl_F_Right_init : F_Right_init.cls = some "Right" := rfl
@[simp] theorem own_F_Right_init : F_Right_init.own = [true, false, false, false, false, false, false, false, false, false] := rfl
@[simp] theorem fr_F_Right_init : F_Right_init.fresh = false := rfl
@[simp] theorem dv_F_Right_init : F_Right_init.dv 0 = [] := rfl
@[simp] theorem cl_F_parse_right_o3 : F_parse_right_o3.cls = none := rfl
@[simp] theorem own_F_parse_right_o3 : F_parse_right_o3.own = [false, false, false, true] := rfl
@[simp] theorem fr_F_parse_right_o3 : F_parse_right_o3.fresh = false := rfl
@[simp] theorem dv_F_parse_right_o3 : F_parse_right_o3.dv 0 = [] := rfl
@[simp] theorem pl_F_parse_rights : F_parse_rights.plain = true := rfl
@[simp] theorem dv_F_parse_rights : F_parse_rights.dv 0 = [] := rfl
@[simp] theorem pl_F_read_rights : F_read_rights.plain = true := rfl
@[simp] theorem dv_F_read_rights : F_read_rights.dv 0 = [] := rfl
@[simp] theorem dv1_F_read_rights : F_read_rights.dv 1 = [(.tup [])] := rfl
@[simp] theorem pl_F_l_all_rights : F_l_all_rights.plain = true := rfl
@[simp] theorem dv_F_l_all_rights : F_l_all_rights.dv 0 = [] := rfl
@[simp] theorem pl_F_l_water : F_l_water.plain = true := rfl
@[simp] theorem dv_F_l_water : F_l_water.dv 0 = [] := rfl
@[simp] theorem pl_F_l_flows : F_l_flows.plain = true := rfl
@[simp] theorem dv_F_l_flows : F_l_flows.dv 0 = [] := rfl
@[simp] theorem pl_F_River_has_place : F_River_has_place.plain = true := rfl
@[simp] theorem cl_F_River_has_place : F_River_has_place.cls = some "River" := rfl
@[simp] theorem own_F_River_has_place : F_River_has_place.own = [false, false] := rfl
@[simp] theorem fr_F_River_has_place : F_River_has_place.fresh = false := rfl
@[simp] theorem dv_F_River_has_place : F_River_has_place.dv 0 = [] := rfl
@[simp] theorem pl_F_check_places : F_check_places.plain = true := rfl
@[simp] theorem dv_F_check_places : F_check_places.dv 0 = [] := rfl
@[simp] theorem pl_F_check_amount : F_check_amount.plain = true := rfl
@[simp] theorem dv_F_check_amount : F_check_amount.dv 0 = [] := rfl
@[simp] theorem pl_F_check_amounts : F_check_amounts.plain = true := rfl
@[simp] theorem dv_F_check_amounts : F_check_amounts.dv 0 = [] := rfl
@[simp] theorem pl_F_check_situation : F_check_situation.plain = true := rfl
@[simp] theorem dv_F_check_situation : F_check_situation.dv 0 = [] := rfl
@[simp] theorem pl_F_Stream_rows : F_Stream_rows.plain = true := rfl
@[simp] theorem cl_F_Stream_rows : F_Stream_rows.cls = some "Stream" := rfl
@[simp] theorem own_F_Stream_rows : F_Stream_rows.own = [false] := rfl
@[simp] theorem fr_F_Stream_rows : F_Stream_rows.fresh = false := rfl
@[simp] theorem dv_F_Stream_rows : F_Stream_rows.dv 0 = [] := rfl
@[simp] theorem pl_F_River_order : F_River_order.plain = true := rfl
@[simp] theorem cl_F_River_order : F_River_order.cls = some "River" := rfl
@[simp] theorem own_F_River_order : F_River_order.own = [false] := rfl
@[simp] theorem fr_F_River_order : F_River_order.fresh = false := rfl
@[simp] theorem dv_F_River_order : F_River_order.dv 0 = [] := rfl
@[simp] theorem pl_F_Stream_init : F_Stream_init.plain = true := rfl
@[simp] theorem cl_F_Stream_init : F_Stream_init.cls = some "Stream" := rfl
@[simp] theorem own_F_Stream_init : F_Stream_init.own = [false, false, false, false] := rfl
@[simp] theorem fr_F_Stream_init : F_Stream_init.fresh = false := rfl
@[simp] theorem dv_F_Stream_init : F_Stream_init.dv 0 = [] := rfl
@[simp] theorem pl_F_Right_gives_back : F_Right_gives_back.plain = true := rfl
@[simp] theorem cl_F_Right_gives_back : F_Right_gives_back.cls = some "Right" := rfl
@[simp] theorem own_F_Right_gives_back : F_Right_gives_back.own = [false, false] := rfl
@[simp] theorem fr_F_Right_gives_back : F_Right_gives_back.fresh = false := rfl
@[simp] theorem dv_F_Right_gives_back : F_Right_gives_back.dv 0 = [] := rfl
@[simp] theorem pl_F_Stream_give : F_Stream_give.plain = true := rfl
@[simp] theorem cl_F_Stream_give : F_Stream_give.cls = some "Stream" := rfl
@[simp] theorem own_F_Stream_give : F_Stream_give.own = [false, false, false] := rfl
@[simp] theorem fr_F_Stream_give : F_Stream_give.fresh = false := rfl
@[simp] theorem dv_F_Stream_give : F_Stream_give.dv 0 = [] := rfl
@[simp] theorem pl_F_River_next_of : F_River_next_of.plain = true := rfl
@[simp] theorem cl_F_River_next_of : F_River_next_of.cls = some "River" := rfl
@[simp] theorem own_F_River_next_of : F_River_next_of.own = [false, false] := rfl
@[simp] theorem fr_F_River_next_of : F_River_next_of.fresh = false := rfl
@[simp] theorem dv_F_River_next_of : F_River_next_of.dv 0 = [] := rfl
@[simp] theorem pl_F_River_loss_of : F_River_loss_of.plain = true := rfl
@[simp] theorem cl_F_River_loss_of : F_River_loss_of.cls = some "River" := rfl
@[simp] theorem own_F_River_loss_of : F_River_loss_of.own = [false, false] := rfl
@[simp] theorem fr_F_River_loss_of : F_River_loss_of.fresh = false := rfl
@[simp] theorem dv_F_River_loss_of : F_River_loss_of.dv 0 = [] := rfl
@[simp] theorem pl_F_Stream_run : F_Stream_run.plain = true := rfl
@[simp] theorem cl_F_Stream_run : F_Stream_run.cls = some "Stream" := rfl
@[simp] theorem own_F_Stream_run : F_Stream_run.own = [false] := rfl
@[simp] theorem fr_F_Stream_run : F_Stream_run.fresh = false := rfl
@[simp] theorem dv_F_Stream_run : F_Stream_run.dv 0 = [] := rfl
@[simp] theorem pl_F_stream_of : F_stream_of.plain = true := rfl
@[simp] theorem dv_F_stream_of : F_stream_of.dv 0 = [] := rfl
@[simp] theorem pl_F_flows : F_flows.plain = true := rfl
@[simp] theorem dv_F_flows : F_flows.dv 0 = [] := rfl
@[simp] theorem dv1_F_flows : F_flows.dv 1 = [.non] := rfl
@[simp] theorem pl_F_Stream_is_possible : F_Stream_is_possible.plain = true := rfl
@[simp] theorem cl_F_Stream_is_possible : F_Stream_is_possible.cls = some "Stream" := rfl
@[simp] theorem own_F_Stream_is_possible : F_Stream_is_possible.own = [false] := rfl
@[simp] theorem fr_F_Stream_is_possible : F_Stream_is_possible.fresh = false := rfl
@[simp] theorem dv_F_Stream_is_possible : F_Stream_is_possible.dv 0 = [] := rfl
@[simp] theorem pl_F_is_possible : F_is_possible.plain = true := rfl
@[simp] theorem dv_F_is_possible : F_is_possible.dv 0 = [] := rfl
@[simp] theorem dv1_F_is_possible : F_is_possible.dv 1 = [.non] := rfl
@[simp] theorem pl_F_l_told : F_l_told.plain = true := rfl
@[simp] theorem dv_F_l_told : F_l_told.dv 0 = [] := rfl
@[simp] theorem pl_F_l_whole : F_l_whole.plain = true := rfl
@[simp] theorem dv_F_l_whole : F_l_whole.dv 0 = [] := rfl
@[simp] theorem pl_F_l_possible : F_l_possible.plain = true := rfl
@[simp] theorem dv_F_l_possible : F_l_possible.dv 0 = [] := rfl
@[simp] theorem pl_F_law : F_law.plain = true := rfl
@[simp] theorem dv_F_law : F_law.dv 0 = [] := rfl
end Wb

namespace Wb
open PySem PySem.Spec PyProof.Rows
@[simp] theorem pl_letter : F_is_letter.plain = true := rfl
@[simp] theorem pl_digit : F_is_digit.plain = true := rfl
@[simp] theorem dv_letter : F_is_letter.dv 0 = [] := rfl
@[simp] theorem dv_digit : F_is_digit.dv 0 = [] := rfl
@[simp] theorem pl_isname : F_is_name.plain = true := rfl
@[simp] theorem dv_isname : F_is_name.dv 0 = [] := rfl
def letter (c : Nat) : Bool := decide (97 ≤ c) && decide (c ≤ 122)
/-- the two judgements of a text -/
def goodL (l : List Nat) : Bool := decide (1 ≤ l.length) && (decide (l.length ≤ 12) && (letter (l.getD 0 0) && l.all fun c => letter c || digit c))
end Wb

namespace Wb
open PySem PySem.Spec PyProof.Rows
@[simp] theorem plc_a : F_l_cell.plain = true := rfl
@[simp] theorem dvc_a : F_l_cell.dv 0 = [] := rfl
end Wb

namespace Wb
open PySem PySem.Spec PyProof.Rows
@[simp] theorem pl_draw : F_l_draw.plain = true := rfl
@[simp] theorem dv_draw : F_l_draw.dv 0 = [] := rfl
/-- the numbers that are drawn -/
def Drawn (lims row : List Int) : Prop := row.length ≤ lims.length ∧ ∀ k (h : k < row.length) (h' : k < lims.length), 0 ≤ row[k] ∧ row[k] < lims[k]
end Wb

namespace Wb
open PySem PySem.Spec PyProof.Rows
@[simp] theorem plw_a : F_l_whole.plain = true := rfl
@[simp] theorem dvw_a : F_l_whole.dv 0 = [] := rfl
end Wb

namespace Wb
open PySem PySem.Spec PyProof.Rows
section
variable {env : Env} {S : Store}
@[simp] theorem io_nil : ioArgs [] [] env S = .ok [] S := by rw [ioArgs]
@[simp] theorem io_inr {e : E} {as : List (Nat ⊕ E)} {bs : List Bool} : ioArgs (.inr e :: as) (false :: bs) env S = (ev .V e env S).bind fun w S => (ioArgs as bs env S).bind fun ws S => .ok (w :: ws) S := by rw [ioArgs]
@[simp] theorem io_inl {i : Nat} {as : List (Nat ⊕ E)} {bs : List Bool} : ioArgs (.inl i :: as) (true :: bs) env S = match env.at i with
    | some (.o, w) => (ioArgs as bs env S).bind fun ws S => .ok (w :: ws) S
    | _ => .bad := by first | (rw [ioArgs]; done) | (rw [ioArgs]; rfl)
@[simp] theorem iob_nil {ws : List W} : ioBack [] ws env = env := by rw [ioBack] <;> simp
@[simp] theorem iob_inr {e : E} {as : List (Nat ⊕ E)} {ws : List W} : ioBack (.inr e :: as) ws env = ioBack as ws env := by rw [ioBack]
@[simp] theorem iob_inl {i : Nat} {as : List (Nat ⊕ E)} {w : W} {ws : List W} : ioBack (.inl i :: as) (w :: ws) env = ioBack as ws (env.put i (.o, w)) := by rw [ioBack]
@[simp] theorem ioe_none {as : List (Nat ⊕ E)} {r : W × List W} {S : Store} : ioEnd none as (.ok r S) env = .nx (ioBack as r.2 env) S := id rfl
@[simp] theorem ioe_some {i : Nat} {as : List (Nat ⊕ E)} {r : W × List W} {S : Store} : ioEnd (some i) as (.ok r S) env = .nx ((ioBack as r.2 env).put i (.v, r.1)) S := id rfl
@[simp] theorem ioe_exn {t : Option Nat} {as : List (Nat ⊕ E)} {c : Str} {fs : List (Str × W)} {S : Store} : ioEnd t as (.exn c fs S) env = .exn c fs (ioGone as env) S := id rfl
end
end Wb

namespace Wb
open PySem PySem.Spec PyProof.Rows
def leapB (y : Int) : Bool := decide (y % 4 = 0) && (!decide (y % 100 = 0) || decide (y % 400 = 0))
def mlen (y m : Int) : Int := if m = 2 then (if leapB y then 29 else 28) else if m = 4 ∨ m = 6 ∨ m = 9 ∨ m = 11 then 30 else 31
def ys (y : Int) : Int := 365 * (y - 2000) + (y - 2000 + 3) / 4 - (y - 2000 + 99) / 100 + (y - 2000 + 399) / 400
/-- the days of the first k months -/
def cum (y : Int) : Nat → Int
  | 0 => 0
  | k + 1 => cum y k + mlen y ((k : Int) + 1)
theorem mlen_lo (y m : Int) : 28 ≤ mlen y m := by
  unfold mlen
  split
  · split <;> omega
  · split <;> omega
theorem cum_mono (y : Int) {j k : Nat} (h : j ≤ k) : cum y j ≤ cum y k := by
  induction k with
  | zero => have : j = 0 := by omega
            subst this; exact Int.le_refl _
  | succ k ih =>
    by_cases e : j = k + 1
    · subst e; exact Int.le_refl _
    · have := ih (by omega)
      have := mlen_lo y ((k : Int) + 1)
      show cum y j ≤ cum y k + mlen y ((k : Int) + 1)
      omega
theorem ys_succ {y : Int} (h : 2000 ≤ y) : ys (y + 1) = ys y + 365 + (if leapB y then 1 else 0) := by
  unfold ys leapB
  by_cases h4 : y % 4 = 0
  · by_cases h100 : y % 100 = 0
    · by_cases h400 : y % 400 = 0
      · simp [h4, h100, h400]; omega
      · simp [h4, h100, h400]; omega
    · simp [h4, h100]; omega
  · simp [h4]; omega
theorem ys_mono {a b : Int} (h0 : 2000 ≤ a) (h : a ≤ b) : ys a ≤ ys b := by
  unfold ys; omega
theorem cum12 (y : Int) : cum y 12 = 365 + (if leapB y then 1 else 0) := by
  simp [cum, mlen]
  split <;> omega
/-- day is the d-th of month k + 1 of the year y -/
structure IsDate (day y : Int) (k : Nat) (d : Int) : Prop where
  y0 : 2000 ≤ y
  y1 : y ≤ 2199
  k1 : k < 12
  d0 : 1 ≤ d
  d1 : d ≤ mlen y ((k : Int) + 1)
  eq : day = ys y + cum y k + d - 1
theorem IsDate.lt {day y d : Int} {k : Nat} (h : IsDate day y k d) : day < ys (y + 1) := by
  have e := h.eq
  have h1 : cum y (k + 1) ≤ cum y 12 := cum_mono y (by have := h.k1; omega)
  have h2 : cum y (k + 1) = cum y k + mlen y ((k : Int) + 1) := rfl
  have := h.d1
  rw [ys_succ h.y0, Int.add_assoc, ← cum12]
  omega
theorem IsDate.ge {day y d : Int} {k : Nat} (h : IsDate day y k d) : ys y ≤ day := by
  have e := h.eq
  have h1 : cum y 0 ≤ cum y k := cum_mono y (by omega)
  have h2 : cum y 0 = 0 := rfl
  have := h.d0
  omega
theorem cum_find (y r : Int) : ∀ n : Nat, 0 ≤ r → r < cum y n → ∃ k, k < n ∧ cum y k ≤ r ∧ r < cum y (k + 1)
  | 0, h0, h => by have : cum y 0 = 0 := rfl
                   omega
  | n + 1, h0, h => by
    by_cases q : r < cum y n
    · obtain ⟨k, a, b, c⟩ := cum_find y r n h0 q
      exact ⟨k, by omega, b, c⟩
    · exact ⟨n, by omega, by omega, h⟩
theorem year_find {day : Int} (h0 : 0 ≤ day) (h1 : day ≤ 73048) : ∃ y, 2000 ≤ y ∧ y ≤ 2199 ∧ (y = 2000 + day / 366 ∨ y = 2000 + day / 366 + 1) ∧ ys y ≤ day ∧ day < ys (y + 1) := by
  by_cases q : ys (2000 + day / 366 + 1) ≤ day
  · refine ⟨2000 + day / 366 + 1, by omega, ?_, .inr rfl, q, ?_⟩
    · unfold ys at q; omega
    · unfold ys; omega
  · refine ⟨2000 + day / 366, by omega, by omega, .inl rfl, ?_, by omega⟩
    unfold ys; omega
theorem date_find {day : Int} (h0 : 0 ≤ day) (h1 : day ≤ 73048) : ∃ y k d, IsDate day y k d ∧ (y = 2000 + day / 366 ∨ y = 2000 + day / 366 + 1) := by
  obtain ⟨y, a, b, c, e, f⟩ := year_find h0 h1
  rw [ys_succ a, Int.add_assoc, ← cum12] at f
  obtain ⟨k, g1, g2, g3⟩ := cum_find y (day - ys y) 12 (by omega) (by omega)
  have g4 : cum y (k + 1) = cum y k + mlen y ((k : Int) + 1) := rfl
  exact ⟨y, k, day - ys y - cum y k + 1, ⟨a, b, g1, by omega, by omega, by omega⟩, c⟩
end Wb

namespace Wb
open PySem PySem.Spec PyProof.Rows
@[simp] theorem pl00_a : F_l_leap.plain = true := rfl
@[simp] theorem dv00_a : F_l_leap.dv 0 = [] := rfl
@[simp] theorem pl00_b : F_l_length.plain = true := rfl
@[simp] theorem dv00_b : F_l_length.dv 0 = [] := rfl
@[simp] theorem pl00_c : F_is_leap.plain = true := rfl
@[simp] theorem dv00_c : F_is_leap.dv 0 = [] := rfl
@[simp] theorem pl00_d : F_month_length.plain = true := rfl
@[simp] theorem dv00_d : F_month_length.dv 0 = [] := rfl
@[simp] theorem pl00_e : F_year_start.plain = true := rfl
@[simp] theorem dv00_e : F_year_start.dv 0 = [] := rfl
@[simp] theorem pl00_f : F_l_fast.plain = true := rfl
@[simp] theorem dv00_f : F_l_fast.dv 0 = [] := rfl
end Wb

namespace Wb
open PySem PySem.Spec PyProof.Rows
def dateW (y : Int) (k : Nat) (d : Int) : W := .tup [.int y, .int ((k : Int) + 1), .int d]
end Wb

namespace Wb
open PySem PySem.Spec PyProof.Rows
@[simp] theorem pl00_h : F_check_between.plain = true := rfl
@[simp] theorem dv00_h : F_check_between.dv 0 = [] := rfl
@[simp] theorem pl00_j : F_l_date.plain = true := rfl
@[simp] theorem dv00_j : F_l_date.dv 0 = [] := rfl
@[simp] theorem pl00_k : F_day_number.plain = true := rfl
@[simp] theorem dv00_k : F_day_number.dv 0 = [] := rfl
@[simp] theorem pl00_n : F_read_date.plain = true := rfl
@[simp] theorem dv00_n : F_read_date.dv 0 = [] := rfl
@[simp] theorem pl00_o : F_is_date.plain = true := rfl
@[simp] theorem dv00_o : F_is_date.dv 0 = [] := rfl
@[simp] theorem pl00_p : F_is_written.plain = true := rfl
@[simp] theorem dv00_p : F_is_written.dv 0 = [] := rfl
def d4 (y : Int) : List Nat := [50, 48 + (y / 100 % 10).toNat, 48 + (y / 10 % 10).toNat, 48 + (y % 10).toNat]
def d2 (m : Int) : List Nat := [48 + (m / 10).toNat, 48 + (m % 10).toNat]
/-- a date, written -/
def dateL (y : Int) (k : Nat) (d : Int) : List Nat := d4 y ++ [45] ++ d2 ((k : Int) + 1) ++ [45] ++ d2 d
end Wb

namespace Wb
open PySem PySem.Spec PyProof.Rows
def okAt (l : List Nat) (i : Nat) : Bool := if i = 4 ∨ i = 7 then decide (l.getD i 0 = 45) else digit (l.getD i 0)
def writtenB (l : List Nat) : Bool := decide (l.length = 10) && (List.range 10).all (okAt l)
end Wb

namespace Wb
open PySem PySem.Spec PyProof.Rows
end Wb

namespace Wb
open PySem PySem.Spec PyProof.Rows
def eOut (v : Int) : List (Str × W) := [("value", .int v), ("label", .str "OutOfRange")]
def eDay (v : Int) : List (Str × W) := [("day", .int v), ("label", .str "WrongDay")]
def eTxt (l c : Int) (r : Str) : List (Str × W) := [("reason", .str r), ("column", .int c), ("line", .int l), ("label", .str "BadText")]
@[simp] theorem xv_o (v : Int) : X_OutOfRange.vals [.int v] = eOut v := id rfl
@[simp] theorem xv_b (l c : Int) (r : Str) : X_BadText.vals [.int l, .int c, .str r] = eTxt l c r := id rfl
def badD : W := .tup [.int 1, .int 1, .str (sx [100, 97, 116, 101])]
end Wb

namespace Wb
open PySem PySem.Spec PyProof.Rows
def lenv (a b c d e f g h i j k l m n : Option (Flag × W)) : Env := [a, b, c, d, e, f, g, h, i, j, k, l, m, n]
def vv (w : W) : Option (Flag × W) := some (.v, w)
/-- what is due -/
def dueW (y m d : Int) : W := if y < 2000 ∨ 2199 < y then .tup [.str (sx [114, 97, 110, 103, 101]), .int y] else if m < 1 ∨ 12 < m then .tup [.str (sx [114, 97, 110, 103, 101]), .int m] else if d < 1 ∨ mlen y m < d then .tup [.str (sx [114, 97, 110, 103, 101]), .int d] else .tup [.str (sx [118, 97, 108, 117, 101]), .int (ys y + cum y (m - 1).toNat + d - 1)]
end Wb

namespace Wb
open PySem PySem.Spec PyProof.Rows
theorem IsDate.day {day y d : Int} {k : Nat} (h : IsDate day y k d) : (0 ≤ day ∧ day ≤ 73048) ∧ (y = 2000 + day / 366 ∨ y = 2000 + day / 366 + 1) := by
  have h1 := h.lt
  have h2 := h.ge
  have h3 : ys 2000 ≤ ys y := ys_mono (by omega) h.y0
  have h4 : ys (y + 1) ≤ ys 2200 := ys_mono (by have := h.y0; omega) (by have := h.y1; omega)
  have e1 : ys 2000 = 0 := by decide
  have e2 : ys 2200 = 73049 := by decide
  have hq : 0 ≤ day ∧ day ≤ 73048 := by omega
  refine ⟨hq, ?_⟩
  obtain ⟨y', k', d', h', hy'⟩ := date_find hq.1 hq.2
  have e : y = y' := by
    have g1 := h'.lt
    have g2 := h'.ge
    rcases Int.lt_trichotomy y y' with c | c | c
    · have := ys_mono (a := y + 1) (b := y') (by have := h.y0; omega) (by omega)
      omega
    · exact c
    · have := ys_mono (a := y' + 1) (b := y) (by have := h'.y0; omega) (by omega)
      omega
  rw [e]
  exact hy'
def inS (f l m : Int) : Bool := if f ≤ l then decide (f ≤ m) && decide (m ≤ l) else decide (f ≤ m) || decide (m ≤ l)
/-- the law's own months -/
def monthsL (f l : Int) : List Int := (List.range ((l - f) % 12 + 1).toNat).map fun i : Nat => (f + (i : Int) - 1) % 12 + 1
end Wb

namespace Wb
open PySem PySem.Spec PyProof.Rows
@[simp] theorem pl_anyl : F_is_any_letter.plain = true := rfl
@[simp] theorem dv_anyl : F_is_any_letter.dv 0 = [] := rfl
@[simp] theorem pl_runend : F_is_run_end.plain = true := rfl
@[simp] theorem dv_runend : F_is_run_end.dv 0 = [] := rfl
@[simp] theorem pl_rundig : F_run_of_digits.plain = true := rfl
@[simp] theorem dv_rundig : F_run_of_digits.dv 0 = [] := rfl
@[simp] theorem pl_runlet : F_run_of_letters.plain = true := rfl
@[simp] theorem dv_runlet : F_run_of_letters.dv 0 = [] := rfl
@[simp] theorem pl_numdig : F_number_of_digits.plain = true := rfl
@[simp] theorem dv_numdig : F_number_of_digits.dv 0 = [] := rfl
@[simp] theorem pl_tokdig : F_token_of_digits.plain = true := rfl
@[simp] theorem dv_tokdig : F_token_of_digits.dv 0 = [] := rfl
@[simp] theorem pl_tokat : F_token_at.plain = true := rfl
@[simp] theorem dv_tokat : F_token_at.dv 0 = [] := rfl
def anyL (c : Nat) : Bool := letter c || (decide (65 ≤ c) && decide (c ≤ 90))
/-- no letter, digit or dash is next -/
def runEnd : List Nat → Bool
  | [] => true
  | c :: _ => !anyL c && (!digit c && !decide (c = 45))
def wOf (pr : Nat → Bool) (l : List Nat) (a : Nat) : Nat := a + ((l.drop a).takeWhile pr).length
def ald (c : Nat) : Bool := letter c || digit c
end Wb

namespace Wb
open PySem PySem.Spec PyProof.Rows
def numD (s : List Nat) : W := if 10 < s.length ∨ (1 < s.length ∧ s.head? = some 48) then .non else if 1000000000 < NumText.digitsVal s then .non else .int (NumText.digitsVal s : Nat)
/-- a run of digits that is no date -/
def tokD (r : List Nat) (a : Nat) : W := if isNon (numD (r.takeWhile digit)) = true ∨ ((r.dropWhile digit).head?.map anyL) = some true then .non else .tup [.str (sx [110, 117, 109, 98, 101, 114]), numD (r.takeWhile digit), .int ((a + (r.takeWhile digit).length : Nat) : Int)]
end Wb

namespace Wb
open PySem PySem.Spec PyProof.Rows
@[simp] theorem pl_isdate : F_is_date.plain = true := rfl
@[simp] theorem dv_isdate : F_is_date.dv 0 = [] := rfl
def signs : List Nat := [123, 125, 40, 41, 59, 44, 58, 61]
/-- what stands at a place of a line -/
def TokAt (l : List Nat) (a : Nat) (w : W) : Prop := ∀ S, F_token_at.sem S [.str (sx l), .int a] = .ok (w, []) S
section
variable {l : List Nat} (hl : l.length ≤ sizeL) (hv : ∀ c ∈ l, c < 1114112) {a : Nat} (ha : a < l.length)
include hl hv ha
end
/-- the tokens of a line from a place on, and the column of a fault (or 0) -/
inductive LineR (l : List Nat) (n : Int) : Nat → List W → Nat → Prop where
  | fin {i : Nat} (h : l.length ≤ i) : LineR l n i [] 0
  | hash {i : Nat} (h : l[i]? = some 35) : LineR l n i [] 0
  | space {i : Nat} {ts : List W} {c : Nat} (h : l[i]? = some 32) (r : LineR l n (i + 1) ts c) : LineR l n i ts c
  | tok {i e x : Nat} {k v : W} {ts : List W} {c : Nat} (h : l[i]? = some x) (h1 : x ≠ 35) (h2 : x ≠ 32) (t : TokAt l i (.tup [k, v, .int e])) (he : i < e) (r : LineR l n e ts c) : LineR l n i (.tup [k, v, .int n, .int ((i : Int) + 1)] :: ts) c
  | bad {i x : Nat} (h : l[i]? = some x) (h1 : x ≠ 35) (h2 : x ≠ 32) (t : TokAt l i .non) : LineR l n i [] (i + 1)
abbrev lineE (l : List Nat) (n : Int) (found : List W) (i : Nat) (x : Option (Flag × W)) : Env := [some (.v, .str (sx l)), some (.v, .int n), some (.o, .lst found), some (.v, .int i), x]
def slC : E := .cmp .lt (.var 3) (.bcall .len [(.var 0)])
def slB : List S := [.ife (.cmp .eq (.sub (.var 0) (.var 3)) (.cst (.str (sx [35])))) [.ret (.cst (.int 0))] [], .ife (.cmp .eq (.sub (.var 0) (.var 3)) (.cst (.str (sx [32])))) [.aug 3 .add (.cst (.int 1))] [.asg 4 (.call F_token_at [(.var 0), (.var 3)] 0), .ife (.cmp .isN (.var 4) (.cst .non)) [.ret (.bin .add (.var 3) (.cst (.int 1)))] [], .app (.slot 2) (.tup [(.sub (.var 4) (.cst (.int 0))), (.sub (.var 4) (.cst (.int 1))), (.var 1), (.bin .add (.var 3) (.cst (.int 1)))]), .asg 3 (.sub (.var 4) (.cst (.int 2)))]]
section
variable {l : List Nat} (hl : l.length ≤ sizeL) (hv : ∀ c ∈ l, c < 1114112) {n : Int} {S : Store}
include hl
include hv
end
end Wb

namespace Wb
open PySem PySem.Spec PyProof.Rows
@[simp] theorem pl_scan : F_scan.plain = true := rfl
@[simp] theorem dv_scan : F_scan.dv 0 = [] := rfl
@[simp] theorem own_sl : F_scan_line.own = [false, false, true] := rfl
@[simp] theorem fr_sl : F_scan_line.fresh = false := rfl
/-- the lines of a text -/
def linesOf (l : List Nat) : List (List Nat) := TL.spl [10] 0 [] l
def tokE (k : Str) (v : W) (n c : Int) : W := .tup [.str k, v, .int n, .int c]
/-- lines without a fault -/
inductive LinesR : Int → List (List Nat) → List W → Prop where
  | nil (n : Int) : LinesR n [] []
  | cons {n : Int} {h : List Nat} {t : List (List Nat)} {ts1 ts2 : List W} (a : LineR h n 0 ts1 0) (hl : h.length ≤ sizeL) (hv : ∀ c ∈ h, c < 1114112) (r : LinesR (n + 1) t ts2) : LinesR n (h :: t) (ts1 ++ ts2)
/-- lines, up to the first fault -/
inductive LinesF : Int → List (List Nat) → List W → Prop where
  | here {n : Int} {h : List Nat} {t : List (List Nat)} {ts1 : List W} {c : Nat} (a : LineR h n 0 ts1 (c + 1)) (hl : h.length ≤ sizeL) (hv : ∀ c ∈ h, c < 1114112) : LinesF n (h :: t) (ts1 ++ [tokE (sx [102, 97, 117, 108, 116]) (.str (sx [])) n (c + 1)])
  | there {n : Int} {h : List Nat} {t : List (List Nat)} {ts1 ts2 : List W} (a : LineR h n 0 ts1 0) (hl : h.length ≤ sizeL) (hv : ∀ c ∈ h, c < 1114112) (r : LinesF (n + 1) t ts2) : LinesF n (h :: t) (ts1 ++ ts2)
abbrev scanE (a b : Option (Flag × W)) (found : List W) (n : Int) (x y : Option (Flag × W)) : Env := [a, b, some (.o, .lst found), some (.v, .int n), x, y]
def scB : List S := [.aug 3 .add (.cst (.int 1)), .callO (some 5) F_scan_line [.inr (.var 4), .inr (.var 3), .inl 2], .ife (.cmp .gt (.var 5) (.cst (.int 0))) [.app (.slot 2) (.tup [(.cst (.str (sx [102, 97, 117, 108, 116]))), (.cst (.str (sx []))), (.var 3), (.var 5)]), .frz 2, .ret (.var 2)] []]
section
variable {S : Store} {a b x y : Option (Flag × W)} {found : List W} {n : Int} {h : List Nat} {ts : List W}
end
end Wb

namespace Wb
open PySem PySem.Spec PyProof.Rows
/-- what is left of the line -/
def lineOf (l : List Nat) : List Nat := l.takeWhile fun c => decide (c ≠ 10)
def restOf : List Nat → List (List Nat)
  | [] => []
  | c :: r => if c = 10 then linesOf r else restOf r
theorem line_ne {c : Nat} (h : c ≠ 10) (r : List Nat) : lineOf (c :: r) = c :: lineOf r := by
  unfold lineOf
  rw [List.takeWhile_cons, decide_eq_true h]
  rfl
theorem line_app {s : List Nat} (h : 10 ∉ s) (r : List Nat) : lineOf (s ++ r) = s ++ lineOf r := by
  induction s with
  | nil => rfl
  | cons c s ih =>
    rw [List.mem_cons, not_or] at h
    rw [List.cons_append, line_ne (fun e => h.1 e.symm), ih h.2]
    rfl
theorem rest_app {s : List Nat} (h : 10 ∉ s) (r : List Nat) : restOf (s ++ r) = restOf r := by
  induction s with
  | nil => rfl
  | cons c s ih =>
    rw [List.mem_cons, not_or] at h
    rw [List.cons_append, restOf, if_neg (fun e => h.1 e.symm), ih h.2]
/-- a token s, ahead of r -/
def TokS (s r : List Nat) (k : Str) (v : W) : Prop := (∃ x, s.head? = some x ∧ x ≠ 35 ∧ x ≠ 32) ∧ 10 ∉ s ∧ ∀ pre : List Nat, (pre ++ (s ++ lineOf r)).length ≤ sizeL → (∀ c ∈ pre ++ (s ++ lineOf r), c < 1114112) → TokAt (pre ++ (s ++ lineOf r)) pre.length (.tup [.str k, v, .int (pre.length + s.length : Nat)])
/-- no token is ahead -/
def NoTok (l : List Nat) : Prop := (∃ x, l.head? = some x ∧ x ≠ 35 ∧ x ≠ 32 ∧ x ≠ 10) ∧ ∀ pre : List Nat, (pre ++ lineOf l).length ≤ sizeL → (∀ c ∈ pre ++ lineOf l, c < 1114112) → TokAt (pre ++ lineOf l) pre.length .non
/-- the tokens of a text from a place on -/
inductive TextR : List Nat → Int → Nat → List W → Prop where
  | fin (n : Int) (i : Nat) : TextR [] n i [tokE (sx [101, 110, 100]) (.str (sx [])) n (i + 1)]
  | nl {r : List Nat} {n : Int} {i : Nat} {ts : List W} (h : TextR r (n + 1) 0 ts) : TextR (10 :: r) n i ts
  | sp {r : List Nat} {n : Int} {i : Nat} {ts : List W} (h : TextR r n (i + 1) ts) : TextR (32 :: r) n i ts
  | com {s r : List Nat} {n : Int} {i : Nat} {ts : List W} (hs : 10 ∉ s) (hr : r = [] ∨ r.head? = some 10) (h : TextR r n (i + (1 + s.length)) ts) : TextR (35 :: s ++ r) n i ts
  | tok {s r : List Nat} {n : Int} {i : Nat} {ts : List W} {k : Str} {v : W} (t : TokS s r k v) (h : TextR r n (i + s.length) ts) : TextR (s ++ r) n i (tokE k v n (i + 1) :: ts)
  | bad {l : List Nat} (n : Int) (i : Nat) (h : NoTok l) : TextR l n i [tokE (sx [102, 97, 117, 108, 116]) (.str (sx [])) n (i + 1)]
/-- what the walk by lines finds -/
def Fnd (pre l : List Nat) (n : Int) (ts : List W) : Prop :=
  (∃ ts1 ts2 last, ts = ts1 ++ (ts2 ++ [tokE (sx [101, 110, 100]) (.str (sx [])) (n + (restOf l).length) ((last : List Nat).length + 1)]) ∧ LineR (pre ++ lineOf l) n pre.length ts1 0 ∧ LinesR (n + 1) (restOf l) ts2 ∧ ((pre ++ lineOf l) :: restOf l).getLast? = some last) ∨
  (∃ ts1 c, ts = ts1 ++ [tokE (sx [102, 97, 117, 108, 116]) (.str (sx [])) n ((c : Nat) + 1)] ∧ LineR (pre ++ lineOf l) n pre.length ts1 (c + 1)) ∨
  (∃ ts1 ts2, ts = ts1 ++ ts2 ∧ LineR (pre ++ lineOf l) n pre.length ts1 0 ∧ LinesF (n + 1) (restOf l) ts2)
/-- one more sign of the line is behind -/
theorem Fnd.step {pre s r : List Nat} {n : Int} {ts ts0 : List W} (h10 : 10 ∉ s) (h : Fnd (pre ++ s) r n ts) (f : ∀ ts1 c, LineR (pre ++ (s ++ lineOf r)) n (pre.length + s.length) ts1 c → LineR (pre ++ (s ++ lineOf r)) n pre.length (ts0 ++ ts1) c) : Fnd pre (s ++ r) n (ts0 ++ ts) := by
  unfold Fnd at h ⊢
  rw [line_app h10, rest_app h10]
  rw [List.append_assoc, List.length_append] at h
  rcases h with ⟨ts1, ts2, last, rfl, h1, h2, h3⟩ | ⟨ts1, c, rfl, h1⟩ | ⟨ts1, ts2, rfl, h1, h2⟩
  · exact .inl ⟨ts0 ++ ts1, ts2, last, by rw [List.append_assoc], f _ _ h1, h2, h3⟩
  · exact .inr (.inl ⟨ts0 ++ ts1, c, by rw [List.append_assoc], f _ _ h1⟩)
  · exact .inr (.inr ⟨ts0 ++ ts1, ts2, by rw [List.append_assoc], f _ _ h1, h2⟩)
end Wb

namespace Wb
open PySem PySem.Spec PyProof.Rows
end Wb

namespace Wb
open PySem PySem.Spec PyProof.Rows
/-- the place behind a text -/
def aftN : Int × Nat → List Nat → Int × Nat
  | p, [] => p
  | p, c :: r => aftN (if c = 10 then (p.1 + 1, 0) else (p.1, p.2 + 1)) r
theorem aft_app : ∀ (a b : List Nat) (p : Int × Nat), aftN p (a ++ b) = aftN (aftN p a) b
  | [], b, p => rfl
  | c :: a, b, p => by rw [List.cons_append, aftN, aftN, aft_app a b]
theorem aft_no : ∀ {s : List Nat}, 10 ∉ s → ∀ p : Int × Nat, aftN p s = (p.1, p.2 + s.length)
  | [], _, p => rfl
  | c :: s, h, p => by
    rw [List.mem_cons, not_or] at h
    rw [aftN, if_neg (fun e => h.1 e.symm), aft_no h.2]
    simp
    omega
def plW (p : Int × Nat) : W := .tup [.int p.1, .int ((p.2 : Int) + 1)]
/-- ahead of what is left: tokens, and the place behind -/
def PreT (p : List Nat) (a : Int × Nat) (ts : List W) : Prop := ∀ r ts', TextR r (aftN a p).1 (aftN a p).2 ts' → TextR (p ++ r) a.1 a.2 (ts ++ ts')
theorem PreT.app {p q : List Nat} {a : Int × Nat} {ts us : List W} (h : PreT p a ts) (k : PreT q (aftN a p) us) : PreT (p ++ q) a (ts ++ us) := by
  intro r ts' hr
  rw [aft_app] at hr
  rw [List.append_assoc, List.append_assoc]
  exact h _ _ (k r ts' hr)
theorem PreT.nil (a : Int × Nat) : PreT [] a [] := fun _ _ h => h
theorem PreT.sp (a : Int × Nat) : PreT [32] a [] := fun r ts' h => .sp h
theorem PreT.nl (a : Int × Nat) : PreT [10] a [] := fun r ts' h => .nl h
theorem PreT.com (a : Int × Nat) {s : List Nat} (hs : 10 ∉ s) : PreT (35 :: s ++ [10]) a [] := fun r ts' h => by
  rw [aft_app, aft_no (s := 35 :: s) (by rw [List.mem_cons, not_or]; exact ⟨by decide, hs⟩)] at h
  rw [List.append_assoc]
  exact .com hs (.inr rfl) (.nl h)
def gaps : List (List Nat) := [[32], [32, 32], [10], [32, 35, 32, 97, 32, 53, 32, 59, 32, 64, 32, 33, 10], [10, 10, 32, 32, 32], [32, 32, 32]]
end Wb

namespace Wb
open PySem PySem.Spec PyProof.Rows
def small : List Nat := [97, 98, 99, 100, 101, 102, 103, 104, 105, 106, 107, 108, 109, 110, 111, 112, 113, 114, 115, 116, 117, 118, 119, 120, 121, 122, 48, 49, 50, 51, 52, 53, 54, 55, 56, 57]
/-- what the law asks of a token and its spelling -/
structure GoodT (k : Str) (v : W) (s : List Nat) : Prop where
  len : s.length ≤ 10
  ok : ∀ c ∈ s, c < 128
  kind : PyData.strOk k = true
  val : (∃ z, v = .str z ∧ PyData.strOk z = true) ∨ ∃ n : Int, v = .int n
  sign : k = (sx [115, 105, 103, 110]) → ∀ r, TokS s r k v
  tok : ∀ r : List Nat, (r = [] ∨ r.head? = some 32 ∨ r.head? = some 10) → TokS s r k v
end Wb

namespace Wb
open PySem PySem.Spec PyProof.Rows
/-- a token -/
inductive Tk where
  | word (s : List Nat) | num (n : Int) | date (d : Int) | sign (c : Nat) | fin | fault
  deriving DecidableEq
def Tk.kd : Tk → List Nat
  | .word _ => [119, 111, 114, 100]
  | .num _ => [110, 117, 109, 98, 101, 114]
  | .date _ => [100, 97, 116, 101]
  | .sign _ => [115, 105, 103, 110]
  | .fin => [101, 110, 100]
  | .fault => [102, 97, 117, 108, 116]
def Tk.val : Tk → W
  | .word s => .str (sx s)
  | .num n => .int n
  | .date d => .int d
  | .sign c => .str (sx [c])
  | .fin => .str (sx [])
  | .fault => .str (sx [])
def Tk.ok : Tk → Prop
  | .word s => ∀ c ∈ s, c < 1114112
  | .sign c => c < 1114112
  | _ => True
def Tk.ends : Tk → Bool
  | .fin => true
  | .fault => true
  | _ => false
/-- a token, its line, its column -/
abbrev PT := Tk × Int × Int
def tw (p : PT) : W := tokE (sx p.1.kd) p.1.val p.2.1 p.2.2
def rdC (L : List PT) (k : Nat) : Cell := ⟨"Reader", [("_tokens", (.v, .lst (L.map tw))), ("_at", (.v, .int k))]⟩
def upR (S : Store) (n : Nat) (L : List PT) (k : Nat) : Store := S.set n (rdC L k)
def nxt (p : PT) (k : Nat) : Nat := if p.1.ends then k else k + 1
section
variable {S : Store} {n : Nat} (hn : n < S.length) {L : List PT} {k : Nat} {p : PT}
include hn
end
@[simp] theorem tw_0 (p : PT) : subW (tw p) (.int 0) = some (.str (sx p.1.kd)) := sub_tup (k := 0) rfl
@[simp] theorem tw_1 (p : PT) : subW (tw p) (.int 1) = some p.1.val := sub_tup (k := 1) rfl
@[simp] theorem tw_2 (p : PT) : subW (tw p) (.int 2) = some (.int p.2.1) := sub_tup (k := 2) rfl
@[simp] theorem tw_3 (p : PT) : subW (tw p) (.int 3) = some (.int p.2.2) := sub_tup (k := 3) rfl
def isWord : Tk → Bool
  | .word _ => true
  | _ => false
def isNum : Tk → Bool
  | .num _ => true
  | _ => false
def isDate : Tk → Bool
  | .date _ => true
  | _ => false
def isSign : Tk → Bool
  | .sign _ => true
  | _ => false
section
variable {S : Store} {n : Nat} (hn : n < S.length) {L : List PT} {k : Nat} {p : PT} (hk : L[k]? = some p)
include hn hk
end
end Wb

namespace Wb
open PySem PySem.Spec PyProof.Rows
def badF (p : PT) (rs : List Nat) : List (Str × W) := X_BadText.vals [.int p.2.1, .int p.2.2, .str (sx (if p.1 = .fault then [116, 111, 107, 101, 110] else rs))]
section
variable {S : Store} {n : Nat} (hn : n < S.length) {L : List PT} {k : Nat} {p : PT} (hk : L[k]? = some p)
include hn hk
def syntaxL : List Nat := [115, 121, 110, 116, 97, 120]
def rangeL : List Nat := [114, 97, 110, 103, 101]
end
end Wb

namespace Wb
open PySem PySem.Spec PyProof.Rows
abbrev NV := List Nat × W
def dKv (kvs : List NV) : List (Key × W) := kvs.map fun p => (.inr (sx p.1), p.2)
def dK (kvs : List NV) : W := .dct (dKv kvs)
def names (kvs : List NV) : List (List Nat) := kvs.map (·.1)
theorem val_dK (kvs : List NV) (a : List Nat) : valW (dKv kvs) (.inr (sx a)) = (kvs.find? fun p => decide (p.1 = a)).map (·.2) := by
  unfold valW dKv
  rw [List.find?_map, Option.map_map]
  have e : ((fun kv : Key × W => decide (kv.1 = .inr (sx a))) ∘ fun p : NV => ((.inr (sx p.1) : Key), p.2)) = fun p : NV => decide (p.1 = a) := by
    funext p
    show decide ((Sum.inr (sx p.1) : Key) = Sum.inr (sx a)) = decide (p.1 = a)
    rw [decide_eq_decide]
    exact ⟨fun h => sx_inj.mp (by injection h), fun h => by rw [h]⟩
  rw [e]
  rfl
theorem isSome_dK (kvs : List NV) (a : List Nat) : (valW (dKv kvs) (.inr (sx a))).isSome = decide (a ∈ names kvs) := by
  rw [val_dK, Option.isSome_map, List.isSome_find?]
  by_cases h : a ∈ names kvs
  · rw [decide_eq_true h]
    obtain ⟨p, hp, e⟩ := List.mem_map.mp h
    exact List.any_eq_true.mpr ⟨p, hp, decide_eq_true e⟩
  · rw [decide_eq_false h]
    refine List.any_eq_false.mpr fun p hp => ?_
    rw [decide_eq_true_eq]
    exact fun e => h (List.mem_map.mpr ⟨p, hp, e⟩)
theorem sub_dK {kvs : List NV} {a : List Nat} {w : W} (h : (kvs.find? fun p => decide (p.1 = a)) = some (a, w)) : subW (dK kvs) (.str (sx a)) = some w := by
  show valW (dKv kvs) (.inr (sx a)) = _
  rw [val_dK, h]
  rfl
theorem put_new {kvs : List NV} {a : List Nat} {w : W} (h : a ∉ names kvs) : putW (dKv kvs) (.inr (sx a)) w = dKv (kvs ++ [(a, w)]) := by
  unfold putW
  rw [if_neg]
  · unfold dKv
    rw [List.map_append]
    rfl
  · have := isSome_dK kvs a
    unfold valW at this
    rw [Option.isSome_map, List.isSome_find?, decide_eq_false h] at this
    rw [this]
    simp
theorem set_new {kvs : List NV} {a : List Nat} {w : W} (h : a ∉ names kvs) (hl : kvs.length < sizeL) : setItW (dK kvs) (.str (sx a)) w = some (dK (kvs ++ [(a, w)])) := by
  show (if (dKv kvs).length < sizeL then some (W.dct (putW (dKv kvs) (.inr (sx a)) w)) else none) = _
  rw [if_pos (by unfold dKv; rw [List.length_map]; exact hl), put_new h]
  rfl
def keptL : List (List Nat) := [[114, 105, 103, 104, 116], [116, 97, 107, 101, 115], [107, 101, 101, 112, 115], [115, 116, 111, 114, 101, 115], [97, 116], [114, 101, 116, 117, 114, 110, 115], [116, 111], [102, 114, 111, 109], [119, 105, 116, 104, 105, 110], [121, 101, 97, 114, 108, 121], [106, 97, 110], [102, 101, 98], [109, 97, 114], [97, 112, 114], [109, 97, 121], [106, 117, 110], [106, 117, 108], [97, 117, 103], [115, 101, 112], [111, 99, 116], [110, 111, 118], [100, 101, 99], [112, 108, 97, 99, 101], [108, 111, 115, 115], [114, 101, 115, 101, 114, 118, 111, 105, 114], [104, 111, 108, 100, 115], [108, 111, 115, 101, 115], [114, 105, 118, 101, 114], [114, 101, 115, 101, 114, 118, 111, 105, 114, 115], [114, 105, 103, 104, 116, 115], [98, 101, 103, 105, 110], [115, 116, 111, 99, 107], [105, 110, 102, 108, 111, 119], [111, 110], [97, 115, 107], [111, 114, 100, 101, 114], [114, 101, 116, 105, 114, 101], [115, 117, 98, 111, 114, 100, 105, 110, 97, 116, 101], [117, 110, 100, 111], [115, 104, 97, 114, 101, 115], [115, 104, 111, 114, 116], [115, 117, 109, 115], [98, 117, 108, 108, 101, 116, 105, 110]]
def freeL (l : List Nat) : Bool := goodL l && !decide (l ∈ keptL)
end Wb

namespace Wb
open PySem PySem.Spec PyProof.Rows
def nameL : List Nat := [110, 97, 109, 101]
def twiceL : List Nat := [116, 119, 105, 99, 101]
def unknownL : List Nat := [117, 110, 107, 110, 111, 119, 110]
section
variable {S : Store} {n : Nat} (hn : n < S.length) {L : List PT} {k : Nat} {p : PT} (hk : L[k]? = some p)
include hn hk
/-- what take_new_name answers -/
def newA (p : PT) (taken : List NV) : List Nat ⊕ List Nat := match p.1 with
  | .word s => if freeL s = true then (if s ∈ names taken then .inr twiceL else .inl s) else .inr nameL
  | _ => .inr syntaxL
def knownA (p : PT) (known : List NV) : List Nat ⊕ List Nat := match p.1 with
  | .word s => if goodL s = true then (if s ∈ names known then .inl s else .inr unknownL) else .inr syntaxL
  | _ => .inr syntaxL
end
end Wb

namespace Wb
open PySem PySem.Spec PyProof.Rows
def placeL : List Nat := [112, 108, 97, 99, 101]
def toL : List Nat := [116, 111]
def lossL : List Nat := [108, 111, 115, 115]
/-- the tokens of a place -/
def plTk (s : List Nat) (lo : Option (List Nat)) (m : Int) : List Tk := [.word placeL, .word s] ++ ((match lo with
  | none => []
  | some t => [.word toL, .word t] ++ (if 0 < m then [.word lossL, .num m] else [])) ++ [.sign 59])
/-- the same, the loss told or not -/
def plTkB (s : List Nat) (lo : Option (List Nat)) (td : Bool) (m : Int) : List Tk := [.word placeL, .word s] ++ ((match lo with
  | none => []
  | some t => [.word toL, .word t] ++ (match td with | true => [.word lossL, .num m] | false => [])) ++ [.sign 59])
/-- the tokens ts lie at k -/
def TkAt (L : List PT) (k : Nat) (ts : List Tk) : Prop := ∀ j t, ts[j]? = some t → ∃ p, L[k + j]? = some p ∧ p.1 = t
def optS : Option (List Nat) → W
  | none => .non
  | some t => .str (sx t)
section
variable {S : Store} {n : Nat} (hn : n < S.length) {L : List PT} {k : Nat} {B Lo : List NV} {s : List Nat}
include hn
end
end Wb

namespace Wb
open PySem PySem.Spec PyProof.Rows
def dF (nm : Nat → List Nat) (N : Nat) (f : Nat → W) : List NV := (List.range N).map fun k => (nm k, f k)
def Inj (nm : Nat → List Nat) (N : Nat) : Prop := ∀ i j, i < N → j < N → nm i = nm j → i = j
def upN (lo : Nat → Option Nat) (N : Nat) (p : Nat → Bool) (k : Nat) : Nat := (List.range N).countP fun i => p i && decide (lo i = some k)
theorem up_zero {lo : Nat → Option Nat} {N : Nat} {p : Nat → Bool} {k : Nat} : upN lo N p k = 0 ↔ ∀ i, i < N → p i = true → lo i ≠ some k := by
  unfold upN
  rw [List.countP_eq_zero]
  constructor
  · intro h i hi hp e
    exact h i (List.mem_range.mpr hi) (by simp [hp, e])
  · intro h i hi hh
    simp only [Bool.and_eq_true, decide_eq_true_eq] at hh
    exact h i (List.mem_range.mp hi) hh.1 hh.2
end Wb

namespace Wb
open PySem PySem.Spec PyProof.Rows
def optN (nm : Nat → List Nat) : Option Nat → W
  | none => .non
  | some b => .str (sx (nm b))
def lowF (nm : Nat → List Nat) (N : Nat) (lo : Nat → Option Nat) : List NV := dF nm N fun k => optN nm (lo k)
def waitF (nm : Nat → List Nat) (N : Nat) (lo : Nat → Option Nat) (p : Nat → Bool) : List NV := dF nm N fun k => .int (upN lo N p k)
def lf (due : List Nat) (i : Nat) : Bool := !decide (i ∈ due)
def leftL (N : Nat) (due : List Nat) : List Nat := (List.range N).filter (lf due)
/-- the next place: the first that is left whose direct upper places are not left -/
def nextP (N : Nat) (lo : Nat → Option Nat) (due : List Nat) : Option Nat := (leftL N due).find? fun k => decide (upN lo N (lf due) k = 0)
def dueN (N : Nat) (lo : Nat → Option Nat) : Nat → List Nat
  | 0 => []
  | t + 1 => dueN N lo t ++ (nextP N lo (dueN N lo t)).toList
def ordBody1 : List S := [.ife (.cmp .notN (.sub (.var 0) (.var 2)) (.cst .non)) [.augi (.slot 1) (.sub (.var 0) (.var 2)) .add (.cst (.int 1))] []]
def ordBody2 : List S := [.asg 2 (.sub (.lc (.one 5) .own [(.var 3)] [(.cmp .eq (.sub (.var 1) (.var 5)) (.cst (.int 0)))] (.var 5) [("one", 5)]) (.cst (.int 0))), .app (.slot 4) (.var 2), .rem (.slot 3) (.var 2), .ife (.cmp .notN (.sub (.var 0) (.var 2)) (.cst .non)) [.augi (.slot 1) (.sub (.var 0) (.var 2)) .sub (.cst (.int 1))] []]
structure LoOk (nm : Nat → List Nat) (N : Nat) (lo : Nat → Option Nat) : Prop where
  inj : Inj nm N
  lt : ∀ k b, k < N → lo k = some b → b < k
  n : N ≤ 60
abbrev e6 (a b c d e f : Option (Flag × W)) : Env := [a, b, c, d, e, f]
section
variable {S : Store} {nm : Nat → List Nat} {N : Nat} {lo : Nat → Option Nat} (ok : LoOk nm N lo)
include ok
end
theorem left_nodup (N : Nat) (due : List Nat) : (leftL N due).Nodup := List.nodup_range.filter _
theorem mem_left {N : Nat} {due : List Nat} {i : Nat} : i ∈ leftL N due ↔ i < N ∧ i ∉ due := by
  unfold leftL
  rw [List.mem_filter, List.mem_range]
  simp [lf]
theorem next_some {N : Nat} {lo : Nat → Option Nat} (hlt : ∀ k b, k < N → lo k = some b → b < k) {due : List Nat} (h : leftL N due ≠ []) : ∃ k, nextP N lo due = some k := by
  refine Option.isSome_iff_exists.mp (List.find?_isSome.mpr ?_)
  -- the last that is left
  have : ∃ k, k ∈ leftL N due ∧ ∀ i ∈ leftL N due, i ≤ k := by
    have hm := List.getLast_mem h
    obtain ⟨k, hk⟩ := List.exists_mem_of_ne_nil _ h
    have : ∀ n, ∀ k ∈ leftL N due, N - k ≤ n → ∃ k, k ∈ leftL N due ∧ ∀ i ∈ leftL N due, i ≤ k := by
      intro n
      induction n with
      | zero => intro k hk hn; have := (mem_left.mp hk).1; omega
      | succ n ih =>
        intro k hk hn
        by_cases c : ∀ i ∈ leftL N due, i ≤ k
        · exact ⟨k, hk, c⟩
        · have : ∃ i, i ∈ leftL N due ∧ ¬ i ≤ k := by
            refine Classical.byContradiction fun z => c fun i hi => Classical.byContradiction fun y => z ⟨i, hi, y⟩
          obtain ⟨i, hi, hik⟩ := this
          have := (mem_left.mp hi).1
          exact ih i hi (by omega)
    exact this _ k hk (Nat.le_refl _)
  obtain ⟨k, hk, hmax⟩ := this
  refine ⟨k, hk, ?_⟩
  rw [decide_eq_true_eq, up_zero]
  intro i hi hp e
  have hl : i ∈ leftL N due := mem_left.mpr ⟨hi, by simpa [lf] using hp⟩
  have := hmax i hl
  have := hlt i k hi e
  omega
theorem next_mem {N : Nat} {lo : Nat → Option Nat} {due : List Nat} {k : Nat} (h : nextP N lo due = some k) : k < N ∧ k ∉ due := mem_left.mp (List.mem_of_find?_eq_some h)
theorem due_len {N : Nat} {lo : Nat → Option Nat} (hlt : ∀ k b, k < N → lo k = some b → b < k) : ∀ t, t ≤ N → (dueN N lo t).length = t ∧ (dueN N lo t).Nodup ∧ ∀ i ∈ dueN N lo t, i < N
  | 0, _ => ⟨rfl, List.nodup_nil, fun _ h => by cases h⟩
  | t + 1, h => by
    obtain ⟨h1, h2, h3⟩ := due_len hlt t (by omega)
    have hne : leftL N (dueN N lo t) ≠ [] := by
      intro e
      have hsub : List.range N ⊆ dueN N lo t := fun i hi => by
        by_cases c : i ∈ dueN N lo t
        · exact c
        · have : i ∈ leftL N (dueN N lo t) := mem_left.mpr ⟨List.mem_range.mp hi, c⟩
          rw [e] at this
          cases this
      have := List.Nodup.length_le_of_subset List.nodup_range hsub
      rw [List.length_range, h1] at this
      omega
    obtain ⟨k, hk⟩ := next_some hlt hne
    obtain ⟨k1, k2⟩ := next_mem hk
    unfold dueN
    rw [hk]
    refine ⟨by simp [h1], List.nodup_append.mpr ⟨h2, by simp, fun a ha b hb => ?_⟩, fun i hi => ?_⟩
    · simp at hb
      subst hb
      exact fun e => k2 (e ▸ ha)
    · rcases List.mem_append.mp hi with hi | hi
      · exact h3 i hi
      · simp at hi; subst hi; exact k1
end Wb

namespace Wb
open PySem PySem.Spec PyProof.Rows
def nmW (nm : Nat → List Nat) (l : List Nat) : List W := l.map fun i => .str (sx (nm i))
section
variable {S : Store} {nm : Nat → List Nat} {N : Nat} {lo : Nat → Option Nat} (ok : LoOk nm N lo)
include ok
end
end Wb

namespace Wb
open PySem PySem.Spec PyProof.Rows
theorem left_len {N : Nat} {due : List Nat} (nd : due.Nodup) (h : ∀ i ∈ due, i < N) : (leftL N due).length + due.length = N := by
  induction due with
  | nil =>
    have : leftL N [] = List.range N := by unfold leftL; exact List.filter_eq_self.mpr fun i _ => by simp [lf]
    rw [this]
    simp
  | cons a r ih =>
    have nd2 := List.nodup_cons.mp nd
    have ih := ih nd2.2 fun i hi => h i (List.mem_cons_of_mem _ hi)
    have ha := h a (List.mem_cons_self ..)
    have e : leftL N (a :: r) = (leftL N r).filter fun i => decide (i ≠ a) := by
      unfold leftL
      rw [List.filter_filter]
      refine List.filter_congr fun i _ => ?_
      unfold lf
      by_cases h : i ∈ r <;> by_cases e : i = a <;> simp [h, e]
    have hm : a ∈ leftL N r := mem_left.mpr ⟨ha, nd2.1⟩
    have e2 : (leftL N r).filter (fun i => decide (i ≠ a)) = (leftL N r).erase a := by
      rw [(left_nodup N r).erase_eq_filter]
      refine List.filter_congr fun i _ => ?_
      by_cases c : i = a <;> simp [c]
    rw [e, e2, List.length_erase_of_mem hm, List.length_cons]
    have := List.length_pos_of_mem hm
    omega
abbrev ordE (nm : Nat → List Nat) (N : Nat) (lo : Nat → Option Nat) (due : List Nat) (x f : Option (Flag × W)) : Env := e6 (some (.v, dK (lowF nm N lo))) (some (.o, dK (waitF nm N lo (lf due)))) x (some (.o, .lst (nmW nm (leftL N due)))) (some (.o, .lst (nmW nm due))) f
section
variable {S : Store} {nm : Nat → List Nat} {N : Nat} {lo : Nat → Option Nat} (ok : LoOk nm N lo)
include ok
end
end Wb

namespace Wb
open PySem PySem.Spec PyProof.Rows
section
variable {S : Store} {nm : Nat → List Nat} {N : Nat} {lo : Nat → Option Nat} (ok : LoOk nm N lo)
include ok
end
end Wb

namespace Wb
open PySem PySem.Spec PyProof.Rows
theorem TkAt.left {L : List PT} {k : Nat} {a b : List Tk} (h : TkAt L k (a ++ b)) : TkAt L k a := fun j t hj => h j t (by
  rw [List.getElem?_append_left (List.getElem?_eq_some_iff.mp hj).1]
  exact hj)
theorem TkAt.right {L : List PT} {k : Nat} {a b : List Tk} (h : TkAt L k (a ++ b)) : TkAt L (k + a.length) b := fun j t hj => by
  have := h (a.length + j) t (by rw [List.getElem?_append_right (by omega), show a.length + j - a.length = j by omega]; exact hj)
  rw [show k + a.length + j = k + (a.length + j) by omega]
  exact this
/-- a river: its places by numbers -/
structure RvOk (nm : Nat → List Nat) (N : Nat) (lo : Nat → Option Nat) (ls : Nat → Int) : Prop where
  lok : LoOk nm N lo
  n1 : 1 ≤ N
  free : ∀ k, k < N → freeL (nm k) = true
  l0 : ∀ k, k < N → 0 ≤ ls k
  l1 : ∀ k, k < N → ls k ≤ 1000000000
  ln : ∀ k, k < N → lo k = none → ls k = 0
def losF (nm : Nat → List Nat) (N : Nat) (ls : Nat → Int) : List NV := dF nm N fun k => .int (ls k)
def rvW (nm : Nat → List Nat) (N : Nat) (lo : Nat → Option Nat) (ls : Nat → Int) : W := .ins "River" [("_below", dK (lowF nm N lo)), ("_losses", dK (losF nm N ls)), ("_order", .lst (nmW nm (dueN N lo N)))]
def rowTk (nm : Nat → List Nat) (lo : Nat → Option Nat) (ls : Nat → Int) (k : Nat) : List Tk := plTk (nm k) ((lo k).map nm) (ls k)
def rvTk (nm : Nat → List Nat) (lo : Nat → Option Nat) (ls : Nat → Int) (t : Nat) : List Tk := (List.range t).flatMap (rowTk nm lo ls)
def rowTkB (nm : Nat → List Nat) (lo : Nat → Option Nat) (ls : Nat → Int) (td : Nat → Bool) (k : Nat) : List Tk := plTkB (nm k) ((lo k).map nm) (td k) (ls k)
def rvTkB (nm : Nat → List Nat) (lo : Nat → Option Nat) (ls : Nat → Int) (td : Nat → Bool) (t : Nat) : List Tk := (List.range t).flatMap (rowTkB nm lo ls td)
def prC : E := .or (.cmp .eq (.bcall .len [(.var 1)]) (.cst (.int 0))) (.tru (.meth F_Reader_sees_word (.var 0) [(.cst (.str (sx [112, 108, 97, 99, 101])))] 0))
def prB : List S := [.ife (.cmp .eq (.bcall .len [(.var 1)]) (.glob "MOST_PLACES" (.int 60))) [.expr (.meth F_Reader_refuse (.var 0) [(.cst (.str (sx [109, 97, 110, 121])))] 0)] [], .callO none F_parse_place [.inr (.var 0), .inl 1, .inl 2]]
section
variable {S : Store} {nm : Nat → List Nat} {N : Nat} {lo : Nat → Option Nat} {ls : Nat → Int} (ok : RvOk nm N lo ls)
include ok
variable {td : Nat → Bool} (htd : ∀ k, k < N → td k = false → ls k = 0) {n : Nat} (hn : n < S.length) {L : List PT} {k : Nat} (ht : TkAt L k (rvTkB nm lo ls td N)) {p : PT} (hp : L[k + (rvTkB nm lo ls td N).length]? = some p) (hpo : p.1.ok) (hpn : p.1 ≠ .word placeL)
abbrev prE (n : Nat) (nm : Nat → List Nat) (lo : Nat → Option Nat) (ls : Nat → Int) (t : Nat) : Env := [some (.v, .ref n), some (.o, dK (lowF nm t lo)), some (.o, dK (losF nm t ls))]
include htd hn ht
include hp hpo hpn
end
end Wb

namespace Wb
open PySem PySem.Spec PyProof.Rows
def newC : Cell := ⟨"Reader", []⟩
end Wb

namespace Wb
open PySem PySem.Spec PyProof.Rows
def nm12 : List (List Nat) := [[115, 101, 97], [102, 111, 114, 100], [109, 105, 108, 108], [111, 97, 107], [97, 108, 109], [98, 101, 110, 100], [99, 111, 118, 101], [100, 101, 108, 108], [101, 108, 109], [102, 101, 110], [103, 97, 116, 101], [104, 105, 108, 108]]
def nmR (k : Nat) : List Nat := nm12.getD k []
theorem nmR_inj : Inj nmR 12 := by
  have h : ∀ i : Fin 12, ∀ j : Fin 12, nmR i.val = nmR j.val → i.val = j.val := by decide
  exact fun i j hi hj e => h ⟨i, hi⟩ ⟨j, hj⟩ e
theorem nmR_free : ∀ k, k < 12 → freeL (nmR k) = true := by
  have h : ∀ i : Fin 12, freeL (nmR i.val) = true := by decide
  exact fun k hk => h ⟨k, hk⟩
def optJ : Option Nat → W
  | none => .non
  | some b => .int b
def rowW (lo : Nat → Option Nat) (ls : Nat → Int) (k : Nat) : W := .tup [.str (sx (nmR k)), optJ (lo k), .int (ls k)]
def rowsW (N : Nat) (lo : Nat → Option Nat) (ls : Nat → Int) : List W := (List.range N).map (rowW lo ls)
/-- the rows so far -/
structure PreOk (t : Nat) (lo : Nat → Option Nat) (ls : Nat → Int) : Prop where
  lt : ∀ k b, k < t → lo k = some b → b < k
  l0 : ∀ k, k < t → 0 ≤ ls k
  l1 : ∀ k, k < t → ls k ≤ 1000000000
  ln : ∀ k, k < t → lo k = none → ls k = 0
theorem PreOk.rv {t : Nat} {lo : Nat → Option Nat} {ls : Nat → Int} (h : PreOk t lo ls) (h1 : 1 ≤ t) (h12 : t ≤ 12) : RvOk nmR t lo ls where
  lok := ⟨fun i j hi hj => nmR_inj i j (by omega) (by omega), h.lt, by omega⟩
  n1 := h1
  free := fun k hk => nmR_free k (by omega)
  l0 := h.l0
  l1 := h.l1
  ln := h.ln
theorem PreOk.step {t : Nat} {lo : Nat → Option Nat} {ls : Nat → Int} (h : PreOk t lo ls) (o : Option Nat) (m : Int) (ho : ∀ b, o = some b → b < t) (h0 : 0 ≤ m) (h1 : m ≤ 1000000000) (hn : o = none → m = 0) :
    PreOk (t + 1) (fun i => if i = t then o else lo i) (fun i => if i = t then m else ls i) ∧ rowsW (t + 1) (fun i => if i = t then o else lo i) (fun i => if i = t then m else ls i) = rowsW t lo ls ++ [.tup [.str (sx (nmR t)), optJ o, .int m]] := by
  refine ⟨⟨fun k b hk hb => ?_, fun k hk => ?_, fun k hk => ?_, fun k hk hb => ?_⟩, ?_⟩
  · by_cases e : k = t
    · rw [if_pos e] at hb; subst e; exact ho b hb
    · rw [if_neg e] at hb; exact h.lt k b (by omega) hb
  · by_cases e : k = t
    · rw [if_pos e]; exact h0
    · rw [if_neg e]; exact h.l0 k (by omega)
  · by_cases e : k = t
    · rw [if_pos e]; exact h1
    · rw [if_neg e]; exact h.l1 k (by omega)
  · by_cases e : k = t
    · rw [if_pos e] at hb ⊢; exact hn hb
    · rw [if_neg e] at hb ⊢; exact h.ln k (by omega) hb
  · unfold rowsW
    rw [List.range_succ, List.map_append]
    congr 1
    · refine List.map_congr_left fun i hi => ?_
      have := List.mem_range.mp hi
      have e : i ≠ t := by omega
      unfold rowW
      dsimp only
      rw [if_neg e, if_neg e]
    · simp [rowW]
def mrB : List S := [.asg 7 (.call F_l_draw [(.bin .add (.bin .add (.bin .fdiv (.var 0) (.cst (.int 3))) (.bin .mul (.cst (.int 31)) (.var 6))) (.sub (.var 2) (.cst (.int 1)))), (.lst [(.bin .add (.var 6) (.cst (.int 2))), (.cst (.int 3)), (.cst (.int 60))])] 0), .asg 8 (.cst .non), .ife (.and (.cmp .gt (.var 6) (.cst (.int 0))) (.cmp .gt (.sub (.var 7) (.cst (.int 0))) (.cst (.int 0)))) [.asg 8 (.bcall .min2 [(.bin .sub (.var 6) (.cst (.int 1))), (.bin .sub (.sub (.var 7) (.cst (.int 0))) (.cst (.int 1)))])] [], .asg 9 (.cst (.int 0)), .ife (.and (.cmp .notN (.var 8) (.cst .non)) (.cmp .gt (.sub (.var 7) (.cst (.int 1))) (.cst (.int 0)))) [.asg 9 (.sub (.var 7) (.cst (.int 2)))] [], .app (.slot 4) (.tup [(.sub (.var 5) (.var 6)), (.var 8), (.var 9)])]
abbrev mrE (cell most d0 d1 d2 cnt : Int) (rows : List W) (c6 c7 c8 c9 : Option (Flag × W)) : Env := [some (.v, .int cell), some (.v, .int most), some (.v, .lst [.int d0, .int d1, .int d2]), some (.v, .int cnt), some (.o, .lst rows), some (.v, .lst (nm12.map fun z => .str (sx z))), c6, c7, c8, c9]
end Wb

namespace Wb
open PySem PySem.Spec PyProof.Rows
def MrI (cell most d0 d1 d2 cnt : Int) (k : Nat) (env : Env) : Prop := ∃ lo ls c6 c7 c8 c9, PreOk k lo ls ∧ env = mrE cell most d0 d1 d2 cnt (rowsW k lo ls) c6 c7 c8 c9
end Wb

namespace Wb
open PySem PySem.Spec PyProof.Rows
def PreK (p : List Nat) (a : Int × Nat) (ts : List Tk) : Prop := ∃ L : List PT, L.map (·.1) = ts ∧ PreT p a (L.map tw)
theorem PreK.app {p q : List Nat} {a : Int × Nat} {ts us : List Tk} (h : PreK p a ts) (k : PreK q (aftN a p) us) : PreK (p ++ q) a (ts ++ us) := by
  obtain ⟨L, e, h⟩ := h
  obtain ⟨M, f, k⟩ := k
  exact ⟨L ++ M, by rw [List.map_append, e, f], by rw [List.map_append]; exact h.app k⟩
theorem PreK.nl (a : Int × Nat) : PreK [10] a [] := ⟨[], rfl, PreT.nl a⟩
theorem PreK.nil (a : Int × Nat) : PreK [] a [] := ⟨[], rfl, PreT.nil a⟩
theorem PreK.sp (a : Int × Nat) : PreK [32] a [] := ⟨[], rfl, PreT.sp a⟩
def midL (nm : Nat → List Nat) (o : Option Nat) (m : Int) : List Nat := match o with
  | none => []
  | some b => [32, 116, 111, 32] ++ nm b ++ (if 0 < m then [32, 108, 111, 115, 115, 32] ++ TL.numL m.toNat else [])
def lineR (nm : Nat → List Nat) (lo : Nat → Option Nat) (ls : Nat → Int) (k : Nat) : List Nat := [112, 108, 97, 99, 101, 32] ++ nm k ++ midL nm (lo k) (ls k) ++ [32, 59]
end Wb

namespace Wb
open PySem PySem.Spec PyProof.Rows
def txtL (N : Nat) (lo : Nat → Option Nat) (ls : Nat → Int) : List Nat := TL.joinL [10] ((List.range N).map (lineR nmR lo ls))
def txB : List S := [.asg 3 (.bin .add (.cst (.str (sx [112, 108, 97, 99, 101, 32]))) (.sub (.var 2) (.cst (.int 0)))), .ife (.cmp .notN (.sub (.var 2) (.cst (.int 1))) (.cst .non)) [.asg 3 (.bin .add (.bin .add (.var 3) (.cst (.str (sx [32, 116, 111, 32])))) (.sub (.sub (.var 0) (.sub (.var 2) (.cst (.int 1)))) (.cst (.int 0)))), .ife (.cmp .gt (.sub (.var 2) (.cst (.int 2))) (.cst (.int 0))) [.asg 3 (.bin .add (.bin .add (.var 3) (.cst (.str (sx [32, 108, 111, 115, 115, 32])))) (.bcall .str [(.sub (.var 2) (.cst (.int 2)))]))] []] [], .app (.slot 1) (.bin .add (.var 3) (.cst (.str (sx [32, 59]))))]
abbrev linesW (t : Nat) (lo : Nat → Option Nat) (ls : Nat → Int) : List W := (List.range t).map fun k => .str (sx (lineR nmR lo ls k))
section
variable {S : Store} {N : Nat} {lo : Nat → Option Nat} {ls : Nat → Int} (ok : PreOk N lo ls) (h12 : N ≤ 12)
include ok h12
end
end Wb

namespace Wb
open PySem PySem.Spec PyProof.Rows
theorem strsW_map : ∀ ys : List (List Nat), strsW (ys.map fun y => .str (sx y)) = some (ys.map sx)
  | [] => rfl
  | y :: ys => by
    show (strsW (ys.map fun y => .str (sx y))).map (sx y :: ·) = _
    rw [strsW_map ys]
    rfl
section
variable {S : Store} {N : Nat} {lo : Nat → Option Nat} {ls : Nat → Int} (ok : PreOk N lo ls) (h12 : N ≤ 12)
include ok h12
end
end Wb

namespace Wb
open PySem PySem.Spec PyProof.Rows
def pathN (lo : Nat → Option Nat) : Nat → Option Nat → List Nat
  | 0, _ => []
  | _ + 1, none => []
  | n + 1, some i => i :: pathN lo n (lo i)
/-- the place after n steps -/
def stepN (lo : Nat → Option Nat) : Nat → Option Nat → Option Nat
  | 0, o => o
  | n + 1, o => match stepN lo n o with
    | none => none
    | some i => lo i
def ptB : List S := [.ife (.cmp .notN (.var 1) (.cst .non)) [.app (.slot 2) (.var 1), .asg 1 (.sub (.sub (.var 0) (.var 1)) (.cst (.int 1)))] []]
def intsN (l : List Nat) : List W := l.map fun i : Nat => W.int (i : Int)
section
variable {S : Store} {N : Nat} {lo : Nat → Option Nat} {ls : Nat → Int} (ok : PreOk N lo ls) (h12 : N ≤ 12)
include ok h12
end
def Closed (N : Nat) (lo : Nat → Option Nat) (due : List Nat) : Prop := ∀ b ∈ due, ∀ i, i < N → lo i = some b → i ∈ due
theorem closed_due {N : Nat} {lo : Nat → Option Nat} (hlt : ∀ k b, k < N → lo k = some b → b < k) : ∀ t, t ≤ N → Closed N lo (dueN N lo t)
  | 0, _ => fun b hb => by cases hb
  | t + 1, h => by
    have ih := closed_due hlt t (by omega)
    intro b hb i hi e
    have hb : b ∈ dueN N lo t ++ (nextP N lo (dueN N lo t)).toList := hb
    show i ∈ dueN N lo t ++ (nextP N lo (dueN N lo t)).toList
    rw [List.mem_append] at hb ⊢
    rcases hb with hb | hb
    · exact .inl (ih b hb i hi e)
    · have hq : nextP N lo (dueN N lo t) = some b := by
        cases hq : nextP N lo (dueN N lo t) with
        | none => rw [hq] at hb; cases hb
        | some k => rw [hq] at hb; simp at hb; subst hb; rfl
      have hz := List.find?_some hq
      rw [decide_eq_true_eq, up_zero] at hz
      by_cases c : i ∈ dueN N lo t
      · exact .inl c
      · exact absurd e (hz i hi (by simp [lf, c]))
end Wb

namespace Wb
open PySem PySem.Spec PyProof.Rows
def eUn (s : List Nat) : List (Str × W) := [("name", .str (sx s)), ("label", .str "UnknownName")]
/-- the path -/
def pwC : E := .cmp .notN (.sub (.attr (.var 0) "_below") (.sub (.var 2) (.neg (.cst (.int 1))))) (.cst .non)
def pwB : List S := [.app (.slot 2) (.sub (.attr (.var 0) "_below") (.sub (.var 2) (.neg (.cst (.int 1)))))]
section
variable {S : Store} {nm : Nat → List Nat} {N : Nat} {lo : Nat → Option Nat} {ls : Nat → Int} (ok : RvOk nm N lo ls)
include ok
def aboveN (lo : Nat → Option Nat) (N k : Nat) : List Nat := (List.range N).filter fun j => decide (k ∈ pathN lo N (some j))
/-- the places that are reached without a loss -/
def nearN (lo : Nat → Option Nat) (ls : Nat → Int) : Nat → Option Nat → List Nat
  | 0, _ => []
  | _ + 1, none => []
  | n + 1, some i => i :: (if ls i > 0 then [] else nearN lo ls n (lo i))
def inB : List Wb.S := [.ife (.cmp .eq (.var 3) (.var 1)) [.ret (.cst (.bl true))] [], .ife (.cmp .gt (.sub (.attr (.var 0) "_losses") (.var 3)) (.cst (.int 0))) [.ret (.cst (.bl false))] []]
end
end Wb

namespace Wb
open PySem PySem.Spec PyProof.Rows
section
variable {c : Ctx} {env : Env} {S : Store}
end
def shB : List S := [.asg 3 (.fstr [(.cst (.str (sx [112, 108, 97, 99, 101, 32]))), (.fmt (.var 2))]), .ife (.cmp .notN (.meth F_River_next_of (.var 0) [(.var 2)] 0) (.cst .non)) [.asg 3 (.fstr [(.fmt (.var 3)), (.cst (.str (sx [32, 116, 111, 32]))), (.fmt (.meth F_River_next_of (.var 0) [(.var 2)] 0))]), .ife (.cmp .gt (.meth F_River_loss_of (.var 0) [(.var 2)] 0) (.cst (.int 0))) [.asg 3 (.fstr [(.fmt (.var 3)), (.cst (.str (sx [32, 108, 111, 115, 115, 32]))), (.fmt (.meth F_River_loss_of (.var 0) [(.var 2)] 0))])] []] [], .app (.slot 1) (.fstr [(.fmt (.var 3)), (.cst (.str (sx [32, 59])))])]
section
variable {S : Store} {nm : Nat → List Nat} {N : Nat} {lo : Nat → Option Nat} {ls : Nat → Int} (ok : RvOk nm N lo ls)
include ok
end
end Wb

namespace Wb
open PySem PySem.Spec PyProof.Rows
open PySem.StrLaws (replL replL_nil replL_hit replL_miss)
section
variable {y z : List Nat}
end
def sepL (nm : Nat → List Nat) (lo : Nat → Option Nat) (ls : Nat → Int) (x y : List Nat) (k : Nat) : List Nat := placeL ++ (x ++ (nm k ++ ((match lo k with
  | none => []
  | some b => x ++ (toL ++ (x ++ (nm b ++ (if 0 < ls k then x ++ (lossL ++ (y ++ TL.numL (ls k).toNat)) else []))))) ++ (x ++ [59]))))
section
variable {nm : Nat → List Nat} {lo : Nat → Option Nat} {ls : Nat → Int} {k : Nat} (hk : goodL (nm k) = true) (hb : ∀ b, lo k = some b → goodL (nm b) = true)
include hk hb
end
end Wb

namespace Wb
open PySem PySem.Spec PyProof.Rows
open PySem.StrLaws (replL)
section
variable {S : Store} {N : Nat} {lo : Nat → Option Nat} {ls : Nat → Int} (ok : PreOk N lo ls) (h1 : 1 ≤ N) (h12 : N ≤ 12)
include ok h1 h12
end
end Wb

namespace Wb
open PySem PySem.Spec PyProof.Rows
theorem set_old {kvs : List NV} {a : List Nat} {w : W} (h : a ∈ names kvs) (hl : kvs.length < sizeL) : setItW (dK kvs) (.str (sx a)) w = some (dK (kvs.map fun p => if p.1 = a then (p.1, w) else p)) := by
  show (if (dKv kvs).length < sizeL then some (W.dct (putW (dKv kvs) (.inr (sx a)) w)) else none) = _
  rw [if_pos (by unfold dKv; rw [List.length_map]; exact hl)]
  have hs := isSome_dK kvs a
  unfold valW at hs
  rw [Option.isSome_map, List.isSome_find?, decide_eq_true h] at hs
  unfold putW
  rw [if_pos hs]
  unfold dK dKv
  rw [List.map_map, List.map_map]
  congr 2
  refine List.map_congr_left fun p _ => ?_
  show (if (Sum.inr (sx p.1) : Key) = Sum.inr (sx a) then ((Sum.inr (sx p.1) : Key), w) else (Sum.inr (sx p.1), p.2)) = _
  by_cases e : p.1 = a
  · rw [if_pos (by rw [e])]
    show _ = (fun p : NV => ((Sum.inr (sx p.1) : Key), p.2)) (if p.1 = a then (p.1, w) else p)
    rw [if_pos e]
  · rw [if_neg (fun q => e (sx_inj.mp (by injection q)))]
    show _ = (fun p : NV => ((Sum.inr (sx p.1) : Key), p.2)) (if p.1 = a then (p.1, w) else p)
    rw [if_neg e]
def sortN : Nat → List Nat
  | 0 => [116, 97, 107, 101]
  | 1 => [107, 101, 101, 112]
  | _ => [115, 116, 111, 114, 101]
def kName : List Nat := [110, 97, 109, 101]
def kSort : List Nat := [115, 111, 114, 116]
def kAmount : List Nat := [97, 109, 111, 117, 110, 116]
def kPlace : List Nat := [112, 108, 97, 99, 101]
def kPart : List Nat := [112, 97, 114, 116]
def kBack : List Nat := [98, 97, 99, 107]
def kDate : List Nat := [100, 97, 116, 101]
def kSeason : List Nat := [115, 101, 97, 115, 111, 110]
def kYearly : List Nat := [121, 101, 97, 114, 108, 121]
def rtW (nm so am pl pt bk dt se ye : W) : W := dK [(kName, nm), (kSort, so), (kAmount, am), (kPlace, pl), (kPart, pt), (kBack, bk), (kDate, dt), (kSeason, se), (kYearly, ye)]
section
variable (nm so am pl pt bk dt se ye w : W)
end
/-- the law's drawn right -/
structure Rt where
  (so pl : Nat)
  (am : Int)
  bk : Option Nat
  dt : Int
  se : Option (Int × Int)
  ye : Option Int
def seW : Option (Int × Int) → W
  | none => .non
  | some p => .tup [.int p.1, .int p.2]
def opI : Option Int → W
  | none => .non
  | some i => .int i
def ptO (bk : Option Nat) (a : Int) : Int := match bk with
  | none => 0
  | some _ => a
def Rt.pt (r : Rt) : Int := ptO r.bk r.am
def Rt.W (r : Rt) (k : Nat) : W := rtW (.str (sx (114 :: TL.numL k))) (.str (sx (sortN r.so))) (.int r.am) (.int r.pl) (.int r.pt) (optJ r.bk) (.int r.dt) (seW r.se) (opI r.ye)
/-- a place that is reached without a loss -/
inductive CR (lo : Nat → Option Nat) (ls : Nat → Int) (p : Nat) : Nat → Prop
  | refl : CR lo ls p p
  | step {a b} : CR lo ls p a → lo a = some b → ls a = 0 → CR lo ls p b
structure RtOk (N : Nat) (lo : Nat → Option Nat) (ls : Nat → Int) (r : Rt) : Prop where
  so : r.so < 3
  pl : r.pl < N
  a1 : 1 ≤ r.am
  a2 : r.am ≤ 1000
  bk : ∀ b, r.bk = some b → r.so = 0 ∧ CR lo ls r.pl b
  d0 : 0 ≤ r.dt
  d1 : r.dt < 3652
  se : ∀ p, r.se = some p → (1 ≤ p.1 ∧ p.1 ≤ 12) ∧ 1 ≤ p.2 ∧ p.2 ≤ 12
  ye : ∀ y, r.ye = some y → r.so ≠ 1 ∧ 1 ≤ y ∧ y ≤ 5000
theorem CR.lt {N : Nat} {lo : Nat → Option Nat} {ls : Nat → Int} (hlt : ∀ k b, k < N → lo k = some b → b < k) {p : Nat} (hp : p < N) : ∀ {a}, CR lo ls p a → a < N := by
  intro a h
  induction h with
  | refl => exact hp
  | step _ e _ ih => have := hlt _ _ ih e; omega
end Wb

namespace Wb
open PySem PySem.Spec PyProof.Rows
def clrB : List S := [.ife (.and (.cmp .notN (.sub (.sub (.var 1) (.var 8)) (.cst (.int 1))) (.cst .non)) (.and (.cmp .eq (.sub (.sub (.var 1) (.var 8)) (.cst (.int 2))) (.cst (.int 0))) (.cmp .eq (.sub (.var 7) (.bin .sub (.bcall .len [(.var 7)]) (.cst (.int 1)))) (.var 8)))) [.app (.slot 7) (.sub (.sub (.var 1) (.var 8)) (.cst (.int 1)))] []]
section
variable {S : Store} {N : Nat} {lo : Nat → Option Nat} {ls : Nat → Int} (ok : PreOk N lo ls) (h12 : N ≤ 12)
include ok h12
end
end Wb

namespace Wb
open PySem PySem.Spec PyProof.Rows
def rtB1 : List S := [.asg 3 (.call F_l_draw [(.bin .add (.var 0) (.bin .mul (.cst (.int 41)) (.var 2))), (.lst [(.cst (.int 3)), (.bcall .len [(.var 1)]), (.cst (.int 1000)), (.cst (.int 2)), (.cst (.int 12)), (.cst (.int 12)), (.cst (.int 3)), (.cst (.int 5000)), (.cst (.int 2)), (.cst (.int 3652))])] 0), .asg 4 (.sub (.var 3) (.cst (.int 1))), .asg 5 (.call F_l_path [(.var 1), (.var 4)] 0), .asgO 6 (.dct [(.cst (.str (sx kName))), (.bin .add (.cst (.str (sx [114]))) (.bcall .str [(.var 2)])), (.cst (.str (sx kSort))), (.sub (.lst [(.cst (.str (sx [116, 97, 107, 101]))), (.cst (.str (sx [107, 101, 101, 112]))), (.cst (.str (sx [115, 116, 111, 114, 101])))]) (.sub (.var 3) (.cst (.int 0)))), (.cst (.str (sx kAmount))), (.bin .add (.cst (.int 1)) (.sub (.var 3) (.cst (.int 2)))), (.cst (.str (sx kPlace))), (.var 4), (.cst (.str (sx kPart))), (.cst (.int 0)), (.cst (.str (sx kBack))), (.cst .non)]), .seti (.slot 6) (.cst (.str (sx kDate))) (.bin .mul (.bin .fdiv (.sub (.var 3) (.cst (.int 9))) (.cst (.int 40))) (.cst (.int 40))), .seti (.slot 6) (.cst (.str (sx kSeason))) (.cst .non), .seti (.slot 6) (.cst (.str (sx kYearly))) (.cst .non)]
def rtB2 : S := .ife (.and (.cmp .eq (.sub (.var 3) (.cst (.int 0))) (.cst (.int 0))) (.cmp .eq (.sub (.var 3) (.cst (.int 3))) (.cst (.int 1)))) [.seti (.slot 6) (.cst (.str (sx kPart))) (.bin .add (.cst (.int 1)) (.sub (.var 3) (.cst (.int 2)))), .asgO 7 (.lst [(.var 4)]), .for_ (.one 8) .iter [(.var 5)] clrB, .seti (.slot 6) (.cst (.str (sx kBack))) (.sub (.var 7) (.bin .mod (.bcall .int [(.sub (.var 3) (.cst (.int 7)))]) (.bcall .len [(.var 7)])))] []
def rtB3 : S := .ife (.cmp .eq (.sub (.var 3) (.cst (.int 6))) (.cst (.int 1))) [.seti (.slot 6) (.cst (.str (sx kSeason))) (.tup [(.bin .add (.cst (.int 1)) (.sub (.var 3) (.cst (.int 4)))), (.bin .add (.cst (.int 1)) (.sub (.var 3) (.cst (.int 5))))])] []
def rtB4 : S := .ife (.and (.cmp .ne (.sub (.var 3) (.cst (.int 0))) (.cst (.int 1))) (.cmp .eq (.sub (.var 3) (.cst (.int 8))) (.cst (.int 1)))) [.seti (.slot 6) (.cst (.str (sx kYearly))) (.bin .add (.cst (.int 1)) (.sub (.var 3) (.cst (.int 7))))] []
section
variable {S : Store} {N : Nat} {lo : Nat → Option Nat} {ls : Nat → Int} (ok : PreOk N lo ls) (h1 : 1 ≤ N) (h12 : N ≤ 12)
include ok h1 h12
end
end Wb

namespace Wb
open PySem PySem.Spec PyProof.Rows
abbrev OE := Option (Flag × W)
section
variable {S : Store} {N : Nat} {lo : Nat → Option Nat} {ls : Nat → Int} (ok : PreOk N lo ls) (h1 : 1 ≤ N) (h12 : N ≤ 12)
include ok h1 h12
end
end Wb

namespace Wb
open PySem PySem.Spec PyProof.Rows
def rtsW (rf : Nat → Rt) (m : Nat) : List W := (List.range m).map fun k => (rf k).W k
section
variable {S : Store} {N : Nat} {lo : Nat → Option Nat} {ls : Nat → Int} (ok : PreOk N lo ls) (h1 : 1 ≤ N) (h12 : N ≤ 12)
include ok h1 h12
end
end Wb

namespace Wb
open PySem PySem.Spec PyProof.Rows
def stL (ns : List (List Nat)) : W := .lst (ns.map fun y => .str (sx y))
def knownB (p : PT) (ns : List (List Nat)) : List Nat ⊕ List Nat := match p.1 with
  | .word s => if goodL s = true then (if s ∈ ns then .inl s else .inr unknownL) else .inr syntaxL
  | _ => .inr syntaxL
section
variable {S : Store} {n : Nat} (hn : n < S.length) {L : List PT} {k : Nat}
include hn
end
end Wb

namespace Wb
open PySem PySem.Spec PyProof.Rows
open PySem.StrLaws (replL replL_nil replL_hit replL_miss)
abbrev Wp := List Nat × Tk
/-- a word that stands before a blank, or before the last sign -/
structure TW (p : Wp) : Prop where
  sp : ∀ r, r.head? = some 32 → TokS p.1 r (sx p.2.kd) p.2.val
  se : ∀ r, r.head? = some 59 → TokS p.1 r (sx p.2.kd) p.2.val
  n10 : 10 ∉ p.1
  n32 : 32 ∉ p.1
  len : p.1.length ≤ 13
  ok : ∀ c ∈ p.1, c < 1114112
  ne : p.1 ≠ []
  h59 : p.1.head? ≠ some 59
def wdL (ws : List Wp) : List (List Nat) := ws.map (·.1)
/-- words, and the sign at the end -/
def lnT (x z : List Nat) (ws : List Wp) : List Nat := TL.joinL x (wdL ws) ++ (z ++ [59])
structure Rg where
  nm : List Nat
  so : Nat
  am : Int
  pl : List Nat
  bk : Option (Int × List Nat)
  dt : Int
  se : Option (Int × Int)
  ye : Option Int
def rightL : List Nat := [114, 105, 103, 104, 116]
def atL : List Nat := [97, 116]
def returnsL : List Nat := [114, 101, 116, 117, 114, 110, 115]
def fromL : List Nat := [102, 114, 111, 109]
def withinL : List Nat := [119, 105, 116, 104, 105, 110]
def kindT : Nat → List Nat
  | 0 => [116, 97, 107, 101, 115]
  | 1 => [107, 101, 101, 112, 115]
  | _ => [115, 116, 111, 114, 101, 115]
def monL : List (List Nat) := [[106, 97, 110], [102, 101, 98], [109, 97, 114], [97, 112, 114], [109, 97, 121], [106, 117, 110], [106, 117, 108], [97, 117, 103], [115, 101, 112], [111, 99, 116], [110, 111, 118], [100, 101, 99]]
def monT (m : Int) : List Nat := monL.getD (m - 1).toNat []
def wq (w : List Nat) : Wp := (w, .word w)
def nq (n : Int) : Wp := (TL.numL n.toNat, .num n)
/-- the words of a right -/
def rgW (g : Rg) (dl : List Nat) : List Wp := [wq rightL, wq g.nm, wq (kindT g.so), nq g.am, wq atL, wq g.pl] ++ ((match g.bk with
  | none => []
  | some (p, b) => [wq returnsL, nq p, wq toL, wq b]) ++ ([wq fromL, (dl, .date g.dt)] ++ ((match g.se with
  | none => []
  | some (f, l) => [wq withinL, wq (monT f), wq toL, wq (monT l)]) ++ (match g.ye with
  | none => []
  | some y => [wq kYearly, nq y]))))
structure RgOk (g : Rg) : Prop where
  nm : freeL g.nm = true
  so : g.so < 3
  a1 : 1 ≤ g.am
  a2 : g.am ≤ 1000000000
  pl : goodL g.pl = true
  bk : ∀ p b, g.bk = some (p, b) → g.so = 0 ∧ (1 ≤ p ∧ p ≤ 1000) ∧ goodL b = true
  d0 : 0 ≤ g.dt
  d1 : g.dt ≤ 73048
  se : ∀ f l, g.se = some (f, l) → (1 ≤ f ∧ f ≤ 12) ∧ 1 ≤ l ∧ l ≤ 12
  ye : ∀ y, g.ye = some y → g.so ≠ 1 ∧ 1 ≤ y ∧ y ≤ 1000000000
end Wb

namespace Wb
open PySem PySem.Spec PyProof.Rows
section
variable {S : Store} {n : Nat} (hn : n < S.length) {L : List PT} {k : Nat}
include hn
def monW : W := .tup (monL.map fun n => .str (sx n))
end
end Wb

namespace Wb
open PySem PySem.Spec PyProof.Rows
theorem CR.head {lo : Nat → Option Nat} {ls : Nat → Int} {p b : Nat} (h : CR lo ls p b) : b = p ∨ ∃ c, lo p = some c ∧ ls p = 0 ∧ CR lo ls c b := by
  induction h with
  | refl => exact .inl rfl
  | step h1 h2 h3 ih =>
    rcases ih with rfl | ⟨c, c1, c2, c3⟩
    · exact .inr ⟨_, h2, h3, .refl⟩
    · exact .inr ⟨c, c1, c2, c3.step h2 h3⟩
theorem cr_near {M : Nat} {lo : Nat → Option Nat} {ls : Nat → Int} (hlt : ∀ k b, k < M → lo k = some b → b < k) : ∀ (n p b : Nat), p < n → p < M → CR lo ls p b → b ∈ nearN lo ls n (some p) ∧ b ∈ pathN lo n (some p)
  | 0, p, b, h, _, _ => absurd h (Nat.not_lt_zero _)
  | n + 1, p, b, h, hM, hc => by
    rcases hc.head with rfl | ⟨c, c1, c2, c3⟩
    · exact ⟨List.mem_cons_self .., List.mem_cons_self ..⟩
    · have hcp := hlt p c hM c1
      obtain ⟨i1, i2⟩ := cr_near hlt n c b (by omega) (by omega) c3
      refine ⟨?_, ?_⟩
      · show b ∈ p :: (if ls p > 0 then [] else nearN lo ls n (lo p))
        rw [if_neg (by omega), c1]
        exact List.mem_cons_of_mem _ i1
      · show b ∈ p :: pathN lo n (lo p)
        rw [c1]
        exact List.mem_cons_of_mem _ i2
section
variable {S : Store} {nm : Nat → List Nat} {N : Nat} {lo : Nat → Option Nat} {ls : Nat → Int} (ok : RvOk nm N lo ls) {n : Nat} (hn : n < S.length) {L : List PT} {k : Nat}
include ok hn
end
end Wb

namespace Wb
open PySem PySem.Spec PyProof.Rows
abbrev e14 (a b c d e f g h i j k l m o : Option (Flag × W)) : Env := [a, b, c, d, e, f, g, h, i, j, k, l, m, o]
def kdW : W := .dct (D_KINDS.map dcW)
def kwL : List (List Nat) := [[116, 97, 107, 101, 115], [107, 101, 101, 112, 115], [115, 116, 111, 114, 101, 115]]
def kwW : W := .tup (kwL.map fun n => .str (sx n))
def nsN (nm : Nat → List Nat) (N : Nat) : List (List Nat) := (List.range N).map nm
section
variable {S : Store} {nm : Nat → List Nat} {N : Nat} {lo : Nat → Option Nat} {ls : Nat → Int} (ok : RvOk nm N lo ls) {n : Nat} (hn : n < S.length) {L : List PT} {k : Nat} {tk : List (List Nat)}
include ok hn
end
end Wb

namespace Wb
open PySem PySem.Spec PyProof.Rows
def prtB : S := .ife (.and (.cmp .eq (.var 5) (.cst (.str (sx [116, 97, 107, 101])))) (.tru (.meth F_Reader_sees_word (.var 0) [(.cst (.str (sx [114, 101, 116, 117, 114, 110, 115])))] 0))) [.expr (.meth F_Reader_advance (.var 0) [] 0), .asgT [9, 10] (.call F_parse_return [(.var 0), (.var 1), (.var 8)] 0)] []
def prtC : List S := [.expr (.meth F_Reader_take_word (.var 0) [(.cst (.str (sx [102, 114, 111, 109])))] 0), .asg 11 (.meth F_Reader_take_date (.var 0) [] 0), .asg 12 (.cst .non)]
def prtD : List S := [.ife (.tru (.meth F_Reader_sees_word (.var 0) [(.cst (.str (sx [119, 105, 116, 104, 105, 110])))] 0)) [.expr (.meth F_Reader_advance (.var 0) [] 0), .asg 12 (.call F_parse_season [(.var 0)] 0)] [], .asg 13 (.cst .non)]
def prtE : List S := [.ife (.and (.cmp .ne (.var 5) (.cst (.str (sx [107, 101, 101, 112])))) (.tru (.meth F_Reader_sees_word (.var 0) [(.cst (.str (sx [121, 101, 97, 114, 108, 121])))] 0))) [.expr (.meth F_Reader_advance (.var 0) [] 0), .asg 13 (.meth F_Reader_take_number (.var 0) [(.cst (.int 1)), (.glob "MOST_AMOUNT" (.int 1000000000))] 0)] []]
def prtF : List S := [.expr (.meth F_Reader_take_sign (.var 0) [(.cst (.str (sx [59])))] 0), .ret (.mkF "Right" F_Right_init [(.var 4), (.var 5), (.var 6), (.var 8), (.var 9), (.var 10), (.var 11), (.var 12), (.var 13)])]
/-- a right, as the program has it -/
def rgtW (nm kd am pl pt bk dt se ye : W) : W := .ins "Right" [("name", nm), ("kind", kd), ("amount", am), ("place", pl), ("part", pt), ("back", bk), ("date", dt), ("season", se), ("yearly", ye)]
section
variable {S : Store} {nm : Nat → List Nat} {N : Nat} {lo : Nat → Option Nat} {ls : Nat → Int} (ok : RvOk nm N lo ls) {n : Nat} (hn : n < S.length) {L : List PT} {k : Nat}
include hn
end
end Wb

namespace Wb
open PySem PySem.Spec PyProof.Rows
/-- a right, its places by numbers -/
structure Rn where
  w : List Nat
  (so pl : Nat)
  am : Int
  bk : Option (Int × Nat)
  dt : Int
  se : Option (Int × Int)
  ye : Option Int
def bkT (nm : Nat → List Nat) : Option (Int × Nat) → List Tk
  | none => []
  | some p => [.word returnsL, .num p.1, .word toL, .word (nm p.2)]
def seT : Option (Int × Int) → List Tk
  | none => []
  | some p => [.word withinL, .word (monT p.1), .word toL, .word (monT p.2)]
def yeT : Option Int → List Tk
  | none => []
  | some y => [.word kYearly, .num y]
def Rn.tk (nm : Nat → List Nat) (r : Rn) : List Tk := [.word rightL, .word r.w, .word (kindT r.so), .num r.am, .word atL, .word (nm r.pl)] ++ (bkT nm r.bk ++ ([.word fromL, .date r.dt] ++ (seT r.se ++ (yeT r.ye ++ [.sign 59]))))
structure RnOk (N : Nat) (lo : Nat → Option Nat) (ls : Nat → Int) (r : Rn) : Prop where
  w : freeL r.w = true
  so : r.so < 3
  pl : r.pl < N
  a1 : 1 ≤ r.am
  a2 : r.am ≤ 1000000000
  bk : ∀ q, r.bk = some q → r.so = 0 ∧ (1 ≤ q.1 ∧ q.1 ≤ 1000) ∧ q.2 < N ∧ q.2 ∈ nearN lo ls N (some r.pl) ∧ q.2 ∈ pathN lo N (some r.pl)
  d0 : 0 ≤ r.dt
  d1 : r.dt ≤ 73048
  se : ∀ p, r.se = some p → (1 ≤ p.1 ∧ p.1 ≤ 12) ∧ 1 ≤ p.2 ∧ p.2 ≤ 12
  ye : ∀ y, r.ye = some y → r.so ≠ 1 ∧ 1 ≤ y ∧ y ≤ 1000000000
def bkP : Option (Int × Nat) → Int
  | none => 0
  | some p => p.1
def bkW (nm : Nat → List Nat) : Option (Int × Nat) → W
  | none => .non
  | some p => .str (sx (nm p.2))
def Rn.W (nm : Nat → List Nat) (r : Rn) : W := rgtW (.str (sx r.w)) (.str (sx (sortN r.so))) (.int r.am) (.str (sx (nm r.pl))) (.int (bkP r.bk)) (bkW nm r.bk) (.int r.dt) (seW r.se) (opI r.ye)
section
variable {S : Store} {nm : Nat → List Nat} {N : Nat} {lo : Nat → Option Nat} {ls : Nat → Int} (ok : RvOk nm N lo ls) {n : Nat} (hn : n < S.length) {L : List PT} {k : Nat} {tk rs : List (List Nat)}
include ok hn
end
end Wb

namespace Wb
open PySem PySem.Spec PyProof.Rows
def rtsTk (nm : Nat → List Nat) (rf : Nat → Rn) (t : Nat) : List Tk := (List.range t).flatMap fun k => (rf k).tk nm
def rgsW (nm : Nat → List Nat) (rf : Nat → Rn) (t : Nat) : List W := (List.range t).map fun k => (rf k).W nm
def rgsN (rf : Nat → Rn) (t : Nat) : List (List Nat) := (List.range t).map fun k => (rf k).w
/-- m rights that may stand in one text -/
structure RsOk (N : Nat) (nm : Nat → List Nat) (lo : Nat → Option Nat) (ls : Nat → Int) (rs : List (List Nat)) (rf : Nat → Rn) (m : Nat) : Prop where
  each : ∀ k, k < m → RnOk N lo ls (rf k)
  res : ∀ k, k < m → (rf k).so = 2 → nm (rf k).pl ∈ rs
  inj : Inj (fun k => (rf k).w) m
  le : m ≤ 120
def prsC : E := .tru (.meth F_Reader_sees_word (.var 0) [(.cst (.str (sx [114, 105, 103, 104, 116])))] 0)
def prsB : List S := [.ife (.cmp .eq (.bcall .len [(.var 3)]) (.glob "MOST_RIGHTS" (.int 120))) [.expr (.meth F_Reader_refuse (.var 0) [(.cst (.str (sx [109, 97, 110, 121])))] 0)] [], .callO (some 5) F_parse_right_o3 [.inr (.var 0), .inr (.var 1), .inr (.var 2), .inl 4], .app (.slot 3) (.var 5), .app (.slot 4) (.attr (.var 5) "name")]
section
variable {S : Store} {nm : Nat → List Nat} {N : Nat} {lo : Nat → Option Nat} {ls : Nat → Int} (ok : RvOk nm N lo ls) {n : Nat} (hn : n < S.length) {L : List PT} {k : Nat} {rs : List (List Nat)} {rf : Nat → Rn} {m : Nat} (ro : RsOk N nm lo ls rs rf m) (ht : TkAt L k (rtsTk nm rf m)) {p : PT} (hp : L[k + (rtsTk nm rf m).length]? = some p) (hpo : p.1.ok) (hpn : p.1 ≠ .word rightL)
abbrev rsE (n : Nat) (rv rs3 : W) (nm : Nat → List Nat) (rf : Nat → Rn) (t : Nat) (c5 : OE) : Env := [some (.v, .ref n), some (.v, rv), some (.v, rs3), some (.o, .lst (rgsW nm rf t)), some (.o, stL (rgsN rf t)), c5]
include ok hn ro ht
include hp hpo hpn
end
end Wb

namespace Wb
open PySem PySem.Spec PyProof.Rows
def EvW (env : Env) (S : Store) (e : E) (w : W) : Prop := ∀ c : Ctx, c ≠ .F → ev c e env S = .ok w S
section
variable {env : Env} {S : Store}
theorem held_nF (q : Bool) : Ctx.held q ≠ .F := by cases q <;> decide
theorem ofW_nF {c : Ctx} (h : c ≠ .F) (w : W) : ofW c (some w) S = .ok w S := if_neg h
theorem ofPV_nF {c : Ctx} (h : c ≠ .F) (b : Bool) (w : W) : ofPV c (some (b, w)) S = .ok w S := if_neg (fun e => h e.1)
theorem EvW.cst (w : W) : EvW env S (.cst w) w := fun c hc => by rw [ev_cst, ofW_nF hc]
theorem EvW.glob (x : Str) (w : W) : EvW env S (.glob x w) w := fun c hc => by rw [ev_glob, ofW_nF hc]
theorem EvW.var {i : Nat} {w : W} (h : env.at i = some (.v, w)) : EvW env S (.var i) w := fun c hc => by
  rw [ev_var, h]
  exact if_neg hc
theorem EvW.bin {o : Bin} {a b : E} {x y z : W} {f : Bool} (ha : EvW env S a x) (hb : EvW env S b y) (h : binW o x y = some (f, z)) : EvW env S (.bin o a b) z := fun c hc => by
  rw [ev_bin, ha _ (held_nF _), R.bind_ok, hb .B (by decide), R.bind_ok, h, ofPV_nF hc]
theorem EvW.cat {a b : E} {x y : List Nat} (ha : EvW env S a (.str (sx x))) (hb : EvW env S b (.str (sx y))) (h : x.length + y.length ≤ 1000) : EvW env S (.bin .add a b) (.str (sx (x ++ y))) := ha.bin hb (add_sx _ _ h)
theorem EvW.sub {a i : E} {x y z : W} (ha : EvW env S a x) (hb : EvW env S i y) (h : subW x y = some z) : EvW env S (.sub a i) z := fun c hc => by
  rw [ev_sub, ha _ (held_nF _), R.bind_ok, hb .V (by decide), R.bind_ok, h, ofW_nF hc]
theorem EvW.bi {b : BI} {e : E} {x z : W} {f : Bool} (he : EvW env S e x) (h : biW b [x] = some (f, z)) : EvW env S (.bcall b [e]) z := fun c hc => by
  rw [ev_bi1, he .B (by decide), R.bind_ok, h, ofPV_nF hc]
theorem EvW.cmp {o : Cmp} {a b : E} {x y : W} {k : Bool} (ha : EvW env S a x) (hb : EvW env S b y) (h : cmpW o x y = some k) : EvW env S (.cmp o a b) (.bl k) := fun c hc => by
  rw [ev_cmp, ha _ (held_nF _), R.bind_ok, hb .B (by decide), R.bind_ok, h]
  exact if_neg hc
/-- a list of such ones -/
def EvsW (env : Env) (S : Store) (es : List E) (ws : List W) : Prop := evs .V es env S = .ok ws S
theorem EvsW.nil : EvsW env S [] [] := evs_nil
theorem EvsW.cons {e : E} {es : List E} {w : W} {ws : List W} (h : EvW env S e w) (h2 : EvsW env S es ws) : EvsW env S (e :: es) (w :: ws) := by
  unfold EvsW at h2 ⊢
  rw [evs_cons, h .V (by decide), R.bind_ok, h2, R.bind_ok]
theorem EvW.call {f : Fn} {es : List E} {ws : List W} {w : W} {fs : List W} (hv : EvsW env S es ws) (hp : f.plain = true) (hd : f.dv 0 = []) (h : f.sem S ws = .ok (w, fs) S) : EvW env S (.call f es 0) w := fun c hc => by
  unfold EvsW at hv
  cases c with
  | F => exact absurd rfl hc
  | V => rw [ev_callV, hv, R.bind_ok, if_pos hp, hd, List.append_nil, h, R.bind_ok]
  | B => rw [ev_callB, hv, R.bind_ok, if_pos hp, hd, List.append_nil, h, R.bind_ok]
  | S => rw [ev_callS, hv, R.bind_ok, if_pos hp, hd, List.append_nil, h, R.bind_ok]
theorem EvW.tup {es : List E} {ws : List W} (hv : EvsW env S es ws) (hl : ws.length ≤ sizeL) : EvW env S (.tup es) (.tup ws) := fun c hc => by
  unfold EvsW at hv
  rw [ev_tup, hv, R.bind_ok, if_pos hl, ofW_nF hc]
theorem EvW.lst {es : List E} {ws : List W} (hv : EvsW env S es ws) (hl : ws.length ≤ sizeL) : EvW env S (.lst es) (.lst ws) := fun c hc => by
  unfold EvsW at hv
  rw [ev_lst, hv, R.bind_ok, if_pos hl]
theorem EvW.attr {e : E} {cl f : Str} {fs : List (Str × W)} {w : W} (he : EvW env S e (.ins cl fs)) (h : fs.lookup f = some w) : EvW env S (.attr e f) w := fun c hc => by
  rw [ev_attr, he .B (by decide), R.bind_ok, attr_ins, h, ofW_nF hc]
theorem EvW.and {a b : E} {p : Bool} {x : W} (ha : EvW env S a (.bl p)) (hb : p = true → EvW env S b x) (hx : p = false → x = .bl false) : EvW env S (.and a b) x := fun c hc => by
  rw [ev_and, ha .B (by decide), R.bind_ok, selB_bl]
  cases p with
  | true => rw [if_pos rfl, hb rfl c hc]
  | false => rw [if_neg (by decide), hx rfl, ofW_nF hc]
theorem EvW.or {a b : E} {p : Bool} {x : W} (ha : EvW env S a (.bl p)) (hb : p = false → EvW env S b x) (hx : p = true → x = .bl true) : EvW env S (.or a b) x := fun c hc => by
  rw [ev_or, ha .B (by decide), R.bind_ok, selO_bl]
  cases p with
  | true => rw [if_pos rfl, hx rfl, ofW_nF hc]
  | false => rw [if_neg (by decide), hb rfl c hc]
theorem EvW.not {a : E} {x : W} {p : Bool} (ha : EvW env S a x) (h : truW x = some p) : EvW env S (.not a) (.bl (!p)) := fun c hc => by
  rw [ev_not, ha .B (by decide), R.bind_ok, h]
  exact if_neg hc
theorem EvW.tru {a : E} {x : W} {p : Bool} (ha : EvW env S a x) (h : truW x = some p) : EvW env S (.tru a) (.bl p) := fun c hc => by
  rw [ev_tru, ha .B (by decide), R.bind_ok, h]
  exact if_neg hc
theorem EvW.ite {t a b : E} {p : Bool} {x y : W} (ht : EvW env S t y) (hy : truW y = some p) (ha : p = true → EvW env S a x) (hb : p = false → EvW env S b x) : EvW env S (.ite t a b) x := fun c hc => by
  rw [ev_ite, ht .B (by decide), R.bind_ok]
  have : tstR y S = .ok p S := by
    unfold tstR
    rw [hy]
  rw [this, R.bind_ok]
  cases p with
  | true => rw [if_pos rfl, ha rfl c hc]
  | false => rw [if_neg (by decide), hb rfl c hc]
theorem EvW.meth {f : Fn} {o : E} {es : List E} {x w : W} {ws fs : List W} (ho : EvW env S o x) (hv : EvsW env S es ws) (hc : clsOf x S = f.cls) (hn : f.cls ≠ none) (hp : f.plain = true) (hd : f.dv 0 = []) (h : f.sem S (x :: ws) = .ok (w, fs) S) : EvW env S (.meth f o es 0) w := fun c hF => by
  unfold EvsW at hv
  have hm : methR f 0 x (evs .V es env S) S = .ok w S := by
    unfold methR
    rw [if_pos ⟨hc, hn⟩, hv, R.bind_ok, if_pos hp, hd, List.append_nil, h, R.bind_ok]
  cases c with
  | F => exact absurd rfl hF
  | V => rw [ev_methV, ho .V (by decide), R.bind_ok, hm]
  | B => rw [ev_methB, ho .V (by decide), R.bind_ok, hm]
  | S => rw [ev_methS, ho .V (by decide), R.bind_ok, hm]
theorem EvW.asg {i : Nat} {e : E} {w : W} (h : EvW env S e w) : exec (.asg i e) env S = .nx (env.put i (.v, w)) S := by
  rw [ex_asg, h .V (by decide), R.out_ok]
theorem EvW.ret {e : E} {w : W} (h : EvW env S e w) : exec (.ret e) env S = .ret w env S := by
  rw [ex_ret, h .V (by decide), R.out_ok]
theorem EvW.ife {t : E} {k : Bool} {a b : List Wb.S} (h : EvW env S t (.bl k)) : exec (.ife t a b) env S = if k then runB a env S else runB b env S := by
  rw [ex_ife, cdW_eq, h .B (by decide), R.bind_ok, tstR_bl, R.out_ok]
end
/-- a dict of the law that tells a right -/
structure Rdct (R : W) (r : Rn) : Prop where
  nm : subW R (.str (sx kName)) = some (.str (sx r.w))
  so : subW R (.str (sx kSort)) = some (.str (sx (sortN r.so)))
  am : subW R (.str (sx kAmount)) = some (.int r.am)
  pl : subW R (.str (sx kPlace)) = some (.int r.pl)
  pt : subW R (.str (sx kPart)) = some (.int (bkP r.bk))
  bk : subW R (.str (sx kBack)) = some (optJ (r.bk.map (·.2)))
  dt : subW R (.str (sx kDate)) = some (.int r.dt)
  se : subW R (.str (sx kSeason)) = some (seW r.se)
  ye : subW R (.str (sx kYearly)) = some (opI r.ye)
def Rt.rn (r : Rt) (k : Nat) : Rn := ⟨114 :: TL.numL k, r.so, r.pl, r.am, r.bk.map fun b => (r.am, b), r.dt, r.se, r.ye⟩
def Rn.rg (nm : Nat → List Nat) (r : Rn) : Rg := ⟨r.w, r.so, r.am, nm r.pl, r.bk.map fun q => (q.1, nm q.2), r.dt, r.se, r.ye⟩
def rnX (nm : Nat → List Nat) (r : Rn) (dl : List Nat) : List Wp := rgW (r.rg nm) dl
end Wb

namespace Wb
open PySem PySem.Spec PyProof.Rows
def tkB : S := .ife (.cmp .notN (.sub (.var 0) (.cst (.str (sx [98, 97, 99, 107])))) (.cst .non)) [.asg 4 (.bin .add (.bin .add (.bin .add (.bin .add (.var 4) (.cst (.str (sx [32, 114, 101, 116, 117, 114, 110, 115, 32])))) (.bcall .str [(.sub (.var 0) (.cst (.str (sx [112, 97, 114, 116]))))])) (.cst (.str (sx [32, 116, 111, 32])))) (.sub (.sub (.var 1) (.sub (.var 0) (.cst (.str (sx [98, 97, 99, 107]))))) (.cst (.int 0))))] []
def tkC : List S := [.asg 5 (.call F_l_date [(.sub (.var 0) (.cst (.str (sx [100, 97, 116, 101]))))] 0), .asg 4 (.bin .add (.bin .add (.bin .add (.bin .add (.bin .add (.bin .add (.var 4) (.cst (.str (sx [32, 102, 114, 111, 109, 32])))) (.bcall .str [(.sub (.var 5) (.cst (.int 0)))])) (.cst (.str (sx [45])))) (.slice (.bcall .str [(.bin .add (.cst (.int 100)) (.sub (.var 5) (.cst (.int 1))))]) [(.cst (.int 1))] [])) (.cst (.str (sx [45])))) (.slice (.bcall .str [(.bin .add (.cst (.int 100)) (.sub (.var 5) (.cst (.int 2))))]) [(.cst (.int 1))] []))]
def tkD : S := .ife (.cmp .notN (.sub (.var 0) (.cst (.str (sx [115, 101, 97, 115, 111, 110])))) (.cst .non)) [.asg 4 (.bin .add (.bin .add (.bin .add (.bin .add (.var 4) (.cst (.str (sx [32, 119, 105, 116, 104, 105, 110, 32])))) (.sub (.var 2) (.bin .sub (.sub (.sub (.var 0) (.cst (.str (sx [115, 101, 97, 115, 111, 110])))) (.cst (.int 0))) (.cst (.int 1))))) (.cst (.str (sx [32, 116, 111, 32])))) (.sub (.var 2) (.bin .sub (.sub (.sub (.var 0) (.cst (.str (sx [115, 101, 97, 115, 111, 110])))) (.cst (.int 1))) (.cst (.int 1)))))] []
def tkE : S := .ife (.cmp .notN (.sub (.var 0) (.cst (.str (sx [121, 101, 97, 114, 108, 121])))) (.cst .non)) [.asg 4 (.bin .add (.bin .add (.var 4) (.cst (.str (sx [32, 121, 101, 97, 114, 108, 121, 32])))) (.bcall .str [(.sub (.var 0) (.cst (.str (sx [121, 101, 97, 114, 108, 121]))))]))] []
def tkF : S := .ret (.bin .add (.var 4) (.cst (.str (sx [32, 59]))))
def tkM : E := .lst [(.cst (.str (sx [106, 97, 110]))), (.cst (.str (sx [102, 101, 98]))), (.cst (.str (sx [109, 97, 114]))), (.cst (.str (sx [97, 112, 114]))), (.cst (.str (sx [109, 97, 121]))), (.cst (.str (sx [106, 117, 110]))), (.cst (.str (sx [106, 117, 108]))), (.cst (.str (sx [97, 117, 103]))), (.cst (.str (sx [115, 101, 112]))), (.cst (.str (sx [111, 99, 116]))), (.cst (.str (sx [110, 111, 118]))), (.cst (.str (sx [100, 101, 99])))]
def tkK : E := .dct [(.cst (.str (sx [116, 97, 107, 101]))), (.cst (.str (sx [32, 116, 97, 107, 101, 115, 32]))), (.cst (.str (sx [107, 101, 101, 112]))), (.cst (.str (sx [32, 107, 101, 101, 112, 115, 32]))), (.cst (.str (sx [115, 116, 111, 114, 101]))), (.cst (.str (sx [32, 115, 116, 111, 114, 101, 115, 32])))]
def tkA : S := .asg 4 (.bin .add (.bin .add (.bin .add (.bin .add (.bin .add (.cst (.str (sx [114, 105, 103, 104, 116, 32]))) (.sub (.var 0) (.cst (.str (sx [110, 97, 109, 101]))))) (.var 3)) (.bcall .str [(.sub (.var 0) (.cst (.str (sx [97, 109, 111, 117, 110, 116]))))])) (.cst (.str (sx [32, 97, 116, 32])))) (.sub (.sub (.var 1) (.sub (.var 0) (.cst (.str (sx [112, 108, 97, 99, 101]))))) (.cst (.int 0))))
def kdL : List NV := [(sortN 0, .str (sx (32 :: (kindT 0 ++ [32])))), (sortN 1, .str (sx (32 :: (kindT 1 ++ [32])))), (sortN 2, .str (sx (32 :: (kindT 2 ++ [32]))))]
def monLW : W := .lst (monL.map fun n => .str (sx n))
def bkS (nm : Nat → List Nat) : Option (Int × Nat) → List Nat
  | none => []
  | some q => [32, 114, 101, 116, 117, 114, 110, 115, 32] ++ (TL.numL q.1.toNat ++ ([32, 116, 111, 32] ++ nm q.2))
def seS : Option (Int × Int) → List Nat
  | none => []
  | some p => [32, 119, 105, 116, 104, 105, 110, 32] ++ (monT p.1 ++ ([32, 116, 111, 32] ++ monT p.2))
def yeS : Option Int → List Nat
  | none => []
  | some y => [32, 121, 101, 97, 114, 108, 121, 32] ++ TL.numL y.toNat
def hdS (nm : Nat → List Nat) (r : Rn) : List Nat := [114, 105, 103, 104, 116, 32] ++ (r.w ++ (32 :: (kindT r.so ++ [32]) ++ (TL.numL r.am.toNat ++ ([32, 97, 116, 32] ++ nm r.pl))))
def rnS (nm : Nat → List Nat) (r : Rn) (dl : List Nat) : List Nat := hdS nm r ++ (bkS nm r.bk ++ ([32, 102, 114, 111, 109, 32] ++ (dl ++ (seS r.se ++ (yeS r.ye ++ [32, 59])))))
end Wb

namespace Wb
open PySem PySem.Spec PyProof.Rows
abbrev eT6 (a b c d e f : OE) : Env := [a, b, c, d, e, f]
section
variable {S : Store} {N : Nat} {lo : Nat → Option Nat} {ls : Nat → Int} (h12 : N ≤ 12)
include h12
end
end Wb

namespace Wb
open PySem PySem.Spec PyProof.Rows
theorem sum_leB (B : Nat) : ∀ (ys : List (List Nat)), (∀ y ∈ ys, y.length ≤ B) → ((ys.map sx).map fun z : Str => z.length).sum ≤ B * ys.length
  | [], _ => by simp
  | y :: r, h => by
    have ih := sum_leB B r (fun x hx => h x (List.mem_cons_of_mem _ hx))
    have h1 := h y (by simp)
    rw [List.map_cons, List.map_cons, List.sum_cons, List.length_cons, sx_len, Nat.mul_succ]
    omega
theorem join_nlB (ys : List (List Nat)) (h : ∀ y ∈ ys, y.length ≤ 1000) (hl : ys.length ≤ 1000) : bmW .join (.str (sx [10])) [.lst (ys.map fun y => .str (sx y))] = some (false, .str (sx (TL.joinL [10] ys))) := by
  show (match strsW (ys.map fun y => .str (sx y)) with | some ss => if (ss.map fun z : Str => z.length).sum + ss.length * (sx [10]).length ≤ sizeL then some (false, W.str (Txt.join (sx [10]) ss)) else none | none => none) = _
  rw [strsW_map]
  dsimp only
  have h1 := sum_leB 1000 ys h
  have h2 : (sx [10]).length = 1 := sx_len [10]
  rw [if_pos (by rw [h2, List.length_map]; unfold sizeL; omega)]
  have h3 : Txt.join (sx [10]) (ys.map sx) = sx (TL.joinL [10] ys) := SX.join_S [10] ys
  rw [h3]
theorem rname_free : ∀ k : Fin 120, freeL (114 :: TL.numL k.val) = true := by decide +kernel
theorem RtOk.rn {N : Nat} {lo : Nat → Option Nat} {ls : Nat → Int} (hlt : ∀ k b, k < N → lo k = some b → b < k) {r : Rt} (h : RtOk N lo ls r) {k : Nat} (hk : k < 120) : RnOk N lo ls (r.rn k) where
  w := rname_free ⟨k, hk⟩
  so := h.so
  pl := h.pl
  a1 := h.a1
  a2 := by have := h.a2; show r.am ≤ _; omega
  bk := fun q e => by
    have e : r.bk.map (fun b => (r.am, b)) = some q := e
    cases hb : r.bk with
    | none => rw [hb] at e; cases e
    | some b =>
      rw [hb] at e
      cases e
      obtain ⟨h0, hc⟩ := h.bk b hb
      obtain ⟨c1, c2⟩ := cr_near hlt N r.pl b h.pl h.pl hc
      exact ⟨h0, ⟨h.a1, h.a2⟩, hc.lt hlt h.pl, c1, c2⟩
  d0 := h.d0
  d1 := by have := h.d1; show r.dt ≤ _; omega
  se := h.se
  ye := fun y e => by
    obtain ⟨a, b, c⟩ := h.ye y e
    exact ⟨a, b, by omega⟩
def rnf (rf : Nat → Rt) (k : Nat) : Rn := (rf k).rn k
/-- the written day of the k-th right -/
def DtF (rf : Nat → Rn) (m : Nat) (dl : Nat → List Nat) : Prop := ∀ k, k < m → ∃ y j d, IsDate (rf k).dt y j d ∧ dl k = dateL y j d
def rnL (nm : Nat → List Nat) (rf : Nat → Rn) (dl : Nat → List Nat) (x z : List Nat) (k : Nat) : List Nat := lnT x z (rnX nm (rf k) (dl k))
def rtsTx (nm : Nat → List Nat) (rf : Nat → Rn) (dl : Nat → List Nat) (m : Nat) : List Nat := TL.joinL [10] ((List.range m).map fun k => rnS nm (rf k) (dl k))
section
variable {nm : Nat → List Nat} {N : Nat} {lo : Nat → Option Nat} {ls : Nat → Int} (ok : RvOk nm N lo ls) {rs : List (List Nat)} {rf : Nat → Rn} {m : Nat} (ro : RsOk N nm lo ls rs rf m) {dl : Nat → List Nat} (hdl : DtF rf m dl)
include ok ro hdl
end
end Wb

namespace Wb
open PySem PySem.Spec PyProof.Rows
section
variable {env : Env} {S : Store}
theorem EvW.join {e : E} {ys : List (List Nat)} (he : EvW env S e (.lst (ys.map fun y => .str (sx y)))) (h : ∀ y ∈ ys, y.length ≤ 1000) (hl : ys.length ≤ 1000) : EvW env S (.bmeth .join (.cst (.str (sx [10]))) [e]) (.str (sx (TL.joinL [10] ys))) := fun c hc => by
  rw [ev_bm, ev_cst, ofW_nF (held_nF _), R.bind_ok, if_pos (show rcvW .join (.str (sx [10])) = true from rfl), evs_cons, he .V (by decide), R.bind_ok, evs_nil, R.bind_ok, R.bind_ok, join_nlB ys h hl, ofPV_nF hc]
end
section
variable {S : Store} {N : Nat} {lo : Nat → Option Nat} {ls : Nat → Int} (ok : PreOk N lo ls) (h1 : 1 ≤ N) (h12 : N ≤ 12)
include ok h1 h12
end
end Wb

namespace Wb
open PySem PySem.Spec PyProof.Rows
section
variable {env : Env} {S : Store}
theorem EvW.neg {a : E} {i : Int} (ha : EvW env S a (.int i)) : EvW env S (.neg a) (.int (-i)) := fun c hc => by
  rw [ev_neg, ha .B (by decide), R.bind_ok]
  exact if_neg hc
end
def mxI (i j : Int) : Int := if j > i then j else i
def mnI (i j : Int) : Int := if j < i then j else i
def outS (se : Option (Int × Int)) (m : Int) : Bool := match se with
  | none => false
  | some p => !inS p.1 p.2 m
def wishI (am : Int) (se : Option (Int × Int)) (ye : Option Int) (m used : Int) : Int := if outS se m = true then 0 else match ye with
  | none => am
  | some y => mnI am (mxI (y - used) 0)
def dueY (am : Int) (ye : Option Int) (us : Int) : Int := match ye with
  | none => am
  | some y => mxI 0 (mnI am (y - us))
end Wb

namespace Wb
open PySem PySem.Spec PyProof.Rows
def sumL (l : List Nat) (f : Nat → Int) : Int := (l.map f).sum
/-- what comes down to k -/
def inF (lo : Nat → Option Nat) (go : Nat → Int → Int) (v : Nat → Int) (k i : Nat) : Int := if lo i = some k then go i (v i) else 0
/-- what arrives is what comes there and what comes down -/
def Sol (N : Nat) (lo : Nat → Option Nat) (go : Nat → Int → Int) (cm a : Nat → Int) : Prop := ∀ k, k < N → a k = cm k + sumL (List.range N) (inF lo go a k)
def Upd (a : Nat → Int) (b : Nat) (x : Int) : Nat → Int := fun i => if i = b then a i + x else a i
def stepA (lo : Nat → Option Nat) (go : Nat → Int → Int) (a : Nat → Int) (k : Nat) : Nat → Int := match lo k with
  | none => a
  | some b => Upd a b (go k (a k))
def procA (lo : Nat → Option Nat) (go : Nat → Int → Int) (a : Nat → Int) (l : List Nat) : Nat → Int := l.foldl (stepA lo go) a
/-- each place behind those whose water comes to it -/
structure Ordd (N : Nat) (lo : Nat → Option Nat) (l : List Nat) : Prop where
  perm : l.Perm (List.range N)
  up : ∀ P k R, l = P ++ k :: R → ∀ i, i < N → lo i = some k → i ∈ P
theorem Ordd.nd {N : Nat} {lo : Nat → Option Nat} {l : List Nat} (h : Ordd N lo l) : l.Nodup := h.perm.nodup_iff.mpr List.nodup_range
theorem Ordd.mem {N : Nat} {lo : Nat → Option Nat} {l : List Nat} (h : Ordd N lo l) {i : Nat} : i ∈ l ↔ i < N := h.perm.mem_iff.trans List.mem_range
theorem Ordd.len {N : Nat} {lo : Nat → Option Nat} {l : List Nat} (h : Ordd N lo l) : l.length = N := h.perm.length_eq.trans List.length_range
theorem due_perm {N : Nat} {lo : Nat → Option Nat} (hlt : ∀ k b, k < N → lo k = some b → b < k) : (dueN N lo N).Perm (List.range N) := by
  obtain ⟨l, nd, lt⟩ := due_len hlt N (Nat.le_refl _)
  refine (List.perm_ext_iff_of_nodup nd List.nodup_range).mpr fun i => ⟨fun h => List.mem_range.mpr (lt i h), fun h => ?_⟩
  have hi := List.mem_range.mp h
  have z := left_len nd lt
  have e : leftL N (dueN N lo N) = [] := List.length_eq_zero_iff.mp (by omega)
  by_cases hm : i ∈ dueN N lo N
  · exact hm
  · have := mem_left.mpr ⟨hi, hm⟩
    rw [e] at this
    cases this
theorem due_pre {N : Nat} {lo : Nat → Option Nat} (hlt : ∀ k b, k < N → lo k = some b → b < k) : ∀ t, t ≤ N → ∀ P k R, dueN N lo t = P ++ k :: R → ∀ i, i < N → lo i = some k → i ∈ P
  | 0, _, P, k, R, e, i, hi, hl => by
    have e : ([] : List Nat) = P ++ k :: R := e
    cases P <;> cases e
  | t + 1, ht, P, k, R, e, i, hi, hl => by
    have ih := due_pre hlt t (by omega)
    have hc := closed_due hlt (t + 1) ht
    have e2 : dueN N lo t ++ (nextP N lo (dueN N lo t)).toList = P ++ k :: R := e
    cases hn : nextP N lo (dueN N lo t) with
    | none =>
      rw [hn] at e2
      have e2 : dueN N lo t ++ [] = P ++ k :: R := e2
      rw [List.append_nil] at e2
      exact ih P k R e2 i hi hl
    | some j =>
      rw [hn] at e2
      have e2 : dueN N lo t ++ [j] = P ++ k :: R := e2
      rcases List.eq_nil_or_concat R with rfl | ⟨R', r, rfl⟩
      · obtain ⟨e3, e4⟩ := List.append_inj' e2 rfl
        have hik := hlt i k hi hl
        have hk : k ∈ dueN N lo (t + 1) := by rw [e]; simp
        have := hc k hk i hi hl
        rw [e] at this
        rcases List.mem_append.mp this with h | h
        · exact h
        · exfalso
          have : i = k := by simpa using h
          omega
      · rw [List.concat_eq_append] at e2
        have e5 : dueN N lo t ++ [j] = (P ++ k :: R') ++ [r] := by rw [e2]; simp
        obtain ⟨e3, e4⟩ := List.append_inj' e5 rfl
        exact ih P k R' e3 i hi hl
theorem ordd_due {N : Nat} {lo : Nat → Option Nat} (hlt : ∀ k b, k < N → lo k = some b → b < k) : Ordd N lo (dueN N lo N) := ⟨due_perm hlt, fun P k R e i hi hl => due_pre hlt N (Nat.le_refl _) P k R e i hi hl⟩
end Wb

namespace Wb
open PySem PySem.Spec PyProof.Rows
section
variable {S : Store} {n : Nat} {c : Cell}
end
section
variable {env : Env} {S : Store} {n : Nat} {f : Str}
theorem EvW.pmeth {g : Fn} {o : E} {es : List E} {x w : W} {ws fs : List W} {S2 : Store} (ho : EvW env S o x) (hv : EvsW env S es ws) (h1 : clsOf x S = g.cls) (h2 : g.cls ≠ none) (h3 : g.fresh = false) (h4 : noref 20 x = true) (h5 : ws.all (noref 20) = true) (h6 : g.dv 0 = []) (h7 : g.plain = true) (h8 : g.sem [] (x :: ws) = .ok (w, fs) S2) (h9 : noref 20 w = true) : EvW env S (.pmeth g o es) w := fun c hc => by
  unfold EvsW at hv
  rw [ev_pmeth, ho .V (by decide), R.bind_ok, hv]
  exact pmR_ok hc h1 h2 h3 h4 h5 h6 h7 h8 h9
theorem EvW.get2 {o k : E} {x y z : W} {i : Int} (ho : EvW env S o x) (hk : EvW env S k y) (hr : rcvW .get2 x = true) (h : bmW .get2 x [y, .int i] = some (false, z)) : EvW env S (.bmeth .get2 o [k, .cst (.int i)]) z := fun c hc => by
  have hv : EvsW env S [k, .cst (.int i)] [y, .int i] := .cons hk (.cons (.cst _) .nil)
  unfold EvsW at hv
  rw [ev_bm, ho _ (held_nF _), R.bind_ok, if_pos hr, hv, R.bind_ok, h, ofPV_nF hc]
end
def dO (nm : Nat → List Nat) (l : List Nat) (f : Nat → Int) : W := dK (l.map fun k => (nm k, W.int (f k)))
theorem dO_names (nm : Nat → List Nat) (l : List Nat) (g : Nat → W) : names (l.map fun k => (nm k, g k)) = l.map nm := by
  unfold names
  rw [List.map_map]
  rfl
section
variable {nm : Nat → List Nat} {N : Nat} (hi : Inj nm N) {l : List Nat} (hl : ∀ i ∈ l, i < N)
include hi hl
theorem find_dO (g : Nat → W) {k : Nat} (hk : k ∈ l) : ((l.map fun k => (nm k, g k)).find? fun p => decide (p.1 = nm k)) = some (nm k, g k) := by
  induction l with
  | nil => cases hk
  | cons a r ih =>
    rw [List.map_cons, List.find?_cons]
    by_cases e : a = k
    · subst e
      simp
    · have : ¬ nm a = nm k := fun z => e (hi a k (hl a (by simp)) (hl k hk) z)
      rw [decide_eq_false this]
      exact ih (fun i hm => hl i (List.mem_cons_of_mem _ hm)) (by rcases List.mem_cons.mp hk with h | h; exact absurd h.symm e; exact h)
theorem sub_dG (g : Nat → W) {k : Nat} (hk : k ∈ l) : subW (dK (l.map fun k => (nm k, g k))) (.str (sx (nm k))) = some (g k) := sub_dK (find_dO hi hl g hk)
theorem sub_dO (f : Nat → Int) {k : Nat} (hk : k ∈ l) : subW (dO nm l f) (.str (sx (nm k))) = some (.int (f k)) := sub_dG hi hl _ hk
theorem set_dOo (f : Nat → Int) {k : Nat} (hk : k ∈ l) (hz : l.length < sizeL) (v : Int) : setItW (dO nm l f) (.str (sx (nm k))) (.int v) = some (dO nm l fun i => if i = k then v else f i) := by
  unfold dO
  rw [set_old (by rw [dO_names]; exact List.mem_map.mpr ⟨k, hk, rfl⟩) (by rw [List.length_map]; exact hz)]
  congr 2
  rw [List.map_map]
  refine List.map_congr_left fun i hm => ?_
  show (if nm i = nm k then (nm i, W.int v) else (nm i, W.int (f i))) = (nm i, W.int (if i = k then v else f i))
  by_cases e : i = k
  · subst e
    rw [if_pos rfl, if_pos rfl]
  · rw [if_neg e, if_neg (fun z => e (hi i k (hl i hm) (hl k hk) z))]
theorem set_dOn (f : Nat → Int) {k : Nat} (hkN : k < N) (hk : k ∉ l) (hz : l.length < sizeL) (v : Int) : setItW (dO nm l f) (.str (sx (nm k))) (.int v) = some (dO nm (l ++ [k]) fun i => if i = k then v else f i) := by
  unfold dO
  rw [set_new (by
    rw [dO_names]
    intro hm
    obtain ⟨i, h1, h2⟩ := List.mem_map.mp hm
    have := hi i k (hl i h1) hkN h2
    subst this
    exact hk h1) (by rw [List.length_map]; exact hz)]
  congr 2
  rw [List.map_append]
  congr 1
  · refine List.map_congr_left fun i hm => ?_
    show (nm i, W.int (f i)) = (nm i, W.int (if i = k then v else f i))
    rw [if_neg fun e => hk (by rw [← e]; exact hm)]
  · show [(nm k, W.int v)] = [(nm k, W.int (if k = k then v else f k))]
    rw [if_pos rfl]
omit hi hl in
theorem dO_congr {f g : Nat → Int} (h : ∀ i ∈ l, f i = g i) : dO nm l f = dO nm l g := by
  unfold dO
  congr 1
  exact List.map_congr_left fun i hm => by rw [h i hm]
end
def stC (rv : W) (nm : Nat → List Nat) (l : List Nat) (cm : Nat → Int) (tk rt mu ar fl lv : W) : Cell := ⟨"Stream", [("river", (.v, rv)), ("order", (.v, .lst (nmW nm l))), ("coming", (.v, dO nm l cm)), ("taken", (.o, tk)), ("returned", (.o, rt)), ("must", (.o, mu)), ("arrives", (.o, ar)), ("flow", (.o, fl)), ("leaves", (.o, lv))]⟩
section
variable {S : Store} {n : Nat} (hn : n < S.length) {rv : W} {nm : Nat → List Nat} {l : List Nat} {cm : Nat → Int} {tk rt mu ar fl lv : W}
include hn
end
end Wb

namespace Wb
open PySem PySem.Spec PyProof.Rows
def tkG (tk : Nat → Int) (r : Rn) (a : Int) : Nat → Int := if r.so = 1 then tk else fun i => if i = r.pl then tk r.pl + a else tk i
def muG (mu : Nat → Int) (r : Rn) (a : Int) : Nat → Int := if r.so = 1 then fun i => if i = r.pl then mxI (mu r.pl) a else mu i else mu
def rtG (rt : Nat → Int) (r : Rn) (a : Int) : Nat → Int := match r.bk with
  | none => rt
  | some q => fun i => if i = q.2 then rt q.2 + a * q.1 / 1000 else rt i
section
variable {S : Store} {n : Nat} (hn : n < S.length) {nm : Nat → List Nat} {N : Nat} {lo : Nat → Option Nat} {ls : Nat → Int} (ok : RvOk nm N lo ls) {l : List Nat} (od : Ordd N lo l) {cm tk rt mu : Nat → Int}
include hn ok od
end
def goW (ls tk rt : Nat → Int) (k : Nat) (a : Int) : Int := mxI (a - tk k + rt k - ls k) 0
/-- the places P are reckoned -/
def FDok (nm : Nat → List Nat) (l P : List Nat) (v : Nat → Int) (w : W) : Prop := w = dO nm P v ∨ ∃ old : Nat → Int, w = dO nm l fun i => if i ∈ P then v i else old i
section
variable {nm : Nat → List Nat} {N : Nat} (hi : Inj nm N) {l P : List Nat} (hl : ∀ i ∈ l, i < N) {k : Nat} {v : Nat → Int} {w : W}
include hi hl
theorem FDok.step (hz : l.length < sizeL) (hP : ∀ i ∈ P, i ∈ l) (hPl : P.length ≤ l.length) (hk : k ∈ l) (hkP : k ∉ P) (h : FDok nm l P v w) : ∃ w', setItW w (.str (sx (nm k))) (.int (v k)) = some w' ∧ FDok nm l (P ++ [k]) v w' ∧ subW w' (.str (sx (nm k))) = some (.int (v k)) := by
  rcases h with rfl | ⟨old, rfl⟩
  · have e : (dO nm (P ++ [k]) fun i => if i = k then v k else v i) = dO nm (P ++ [k]) v := dO_congr fun i _ => by
      by_cases e : i = k
      · rw [if_pos e, e]
      · rw [if_neg e]
    have z := set_dOn hi (fun i hm => hl i (hP i hm)) v (hl k hk) hkP (by omega) (v k)
    rw [e] at z
    refine ⟨_, z, .inl rfl, sub_dO hi (fun i hm => ?_) v (List.mem_append.mpr (.inr (List.mem_singleton.mpr rfl)))⟩
    rcases List.mem_append.mp hm with hm | hm
    · exact hl i (hP i hm)
    · rw [List.mem_singleton.mp hm]; exact hl k hk
  · have e : (dO nm l fun i => if i = k then v k else if i ∈ P then v i else old i) = dO nm l fun i => if i ∈ P ++ [k] then v i else old i := dO_congr fun i _ => by
      by_cases e : i = k
      · rw [if_pos e, e, if_pos (List.mem_append.mpr (.inr (List.mem_singleton.mpr rfl)))]
      · rw [if_neg e]
        by_cases hp : i ∈ P
        · rw [if_pos hp, if_pos (List.mem_append.mpr (.inl hp))]
        · rw [if_neg hp, if_neg (fun z => by rcases List.mem_append.mp z with z | z; exact hp z; exact e (List.mem_singleton.mp z))]
    have z := set_dOo hi hl (fun i => if i ∈ P then v i else old i) hk hz (v k)
    rw [e] at z
    refine ⟨_, z, .inr ⟨old, rfl⟩, ?_⟩
    rw [sub_dO hi hl _ hk, if_pos (List.mem_append.mpr (.inr (List.mem_singleton.mpr rfl)))]
omit hi hl in
theorem FDok.fin (h : FDok nm l l v w) : w = dO nm l v := by
  rcases h with h | ⟨old, h⟩
  · exact h
  · rw [h]
    exact dO_congr fun i hm => by rw [if_pos hm]
end
def strB : List S := [.seti (.fld (.var 0) "flow") (.var 1) (.bin .sub (.sub (.attr (.var 0) "arrives") (.var 1)) (.sub (.attr (.var 0) "taken") (.var 1))), .seti (.fld (.var 0) "leaves") (.var 1) (.bin .add (.sub (.attr (.var 0) "flow") (.var 1)) (.sub (.attr (.var 0) "returned") (.var 1))), .asg 2 (.meth F_River_next_of (.attr (.var 0) "river") [(.var 1)] 0), .ife (.cmp .notN (.var 2) (.cst .non)) [.augi (.fld (.var 0) "arrives") (.var 2) .add (.bcall .max2 [(.bin .sub (.sub (.attr (.var 0) "leaves") (.var 1)) (.pmeth F_River_loss_of (.attr (.var 0) "river") [(.var 1)])), (.cst (.int 0))])] []]
section
variable {S : Store} {n : Nat} (hn : n < S.length) {nm : Nat → List Nat} {N : Nat} {lo : Nat → Option Nat} {ls : Nat → Int} (ok : RvOk nm N lo ls) {l : List Nat} (od : Ordd N lo l) {cm tk rt : Nat → Int} {mu : W}
include hn ok od
end
end Wb

namespace Wb
open PySem PySem.Spec PyProof.Rows
def cI (ks : List Nat) (c : Nat → Int) (k : Nat) : Int := if k ∈ ks then c k else 0
/-- a dict from some places to amounts -/
structure InOk (N : Nat) (ks : List Nat) (c : Nat → Int) : Prop where
  nd : ks.Nodup
  lt : ∀ k ∈ ks, k < N
  len : ks.length ≤ 60
  b : ∀ k ∈ ks, 0 ≤ c k ∧ c k ≤ 1000000000
theorem InOk.nil (N : Nat) (c : Nat → Int) : InOk N [] c := ⟨List.nodup_nil, (fun k h => by cases h), Nat.zero_le _, (fun k h => by cases h)⟩
section
variable {S : Store} {nm : Nat → List Nat} {N : Nat} {lo : Nat → Option Nat} {ls : Nat → Int} (ok : RvOk nm N lo ls)
include ok
abbrev OrdD (N : Nat) (lo : Nat → Option Nat) : List Nat := dueN N lo N
theorem RvOk.od : Ordd N lo (dueN N lo N) := ordd_due ok.lok.lt
def newSt (rv : W) (nm : Nat → List Nat) (l : List Nat) (cm : Nat → Int) : Cell := stC rv nm l cm (dO nm l fun _ => 0) (dO nm l fun _ => 0) (dO nm l fun _ => 0) (.dct []) (.dct []) (.dct [])
end
def tkN (rf : Nat → Rn) (am : Nat → Int) : Nat → Nat → Int
  | 0 => fun _ => 0
  | t + 1 => tkG (tkN rf am t) (rf t) (am t)
def rtN (rf : Nat → Rn) (am : Nat → Int) : Nat → Nat → Int
  | 0 => fun _ => 0
  | t + 1 => rtG (rtN rf am t) (rf t) (am t)
def muN (rf : Nat → Rn) (am : Nat → Int) : Nat → Nat → Int
  | 0 => fun _ => 0
  | t + 1 => muG (muN rf am t) (rf t) (am t)
def arrV (lo : Nat → Option Nat) (ls cm tk rt : Nat → Int) (l : List Nat) (k : Nat) : Int := procA lo (goW ls tk rt) cm l k
def runSt (rv : W) (nm : Nat → List Nat) (lo : Nat → Option Nat) (ls : Nat → Int) (l : List Nat) (cm tk rt mu : Nat → Int) : Cell := stC rv nm l cm (dO nm l tk) (dO nm l rt) (dO nm l mu) (dO nm l (procA lo (goW ls tk rt) cm l)) (dO nm l fun i => procA lo (goW ls tk rt) cm l i - tk i) (dO nm l fun i => procA lo (goW ls tk rt) cm l i - tk i + rt i)
def amW (am : Nat → Int) (m : Nat) : List W := (List.range m).map fun j => W.int (am j)
def sofB : List S := [.expr (.meth F_Stream_give (.var 5) [(.var 6), (.var 7)] 0)]
section
variable {S : Store} {nm : Nat → List Nat} {N : Nat} {lo : Nat → Option Nat} {ls : Nat → Int} (ok : RvOk nm N lo ls) {ks kr : List Nat} {c d : Nat → Int} (hc : InOk N ks c) (hd : InOk N kr d) {rf : Nat → Rn} {m : Nat} (hrf : ∀ k, k < m → RnOk N lo ls (rf k)) (hm : m ≤ 1000) (am : Nat → Int)
include ok hc hd hrf hm
end
end Wb

namespace Wb
open PySem PySem.Spec PyProof.Rows
def flowsW (nm : Nat → List Nat) (N : Nat) (V tk rt : Nat → Int) : W := dK ((List.range N).map fun k => (nm k, W.tup [.int (V k), .int (V k - tk k), .int (V k - tk k + rt k)]))
def posB (N : Nat) (fl mu : Nat → Int) : Bool := (List.range N).all fun k => !decide (fl k < mu k)
section
variable {S : Store} {n : Nat} (hn : n < S.length) {nm : Nat → List Nat} {N : Nat} {lo : Nat → Option Nat} {ls : Nat → Int} (ok : RvOk nm N lo ls) {l : List Nat} (od : Ordd N lo l) {cm tk rt mu : Nat → Int}
include hn ok od
def ispB : List Wb.S := [.ife (.cmp .lt (.sub (.attr (.var 0) "flow") (.var 1)) (.sub (.attr (.var 0) "must") (.var 1))) [.ret (.cst (.bl false))] []]
end
def ckpB : List S := [.ife (.not (.tru (.meth F_River_has_place (.var 0) [(.var 2)] 0))) [.raise X_UnknownName [(.var 2)]] []]
def ckaB : List S := [.expr (.call F_check_amount [(.sub (.var 0) (.var 1))] 0)]
section
variable {S : Store} {nm : Nat → List Nat} {N : Nat} {lo : Nat → Option Nat} {ls : Nat → Int} (ok : RvOk nm N lo ls)
include ok
end
end Wb

namespace Wb
open PySem PySem.Spec PyProof.Rows
/-- a dict of names: its names, sorted, and what they hold -/
structure DictW (w : W) (T : List (List Nat)) (v : List Nat → Int) : Prop where
  so : ∃ L : List (List Nat), biW .list [w] = some (true, .lst (L.map fun a => .str (sx a))) ∧ biW .sorted [.lst (L.map fun a => .str (sx a))] = some (true, .lst (T.map fun a => .str (sx a)))
  val : ∀ a ∈ T, subW w (.str (sx a)) = some (.int (v a))
def rngB (x : Int) : Bool := decide (0 ≤ x ∧ x ≤ 1000000000)
def sitR (S : Store) (P : List Nat → Bool) (T1 : List (List Nat)) (v1 : List Nat → Int) (T2 : List (List Nat)) (v2 : List Nat → Int) (am : List Int) (m : Nat) : R (W × List W) :=
  match T1.find? fun a => !P a with
  | some a => .exn "UnknownName" (eUn a) S
  | none => match T2.find? fun a => !P a with
    | some a => .exn "UnknownName" (eUn a) S
    | none => match T1.find? fun a => !rngB (v1 a) with
      | some a => .exn "OutOfRange" (eOut (v1 a)) S
      | none => match T2.find? fun a => !rngB (v2 a) with
        | some a => .exn "OutOfRange" (eOut (v2 a)) S
        | none => if am.length ≠ m then .exn "OutOfRange" (eOut am.length) S else match am.find? fun x => decide (x < 0) with
          | some x => .exn "OutOfRange" (eOut x) S
          | none => .ok (.non, []) S
def sitB : List S := [.ife (.cmp .lt (.var 5) (.cst (.int 0))) [.raise X_OutOfRange [(.var 5)]] []]
section
variable {S : Store} {nm : Nat → List Nat} {N : Nat} {lo : Nat → Option Nat} {ls : Nat → Int} (ok : RvOk nm N lo ls)
include ok
end
def valN (nm : Nat → List Nat) (N : Nat) (c : Nat → Int) (a : List Nat) : Int := ((List.range N).find? fun k => decide (nm k = a)).elim 0 c
/-- what may be told of what is released -/
def RelOk (nm : Nat → List Nat) (w w2 : W) : Prop := (w = .non ∧ w2 = .dct []) ∨ (w = w2 ∧ ∃ kvs, w = .dct kvs)
section
variable {S : Store} {nm : Nat → List Nat} {N : Nat} {lo : Nat → Option Nat} {ls : Nat → Int} (ok : RvOk nm N lo ls)
include ok
variable {ks kr : List Nat} {c d : Nat → Int} (hc : InOk N ks c) (hd : InOk N kr d) {rf : Nat → Rn} {m : Nat} (hrf : ∀ k, k < m → RnOk N lo ls (rf k)) (hm : m ≤ 1000) {am : Nat → Int} (ham : ∀ k, k < m → 0 ≤ am k)
include hc hd hrf hm ham
def cmF (ks : List Nat) (c : Nat → Int) (kr : List Nat) (d : Nat → Int) (k : Nat) : Int := cI ks c k + cI kr d k
/-- what arrives -/
def arF (N : Nat) (lo : Nat → Option Nat) (ls : Nat → Int) (ks : List Nat) (c : Nat → Int) (kr : List Nat) (d : Nat → Int) (rf : Nat → Rn) (am : Nat → Int) (m : Nat) : Nat → Int := procA lo (goW ls (tkN rf am m) (rtN rf am m)) (cmF ks c kr d) (dueN N lo N)
end
end Wb

namespace Wb
open PySem PySem.Spec PyProof.Rows
def li (N : Nat) (f : Nat → Int) : List W := (List.range N).map fun k => W.int (f k)
section
variable {env : Env} {S : Store}
end
abbrev eF (a b c d e f g h i j k l m o : OE) : Env := [a, b, c, d, e, f, g, h, i, j, k, l, m, o]
def lfB1 : List S := [.ife (.cmp .ne (.sub (.sub (.var 2) (.var 10)) (.cst (.str (sx [115, 111, 114, 116])))) (.cst (.str (sx [107, 101, 101, 112])))) [.seti (.slot 9) (.sub (.sub (.var 2) (.var 10)) (.cst (.str (sx [112, 108, 97, 99, 101])))) (.bin .add (.sub (.var 9) (.sub (.sub (.var 2) (.var 10)) (.cst (.str (sx [112, 108, 97, 99, 101]))))) (.sub (.var 3) (.var 10)))] [], .ife (.cmp .notN (.sub (.sub (.var 2) (.var 10)) (.cst (.str (sx [98, 97, 99, 107])))) (.cst .non)) [.seti (.slot 8) (.sub (.sub (.var 2) (.var 10)) (.cst (.str (sx [98, 97, 99, 107])))) (.bin .add (.sub (.var 8) (.sub (.sub (.var 2) (.var 10)) (.cst (.str (sx [98, 97, 99, 107]))))) (.bin .fdiv (.bin .mul (.sub (.var 3) (.var 10)) (.sub (.sub (.var 2) (.var 10)) (.cst (.str (sx [112, 97, 114, 116]))))) (.cst (.int 1000))))] []]
def lfB2 : List S := [.asg 12 (.bin .sub (.bin .sub (.bcall .len [(.var 0)]) (.cst (.int 1))) (.var 11)), .seti (.slot 6) (.var 12) (.bin .sub (.sub (.var 5) (.var 12)) (.sub (.var 9) (.var 12))), .seti (.slot 7) (.var 12) (.bin .add (.sub (.var 6) (.var 12)) (.sub (.var 8) (.var 12))), .ife (.cmp .notN (.sub (.sub (.var 0) (.var 12)) (.cst (.int 1))) (.cst .non)) [.seti (.slot 5) (.sub (.sub (.var 0) (.var 12)) (.cst (.int 1))) (.bin .add (.sub (.var 5) (.sub (.sub (.var 0) (.var 12)) (.cst (.int 1)))) (.bcall .max2 [(.cst (.int 0)), (.bin .sub (.sub (.var 7) (.var 12)) (.sub (.sub (.var 0) (.var 12)) (.cst (.int 2))))]))] []]
def lfZ : E := .lc (.one 13) .iter [(.var 0)] [] (.cst (.int 0)) [("row", 13)]
def lfA : E := .lc (.one 13) .iter [(.var 0)] [] (.bin .add (.bmeth .get2 (.var 1) [(.sub (.var 13) (.cst (.int 0))), (.cst (.int 0))]) (.bmeth .get2 (.var 4) [(.sub (.var 13) (.cst (.int 0))), (.cst (.int 0))])) [("row", 13)]
def lfR : E := .lc (.one 10) .range [(.bcall .len [(.var 0)])] [] (.tup [(.sub (.var 5) (.var 10)), (.sub (.var 6) (.var 10)), (.sub (.var 7) (.var 10))]) [("k", 10)]
section
variable {S : Store} {N : Nat} {lo : Nat → Option Nat} {ls : Nat → Int} (ok : PreOk N lo ls) (h1 : 1 ≤ N) (h12 : N ≤ 12)
include ok h1 h12
end
end Wb

namespace Wb
open PySem PySem.Spec PyProof.Rows
def restW (N : Nat) (V tk rt : Nat → Int) : List W := (List.range N).map fun k => W.tup [.int (V k), .int (V k - tk k), .int (V k - tk k + rt k)]
/-- the places that stand already -/
def stF (P : List Nat) (v : Nat → Int) (i : Nat) : Int := if i ∈ P then v i else 0
section
variable {S : Store} {N : Nat} {lo : Nat → Option Nat} {ls : Nat → Int} (ok : PreOk N lo ls) (h1 : 1 ≤ N) (h12 : N ≤ 12) {ks kr : List Nat} {c d : Nat → Int} (hc : InOk N ks c) (hd : InOk N kr d) {rf : Nat → Rn} {m : Nat} (hrf : ∀ k, k < m → RnOk N lo ls (rf k)) (hm : m ≤ 1000) {D : Nat → W} (hD : ∀ k, k < m → Rdct (D k) (rf k)) (am : Nat → Int)
include ok h1 h12 hc hd hrf hm hD
end
end Wb

namespace Wb
open PySem PySem.Spec PyProof.Rows
def posL (N : Nat) (rf : Nat → Rn) (am : Nat → Int) (m : Nat) (fl : Nat → Int) : Bool := ((List.range N).all fun k => !decide (fl k < 0)) && ((List.range m).all fun j => !(decide ((rf j).so = 1) && decide (fl (rf j).pl < am j)))
def lpB1 : List S := [.ife (.cmp .lt (.sub (.sub (.var 5) (.var 6)) (.cst (.int 1))) (.cst (.int 0))) [.ret (.cst (.bl false))] []]
def lpB2 : List S := [.ife (.and (.cmp .eq (.sub (.sub (.var 2) (.var 6)) (.cst (.str (sx [115, 111, 114, 116])))) (.cst (.str (sx [107, 101, 101, 112])))) (.cmp .lt (.sub (.sub (.var 5) (.sub (.sub (.var 2) (.var 6)) (.cst (.str (sx [112, 108, 97, 99, 101]))))) (.cst (.int 1))) (.sub (.var 3) (.var 6)))) [.ret (.cst (.bl false))] []]
section
variable {S : Store} {N : Nat} {lo : Nat → Option Nat} {ls : Nat → Int} (ok : PreOk N lo ls) (h1 : 1 ≤ N) (h12 : N ≤ 12) {ks kr : List Nat} {c d : Nat → Int} (hc : InOk N ks c) (hd : InOk N kr d) {rf : Nat → Rn} {m : Nat} (hrf : ∀ k, k < m → RnOk N lo ls (rf k)) (hm : m ≤ 1000) {D : Nat → W} (hD : ∀ k, k < m → Rdct (D k) (rf k)) (am : Nat → Int)
include ok h1 h12 hc hd hrf hm hD
end
def waB : List S := [.ife (.cmp .gt (.bin .mod (.bcall .int [(.sub (.var 4) (.var 7))]) (.cst (.int 4))) (.cst (.int 0))) [.seti (.slot 5) (.sub (.sub (.var 1) (.var 7)) (.cst (.int 0))) (.sub (.var 4) (.var 7))] [], .ife (.cmp .eq (.bin .mod (.bcall .int [(.sub (.var 4) (.var 7))]) (.cst (.int 7))) (.cst (.int 1))) [.seti (.slot 6) (.sub (.sub (.var 1) (.var 7)) (.cst (.int 0))) (.bin .fdiv (.sub (.var 4) (.var 7)) (.cst (.int 3)))] []]
abbrev e9w (a b c d e f g h i : OE) : Env := [a, b, c, d, e, f, g, h, i]
section
variable {S : Store} {N : Nat} {lo : Nat → Option Nat} {ls : Nat → Int} (ok : PreOk N lo ls) (h1 : 1 ≤ N) (h12 : N ≤ 12)
include ok h1 h12
end
end Wb

namespace Wb
open PySem PySem.Spec PyProof.Rows
def okE : Nat → W → Bool
  | 0, _ => false
  | n + 1, w => match w with
    | .tup ws => ws.all (okE n)
    | .lst ws => ws.all (okE n)
    | .dct ks => decide (ks.map (·.1)).Nodup && ks.all fun p => okE n p.2
    | w => flatW w
def tdB : List S := [.ife (.cmp .eq (.var 0) (.cst (.int 0))) [.ret (.tup [(.cst (.str (sx [118, 97, 108, 117, 101]))), (.call F_flows [(.var 1), (.var 2), (.var 3), (.var 4), (.var 5)] 0)])] [], .ret (.tup [(.cst (.str (sx [118, 97, 108, 117, 101]))), (.call F_is_possible [(.var 1), (.var 2), (.var 3), (.var 4), (.var 5)] 0)])]
def tdH : List Hnd := [⟨"UnknownName", some 6, [.ret (.tup [.cst (.str (sx [110, 97, 109, 101])), .fld "name"])]⟩, ⟨"OutOfRange", some 6, [.ret (.tup [.cst (.str (sx [114, 97, 110, 103, 101])), .fld "value"])]⟩, ⟨"WeirError", none, [.ret (.tup [.cst (.str (sx [111, 116, 104, 101, 114])), .cst (.int 0)])]⟩]
def nameS : List Nat := [110, 97, 109, 101]
def rangeS : List Nat := [114, 97, 110, 103, 101]
def valueS : List Nat := [118, 97, 108, 117, 101]
section
variable {S : Store} {rv w1 rs am w : W}
end
end Wb

namespace Wb
open PySem PySem.Spec PyProof.Rows
def zzL : List Nat := [122, 122]
def yyL : List Nat := [121, 121]
def xxL : List Nat := [120, 120]
def plB (N : Nat) (a : List Nat) : Bool := decide (a ∈ nsN nmR N)
section
variable {S : Store} {N : Nat} {lo : Nat → Option Nat} {ls : Nat → Int} (ok : RvOk nmR N lo ls) (h12 : N ≤ 12) {way : Int} (hw : way = 0 ∨ way = 1)
include ok h12 hw
end
abbrev e19 (a0 a1 a2 a3 a4 a5 a6 a7 a8 a9 a10 a11 a12 a13 a14 a15 a16 a17 a18 : OE) : Env := [a0, a1, a2, a3, a4, a5, a6, a7, a8, a9, a10, a11, a12, a13, a14, a15, a16, a17, a18]
def rowN (j : Nat) : E := .sub (.sub (.var 1) (.cst (.int j))) (.cst (.int 0))
def ft1 : S := .ife (.cmp .ne (.call F_l_told [(.var 15), (.var 2), (.dct [(.cst (.str (sx [122, 122]))), (.neg (.cst (.int 1))), (.cst (.str (sx [121, 121]))), (.cst (.int 5))]), (.var 4), (.var 7), (.dct [(.cst (.str (sx [120, 120]))), (.cst (.int 5))])] 0) (.tup [(.cst (.str (sx [110, 97, 109, 101]))), (.cst (.str (sx [121, 121])))])) [.ret (.cst (.bl false))] []
def ft2 : S := .ife (.cmp .ne (.call F_l_told [(.var 15), (.var 2), (.dct [(.sub (.sub (.var 1) (.cst (.int 0))) (.cst (.int 0))), (.neg (.cst (.int 1)))]), (.var 4), (.var 7), (.dct [(.cst (.str (sx [120, 120]))), (.cst (.int 5))])] 0) (.tup [(.cst (.str (sx [110, 97, 109, 101]))), (.cst (.str (sx [120, 120])))])) [.ret (.cst (.bl false))] []
def ft3a : S := .asg 17 (.bcall .sorted [(.lst [(.sub (.sub (.var 1) (.cst (.int 0))) (.cst (.int 0))), (.sub (.sub (.var 1) (.cst (.int 1))) (.cst (.int 0)))])])
def ft3b : S := .ife (.cmp .ne (.call F_l_told [(.var 15), (.var 2), (.dct [(.sub (.var 17) (.cst (.int 1))), (.neg (.cst (.int 1))), (.sub (.var 17) (.cst (.int 0))), (.neg (.cst (.int 2)))]), (.var 4), (.var 7), (.cst .non)] 0) (.tup [(.cst (.str (sx [114, 97, 110, 103, 101]))), (.neg (.cst (.int 2)))])) [.ret (.cst (.bl false))] []
def ft3 : S := .ife (.cmp .gt (.bcall .len [(.var 1)]) (.cst (.int 1))) [ft3a, ft3b] []
def ft4 : S := .ife (.cmp .ne (.call F_l_told [(.var 15), (.var 2), (.dct [(.sub (.sub (.var 1) (.cst (.int 0))) (.cst (.int 0))), (.neg (.cst (.int 1)))]), (.var 4), (.var 7), (.dct [(.sub (.sub (.var 1) (.cst (.int 0))) (.cst (.int 0))), (.cst (.int 1000000001))])] 0) (.tup [(.cst (.str (sx [114, 97, 110, 103, 101]))), (.neg (.cst (.int 1)))])) [.ret (.cst (.bl false))] []
def ft5 : S := .ife (.cmp .ne (.call F_l_told [(.var 15), (.var 2), (.dct []), (.var 4), (.bin .add (.var 7) (.lst [(.neg (.cst (.int 5)))])), (.dct [(.sub (.sub (.var 1) (.cst (.int 0))) (.cst (.int 0))), (.cst (.int 1000000001))])] 0) (.tup [(.cst (.str (sx [114, 97, 110, 103, 101]))), (.cst (.int 1000000001))])) [.ret (.cst (.bl false))] []
def ft6 : S := .ife (.cmp .ne (.call F_l_told [(.var 15), (.var 2), (.dct []), (.var 4), (.bin .add (.var 7) (.lst [(.neg (.cst (.int 5)))])), (.cst .non)] 0) (.tup [(.cst (.str (sx [114, 97, 110, 103, 101]))), (.bin .add (.bcall .len [(.var 7)]) (.cst (.int 1)))])) [.ret (.cst (.bl false))] []
def ft7c : E := .cmp .ne (.call F_l_told [(.var 15), (.var 2), (.dct []), (.var 4), (.bin .add (.slice (.var 7) [(.cst (.int 1))] []) (.lst [(.neg (.cst (.int 5)))])), (.cst .non)] 0) (.tup [(.cst (.str (sx [114, 97, 110, 103, 101]))), (.neg (.cst (.int 5)))])
def ft7 : S := .ife (.and (.cmp .gt (.bcall .len [(.var 7)]) (.cst (.int 0))) ft7c) [.ret (.cst (.bl false))] []
def ftB : List S := [ft1, ft2, ft3, ft4, ft5, ft6, ft7]
section
variable {S : Store} {N : Nat} {lo : Nat → Option Nat} {ls : Nat → Int} (ok : PreOk N lo ls) (h1 : 1 ≤ N) (h12 : N ≤ 12) (rf : Nat → Rn) {m : Nat} (hm : m ≤ 100) {am : Nat → Int} (ham : ∀ k, k < m → 0 ≤ am k) {way : Nat} (hway : way < 2)
include ok h1 h12 hm ham hway
end
end Wb

namespace Wb
open PySem PySem.Spec PyProof.Rows
def la1 : S := .asg 1 (.call F_l_made_river [(.call F_l_cell [(.var 0), (.cst (.int 0))] 0), (.cst (.int 8))] 0)
def la2 : S := .asg 2 (.call F_read_river [(.call F_l_river_text [(.var 1)] 0)] 0)
def la3 : S := .asg 3 (.call F_l_rights [(.call F_l_cell [(.var 0), (.cst (.int 1))] 0), (.var 1), (.bin .mod (.bcall .int [(.call F_l_cell [(.var 0), (.cst (.int 2))] 0)]) (.cst (.int 7)))] 0)
def la4 : S := .asg 4 (.call F_l_all_rights [(.var 2), (.var 1), (.var 3)] 0)
def la5 : S := .asg 5 (.call F_l_water [(.bcall .abs [(.call F_l_cell [(.var 0), (.cst (.int 3))] 0)]), (.var 1)] 0)
def la6 : S := .asg 6 (.call F_l_draw [(.call F_l_cell [(.var 0), (.cst (.int 4))] 0), (.lc (.one 18) .iter [(.var 3)] [] (.cst (.int 1100)) [("right", 18)])] 0)
def la7e : E := .bin .fdiv (.bcall .min2 [(.sub (.var 6) (.var 10)), (.bin .add (.sub (.sub (.var 3) (.var 10)) (.cst (.str (sx [97, 109, 111, 117, 110, 116])))) (.cst (.int 50)))]) (.sub (.lst [(.cst (.int 1)), (.cst (.int 20))]) (.bin .mod (.bcall .int [(.call F_l_cell [(.var 0), (.cst (.int 5))] 0)]) (.cst (.int 2))))
def la7 : S := .asg 7 (.lc (.one 10) .range [(.bcall .len [(.var 3)])] [] la7e [("k", 10)])
def la8 : S := .asg 8 (.call F_l_flows [(.var 1), (.sub (.var 5) (.cst (.int 0))), (.var 3), (.var 7), (.sub (.var 5) (.cst (.int 1)))] 0)
def lb1B : List S := [.seti (.slot 9) (.sub (.sub (.var 1) (.var 10)) (.cst (.int 0))) (.sub (.var 8) (.var 10))]
def lb1 : S := .for_ (.one 10) .range [(.bcall .len [(.var 1)])] lb1B
def lb2 : S := .asg 11 (.tup [(.bcall .dict [(.sub (.var 5) (.cst (.int 0)))]), (.bcall .list [(.var 7)]), (.bcall .dict [(.sub (.var 5) (.cst (.int 1)))])])
def lb3 : S := .asg 12 (.call F_l_told [(.cst (.int 0)), (.var 2), (.sub (.var 11) (.cst (.int 0))), (.var 4), (.sub (.var 11) (.cst (.int 1))), (.sub (.var 11) (.cst (.int 2)))] 0)
def lb4 : S := .ife (.or (.cmp .dne (.var 12) (.tup [(.cst (.str (sx [118, 97, 108, 117, 101]))), (.var 9)])) (.cmp .dne (.var 11) (.tup [(.sub (.var 5) (.cst (.int 0))), (.var 7), (.sub (.var 5) (.cst (.int 1)))]))) [.ret (.cst (.bl false))] []
def lb5B : List S := [.ife (.not (.tru (.call F_l_whole [(.var 16)] 0))) [.ret (.cst (.bl false))] []]
def lb5 : S := .for_ (.one 13) .keys [(.var 9)] [.for_ (.one 16) .iter [(.sub (.sub (.var 12) (.cst (.int 1))) (.var 13))] lb5B]
def lc1 : S := .asg 14 (.call F_l_told [(.cst (.int 1)), (.var 2), (.sub (.var 5) (.cst (.int 0))), (.var 4), (.var 7), (.sub (.var 5) (.cst (.int 1)))] 0)
def lc2 : S := .ife (.or (.cmp .ne (.var 14) (.tup [(.cst (.str (sx [118, 97, 108, 117, 101]))), (.call F_l_possible [(.var 1), (.sub (.var 5) (.cst (.int 0))), (.var 3), (.var 7), (.sub (.var 5) (.cst (.int 1)))] 0)])) (.not (.isi (.sub (.var 14) (.cst (.int 1))) .bool))) [.ret (.cst (.bl false))] []
def lc3 : S := .ife (.and (.cmp .eq (.bcall .len [(.sub (.var 5) (.cst (.int 1)))]) (.cst (.int 0))) (.cmp .dne (.call F_flows [(.var 2), (.sub (.var 5) (.cst (.int 0))), (.var 4), (.var 7)] 1) (.var 9))) [.ret (.cst (.bl false))] []
section
variable {S : Store} {N : Nat} {lo : Nat → Option Nat} {ls : Nat → Int} (ok : PreOk N lo ls) (h1 : 1 ≤ N) (h12 : N ≤ 12) {ks kr : List Nat} {c d : Nat → Int} (hc : InOk N ks c) (hd : InOk N kr d) {rf : Nat → Rt} {m : Nat} (hrf : ∀ k, k < m → RtOk N lo ls (rf k)) (hm : m ≤ 100) {am : Nat → Int} (ham : ∀ k, k < m → 0 ≤ am k)
include ok h1 h12 hc hd hrf hm ham
end
end Wb

namespace Wb
open PySem PySem.Spec PyProof.Rows
end Wb

open PySem PySem.W PySem.Calls PyProof.Rows
