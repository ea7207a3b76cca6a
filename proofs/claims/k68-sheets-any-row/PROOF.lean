import PyProof.Rows.All
import Wide.All
import OpenK.AllK
import Wide.FinOn
import KE.KDictKeyed
import KE.KDictDisplayH
import KE.KDictCopyH
import KE.KDictSum
import KE.KSortTupAny
import HandS.ForMost
import HandS.Keys
import HandS.DictTup
import HandS.TupSets
import HandS.ForExc
import HandS.IsInst
import HandS.TupLen
import HandS.Deep
import HandS.NoneIn
import PySem.Challenge.RW_frameland_k68_sheets_any_row
import HandS.Walk
import HandS.Codes
import HandS.WordsExc
set_option Elab.async false
set_option linter.all false
set_option maxRecDepth 100000
set_option maxHeartbeats 4000000
/-! Rules of our own: a holder's tuple; sorted of such; dicts keyed by tuples (a display of one pair, pop, setdefault, keys). -/
namespace Fl
open PySem PySem.Spec PyProof.Rows L2

/-- a holder: a bank's or a task's, and two numbers -/
structure Hd where
  bk : Bool
  k : Nat
  n : Nat
deriving DecidableEq
def Hd.txt (h : Hd) : Str := if h.bk then "bank" else "task"
def Hd.key (h : Hd) : List L2.Key := [Sum.inr h.txt, Sum.inl (h.k : Int), Sum.inl (h.n : Int)]
def Hd.vs (h : Hd) : List V := [V.str h.txt, V.int (h.k : Int), V.int (h.n : Int)]
theorem Hd.key_vs (h : Hd) : h.key.map kV = h.vs := rfl
def Hd.small (h : Hd) : Prop := h.k < 1000 ∧ h.n < 1000
def Hd.rank (h : Hd) : Int := (if h.bk then 0 else 1000000) + (h.k : Int) * 1000 + (h.n : Int)
theorem txt_inj {a b : Hd} (e : a.txt = b.txt) : a.bk = b.bk := by
  obtain ⟨a1, a2, a3⟩ := a
  obtain ⟨b1, b2, b3⟩ := b
  cases a1 <;> cases b1
  · rfl
  · exact absurd (show ("task" : Str) = "bank" from e) (by decide)
  · exact absurd (show ("bank" : Str) = "task" from e) (by decide)
  · rfl
theorem Hd.ext' {a b : Hd} (h1 : a.bk = b.bk) (h2 : a.k = b.k) (h3 : a.n = b.n) : a = b := by
  obtain ⟨a1, a2, a3⟩ := a
  obtain ⟨b1, b2, b3⟩ := b
  simp only at h1 h2 h3
  subst h1 h2 h3
  rfl
theorem key_inj {a b : Hd} (e : a.key = b.key) : a = b := by
  unfold Hd.key at e
  injection e with e1 e2
  injection e2 with e2 e3
  injection e3 with e3 _
  exact Hd.ext' (txt_inj (Sum.inr.inj e1)) (by have := Sum.inl.inj e2; omega) (by have := Sum.inl.inj e3; omega)
theorem rank_inj {a b : Hd} (ha : a.small) (hb : b.small) (e : a.rank = b.rank) : a = b := by
  obtain ⟨a1, a2⟩ := ha
  obtain ⟨b1, b2⟩ := hb
  unfold Hd.rank at e
  refine Hd.ext' ?_ ?_ ?_
  · cases h1 : a.bk <;> cases h2 : b.bk <;> rw [h1, h2] at e <;> simp at e <;> first | rfl | omega
  · cases h1 : a.bk <;> cases h2 : b.bk <;> rw [h1, h2] at e <;> simp at e <;> omega
  · cases h1 : a.bk <;> cases h2 : b.bk <;> rw [h1, h2] at e <;> simp at e <;> omega

/-! ### reading a holder off the heap -/
def HdIn (h : Heap) (v : Value) (q : Hd) : Prop := ∃ (a : Addr) (t1 t2 t3 : Tok), v = .ref a ∧ IsTup h a #[.str q.txt t1, .int (q.k : Int) t2, .int (q.n : Int) t3]
def rkItems : List Value → Int
  | [.str x _, .int i _, .int j _] => (if x = ("bank" : Str) then 0 else 1000000) + i * 1000 + j
  | _ => 0
def rkOf (h : Heap) : Value → Int
  | .ref a => match h.get? a with
    | some o => (match o.data with
      | .seq xs _ => rkItems xs.toList
      | _ => 0)
    | none => 0
  | _ => 0
theorem HdIn.rk {h : Heap} {v : Value} {q : Hd} (x : HdIn h v q) : rkOf h v = q.rank := by
  obtain ⟨a, t1, t2, t3, rfl, o, ho, hc, n, hd⟩ := x
  simp only [rkOf, ho, hd]
  show (if q.txt = ("bank" : Str) then 0 else 1000000) + (q.k : Int) * 1000 + (q.n : Int) = q.rank
  unfold Hd.rank
  have e : (if q.txt = ("bank" : Str) then (0 : Int) else 1000000) = if q.bk then 0 else 1000000 := by
    unfold Hd.txt
    cases q.bk with
    | true => rfl
    | false =>
      rw [if_neg Bool.false_ne_true, if_neg Bool.false_ne_true]
      exact if_neg (by decide)
  rw [e]
theorem HdIn.keeps {h h' : Heap} {v : Value} {q : Hd} (x : HdIn h v q) (k : ∀ b o, h.get? b = some o → o.cls = .type "tuple" → h'.get? b = some o) : HdIn h' v q := by
  obtain ⟨a, t1, t2, t3, e, o, ho, hc, r⟩ := x
  exact ⟨a, t1, t2, t3, e, o, k _ _ ho hc, hc, r⟩
section
variable {prog : Program} {w : World} {A : Around} {E : Value → Shared → Prop} {s : Shared}
open PySem.W in
theorem hd_firsts {h : Heap} : ∀ vs : List Value, (∀ v ∈ vs, ∃ q, HdIn h v q) → ∃ fs : List Value, PySem.W.KatTups h vs fs ∧ fs.length = vs.length ∧ ∀ f ∈ fs, ∃ (x : Str) (t : Tok), f = Value.str x t
  | [], _ => ⟨[], PySem.W.KatTups.nil, rfl, fun f hf => by simp at hf⟩
  | v :: vs, x => by
    obtain ⟨fs, k, hl, hi⟩ := hd_firsts vs fun u hu => x u (List.mem_cons_of_mem _ hu)
    obtain ⟨q, a, t1, t2, t3, rfl, o, ho, hc, n, hd⟩ := x v (List.mem_cons_self ..)
    refine ⟨.str q.txt t1 :: fs, PySem.W.KatTups.cons ho hc hd rfl k, by rw [List.length_cons, List.length_cons, hl], fun f hf => ?_⟩
    rcases List.mem_cons.mp hf with rfl | hf
    · exact ⟨_, _, rfl⟩
    · exact hi f hf
theorem txt_lt {a b : Hd} : decide (a.txt.cps.toList < b.txt.cps.toList) = (a.bk && !b.bk) := by
  unfold Hd.txt
  cases a.bk <;> cases b.bk <;> decide +kernel
theorem txt_eq {a b : Hd} : decide (a.txt = b.txt) = (a.bk == b.bk) := by
  by_cases e : a.bk = b.bk
  · rw [e]
    have : a.txt = b.txt := by unfold Hd.txt; rw [e]
    rw [this]
    simp
  · have z : ¬ a.txt = b.txt := fun q => e (txt_inj q)
    rw [decide_eq_false z]
    exact (beq_eq_false_iff_ne.mpr e).symm
theorem rank_lt {a b : Hd} (ha : a.small) (hb : b.small) : decide (a.rank < b.rank) = if a.bk = b.bk then (if a.k = b.k then decide (a.n < b.n) else decide (a.k < b.k)) else (a.bk && !b.bk) := by
  obtain ⟨a1, a2⟩ := ha
  obtain ⟨b1, b2⟩ := hb
  unfold Hd.rank
  rw [Bool.eq_iff_iff, decide_eq_true_iff]
  by_cases h : a.bk = b.bk
  · rw [if_pos h, h]
    by_cases h2 : a.k = b.k
    · rw [if_pos h2, h2, decide_eq_true_iff]; omega
    · rw [if_neg h2, decide_eq_true_iff]; omega
  · rw [if_neg h]
    cases e1 : a.bk <;> cases e2 : b.bk
    · exact absurd (e1.trans e2.symm) h
    · simp; omega
    · simp; omega
    · exact absurd (e1.trans e2.symm) h
open PySem.W in
theorem kind_hd {vs : List Value} (h2 : 2 ≤ vs.length) (x : ∀ v ∈ vs, ∃ q, HdIn s.heap v q ∧ q.small) {ρ : Value → Int} (hρ : ∀ v ∈ vs, ∀ q, HdIn s.heap v q → ρ v = q.rank) (Q : SortKind → Shared → Prop)
    (h : ∀ κ, TS.Cmp prog w A s κ (pairsOf vs) ρ → Q κ s) : wpAny (model prog w) A (keyKind' vs.toArray) Q E s := by
  obtain ⟨fs, k, hl, hi⟩ := hd_firsts vs fun v hv => let ⟨q, z, _⟩ := x v hv; ⟨q, z⟩
  refine kat_kind (T := Value.type "str") k (by omega) (fun f hf => ?_) rfl (h _ ?_)
  · obtain ⟨y, t, rfl⟩ := hi f hf
    exact .now
  · have hb : (Value.type "str" != Value.type "tuple") = true := by decide
    rw [hb]
    intro p q hp hq Q' E' hQ
    rw [pairsOf_toList] at hp hq
    have mp := (mem_zip_self hp).2
    have mq := (mem_zip_self hq).2
    obtain ⟨y, py, sy⟩ := x _ mp
    obtain ⟨z, pz, sz⟩ := x _ mq
    have hQ' : Q' (decide (y.rank < z.rank)) s := by
      have e : Q' (decide (ρ p.1 < ρ q.1)) s := hQ
      rw [hρ _ mp _ py, hρ _ mq _ pz] at e
      exact e
    rw [rank_lt sy sz] at hQ'
    obtain ⟨a, t1, t2, t3, e1, o, ho, hc, n, hd⟩ := py
    obtain ⟨a', t1', t2', t3', e2, o', ho', hc', n', hd'⟩ := pz
    rw [e1, e2]
    refine kat_lt ho hd ho' hd' ?_
    show KatLex prog w A true false Q' [(Value.str y.txt t1, Value.str z.txt t1'), (Value.int (y.k : Int) t2, Value.int (z.k : Int) t2'), (Value.int (y.n : Int) t3, Value.int (z.n : Int) t3')] 0 s
    refine kat_cons (wpAny_eqBool_str ?_)
    rw [txt_eq]
    refine kat_go (fun e0 => ?_) (fun e0 => ?_)
    · have eb : y.bk = z.bk := eq_of_beq e0
      rw [if_pos eb] at hQ'
      refine kat_yes (kat_cons (wpAny_eqBool_int ?_))
      refine kat_go (fun e3 => ?_) (fun e3 => ?_)
      · have ek : y.k = z.k := by have := eq_of_beq e3; omega
        rw [if_pos ek] at hQ'
        refine kat_yes (kat_cons (wpAny_eqBool_int ?_))
        refine kat_go (fun e4 => ?_) (fun e4 => ?_)
        · have en : y.n = z.n := by have := eq_of_beq e4; omega
          rw [en, decide_eq_false (Nat.lt_irrefl _)] at hQ'
          exact kat_yes (kat_nil hQ')
        · refine kat_no (oneLt_any_int ?_)
          have e5 : decide ((y.n : Int) < (z.n : Int)) = decide (y.n < z.n) := by
            rw [Bool.eq_iff_iff, decide_eq_true_iff, decide_eq_true_iff]; omega
          rw [e5]
          exact hQ'
      · have ek : ¬ y.k = z.k := fun e => by rw [e] at e3; simp at e3
        rw [if_neg ek] at hQ'
        refine kat_no (oneLt_any_int ?_)
        have e5 : decide ((y.k : Int) < (z.k : Int)) = decide (y.k < z.k) := by
          rw [Bool.eq_iff_iff, decide_eq_true_iff, decide_eq_true_iff]; omega
        rw [e5]
        exact hQ'
    · have eb : ¬ y.bk = z.bk := fun e => by rw [e] at e0; simp at e0
      rw [if_neg eb] at hQ'
      refine kat_no (oneLt_any_str ?_)
      rw [txt_lt]
      exact hQ'
end

/-! ### sorted(list of holders), sorted(d.keys()) -/
/-- at the address t.1 the holder t.2 -/
abbrev AtHd (H : Hp) (t : Addr × Hd) : Prop := H t.1 = some (.tup t.2.vs)
section
variable {X : Cx} {pins : List (Addr × Obj)} {σ : L2.St} {H : Hp} {s : Shared}
theorem hd_raw (I : Inv X pins σ H s) {t : Addr × Hd} (h : AtHd H t) : HdIn s.heap (.ref t.1) t.2 := by
  obtain ⟨_, its, rv, o, h1, h2, n, h3⟩ := (show ObjOk X.prog X.w H s.heap t.1 (.tup t.2.vs) from I.hok _ _ h)
  cases rv with
  | cons r1 r =>
    cases r with
    | cons r2 r =>
      cases r with
      | cons r3 r =>
        cases r
        obtain ⟨t1, rfl⟩ := r1
        obtain ⟨t2, rfl⟩ := r2
        obtain ⟨t3, rfl⟩ := r3
        exact ⟨t.1, t1, t2, t3, rfl, o, h1, h2, n, h3⟩
/-- the sort of a new list of holders (at a), up to the end of list.sort -/
theorem sort_hds {a : Addr} {n : Nat} {ts : List (Addr × Hd)} {P : PySem.Fin → Shared → Prop} {A : Around} {E : Value → Shared → Prop} {prog : Program} {w : World} (ho : s.heap.get? a = some (seqObj "list" (ts.map fun t => Value.ref t.1).toArray n)) (h64 : ts.length < 64)
    (x : ∀ t ∈ ts, HdIn s.heap (.ref t.1) t.2 ∧ t.2.small)
    (h : ∀ (out : Array Value) (us : List (Addr × Hd)), out.toList = us.map (fun t => Value.ref t.1) → us.Perm ts → us.Pairwise (fun p q => p.2.rank ≤ q.2.rank) → P (.done (.ret .none)) { s with heap := sortedHeap s.heap a (ts.map fun t => Value.ref t.1) out }) :
    wpAny (model prog w) A (Builtin.«list.sort» ⟨[.ref a], []⟩) P E s := by
  have ne : ∀ t ∈ ts, t.1 ≠ a := fun t ht e => by
    obtain ⟨⟨b, _, _, _, eb, o, ho', hc, _⟩, _⟩ := x t ht
    cases eb
    rw [e, ho] at ho'
    cases ho'
    exact absurd hc (by show ¬ Value.type "list" = Value.type "tuple"; decide)
  have mid : ∀ t ∈ ts, HdIn (TS.midHeap s.heap a (ts.map fun t => Value.ref t.1)) (.ref t.1) t.2 := fun t ht => by
    obtain ⟨b, t1, t2, t3, eb, o, ho', hc, r⟩ := (x t ht).1
    cases eb
    exact ⟨_, t1, t2, t3, rfl, o, TS.midHeap_old (ne t ht) ho', hc, r⟩
  refine SK.plain_sort (r := rkOf (TS.midHeap s.heap a (ts.map fun t => Value.ref t.1))) ho (by rw [List.length_map]; exact h64) (fun h2 Q hQ => ?_) fun ps out o1 o2 o3 => ?_
  · refine kind_hd h2 (fun v hv => ?_) (fun v _ q hq => hq.rk) Q hQ
    obtain ⟨t, ht, rfl⟩ := List.mem_map.mp hv
    exact ⟨t.2, mid t ht, (x t ht).2⟩
  · obtain ⟨us, pu, eu⟩ := perm_lift (fun t : Addr × Hd => (Value.ref t.1, Value.ref t.1)) o2 ts (by
      clear o1 o2 o3 h x mid ne h64 ho
      induction ts with
      | nil => rfl
      | cons t ts ih =>
        show (Value.ref t.1, Value.ref t.1) :: (ts.map fun t => (Value.ref t.1, Value.ref t.1)) = (Value.ref t.1, Value.ref t.1) :: ((ts.map fun t => Value.ref t.1).zip (ts.map fun t => Value.ref t.1))
        rw [ih])
    refine h out us (by rw [o1, ← eu, List.map_map]; all_goals rfl) pu ?_
    rw [← eu, List.pairwise_map] at o3
    refine List.Pairwise.imp_of_mem (fun {p q} hp hq hh => ?_) o3
    have e1 := (mid p (pu.mem_iff.mp hp)).rk
    have e2 := (mid q (pu.mem_iff.mp hq)).rk
    have hh' : rkOf (TS.midHeap s.heap a (ts.map fun t => Value.ref t.1)) (.ref p.1) ≤ rkOf (TS.midHeap s.heap a (ts.map fun t => Value.ref t.1)) (.ref q.1) := hh
    rw [e1, e2] at hh'
    exact hh'
theorem vals_ref1 : ∀ ts : List (Addr × Hd), Vals (ts.map fun t => V.ref t.1) (ts.map fun t => Value.ref t.1)
  | [] => .nil
  | _ :: r => .cons rfl (vals_ref1 r)
theorem vals_ref1_eq : ∀ (ts : List (Addr × Hd)) (us : List Value), Vals (ts.map fun t => V.ref t.1) us → us = ts.map fun t => Value.ref t.1
  | [], _, .nil => rfl
  | _ :: r, _, .cons h t => by cases h; rw [vals_ref1_eq r _ t]; rfl
/-- sorted(xs), xs a list of fewer than 64 holders -/
def rSortHd (K : PySem.W.Frag) : List V → Hp → VK → Prop := fun vs H Q => ∃ (a : Addr) (ts : List (Addr × Hd)), vs = [V.ref a] ∧ SqL K H a (ts.map fun t => V.ref t.1) ∧ ts.length < 64 ∧ (∀ t ∈ ts, AtHd H t ∧ t.2.small) ∧
  ∀ (us : List (Addr × Hd)) (p : Addr), us.Perm ts → us.Pairwise (fun p q => p.2.rank ≤ q.2.rank) → H p = none → Q (.ref p) (upd H p (.lst (us.map fun t => V.ref t.1)))
theorem cr_sortHd : CallR X (.builtin "sorted") (rSortHd X.K) := by
  intro pins s σ H vs us Q I r h
  obtain ⟨a, ts, rfl, hs, h64, hx, q⟩ := h
  obtain ⟨its, rv, hl, hz⟩ := I.list hs
  rw [Vals.ref1 r]
  have ei := vals_ref1_eq ts its rv
  subst ei
  have hlen : (ts.map fun t => Value.ref t.1).length ≤ sizeLine := by rw [List.length_map, sizeLine_eq]; omega
  refine Calls.call_function_entry kind_sorted plain_sorted entry_sorted (args_sorted1 _) ?_
  unfold Builtin.«sorted»
  refine wpAny_bind (m := checkCount "sorted" 1 1 _) (wpAny_pure ?_)
  refine wpAny_bind (collect_list hl.isList ?_ hlen)
  refine wpAny_bind (wpAny_newList ?_ hlen)
  have hsz : ((s.heap.push (seqObj "list" #[] 0)).update s.heap.objs.size (Obj.mapSeq (· ++ (ts.map fun t => Value.ref t.1).toArray))).objs.size = s.heap.objs.size + 1 := by
    rw [Heap.size_update, size_push']
  have hoL : (((s.heap.push (seqObj "list" #[] 0)).update s.heap.objs.size (Obj.mapSeq (· ++ (ts.map fun t => Value.ref t.1).toArray))).push (seqObj "list" (ts.map fun t => Value.ref t.1).toArray 0)).get? (s.heap.objs.size + 1) = some (seqObj "list" (ts.map fun t => Value.ref t.1).toArray 0) := by
    rw [← hsz]; exact Heap.get?_push_size _ rfl
  have keep : ∀ b o, s.heap.get? b = some o → o.cls = .type "tuple" → (((s.heap.push (seqObj "list" #[] 0)).update s.heap.objs.size (Obj.mapSeq (· ++ (ts.map fun t => Value.ref t.1).toArray))).push (seqObj "list" (ts.map fun t => Value.ref t.1).toArray 0)).get? b = some o := fun b o q _ => by
    have hlt : b < s.heap.objs.size := Heap.lt_size q
    rw [Heap.get?_push_ne _ _ _ (by rw [hsz]; exact Nat.ne_of_lt (Nat.lt_succ_of_lt hlt)), Heap.get?_update_ne _ _ _ _ (Nat.ne_of_lt hlt), Heap.get?_push_ne _ _ _ (Nat.ne_of_lt hlt)]
    exact q
  show wpAny _ _ _ _ _ { s with heap := ((s.heap.push (seqObj "list" #[] 0)).update s.heap.objs.size (Obj.mapSeq (· ++ (ts.map fun t => Value.ref t.1).toArray))).push (seqObj "list" (ts.map fun t => Value.ref t.1).toArray 0) }
  rw [hsz]
  refine wpAny_bind (wpAny_holding (wpAny_call_entry slot_list_sort ⟨_, hoL, rfl⟩ entry_list_sort (sort_hds hoL h64 (fun t ht => ⟨(hd_raw I (hx t ht).1).keeps keep, (hx t ht).2⟩) fun out us o1 o2 o3 => ⟨_, rfl, ?_⟩) (args_list_sort _)))
  refine wpAny_pure ⟨_, rfl, ?_⟩
  obtain ⟨ep, he'⟩ := PyProof.Rows.sortedAll_at s.heap (ts.map fun t => Value.ref t.1) out
  have hl2 : (us.map fun t => V.ref t.1).length ≤ sizeLine := by
    rw [List.length_map, o2.length_eq, sizeLine_eq]; omega
  have rv2 : Vals (us.map fun t => V.ref t.1) out.toList := by rw [o1]; exact vals_ref1 us
  exact ⟨.ref _, upd H (s.heap.objs.size + 1) (.lst (us.map fun t => V.ref t.1)), I.laid (t' := s.toks) (fun _ _ => PyProof.Rows.sortedAll_old) (Nat.le_succ _) ⟨hl2, out.toList, ep, rv2, he'⟩, rfl, q us _ o2 o3 (I.hok.fresh (Nat.le_succ _))⟩
end

/-! ### dicts whose keys are tuples -/
/-- the view d.keys() at p -/
def keysO (p d : Addr) : HO := .ext fun h => PySem.W.KdlKeysView h p d
theorem keysO_ok {P : Program} {w : World} {H : Hp} {h : Heap} {p d : Addr} (e : h.get? p = some { cls := .type "dict_keys", data := .fields #[.ref d] }) : ObjOk P w H h p (keysO p d) :=
  ⟨⟨_, e, rfl, rfl⟩, ⟨_, e⟩, fun h1 h2 x k => let ⟨o, ho, r⟩ := x; ⟨o, k o ho, r⟩⟩
section
variable {X : Cx}
def rKeysT : V → List V → Hp → VK → Prop := fun x xs H Q => ∃ (a : Addr) (kvs : List (List L2.Key × V)), x = .ref a ∧ xs = [] ∧ H a = some (.dT kvs) ∧ ∀ p, H p = none → Q (.ref p) (upd H p (keysO p a))
theorem mt_keysT : MtR X "dict.keys" rKeysT := by
  intro pins s σ H x xs v us Q I rx rxs h
  obtain ⟨a, kvs, rfl, rfl, ha, q⟩ := h
  cases rx
  cases rxs
  obtain ⟨z, hd, xs', rel, o, es, ep, ho, hx, hdat, _⟩ := dt_of I.hok ha
  refine call_meetsIn PySem.F.slot_dict_keys (show s.TypeIs (.ref a) "dict" from ⟨o, ho, hx.1⟩) PySem.F.entry_dict_keys (PySem.F.args_dict_keys_1 _) (PySem.meets_dict_keys_raw a hd) ⟨⟨es, ep, o, ho, hx, hdat⟩, ?_⟩
  have hf : H s.heap.objs.size = none := I.hok.fresh (Nat.le_refl _)
  exact ⟨.ref s.heap.objs.size, upd H s.heap.objs.size (keysO s.heap.objs.size a), I.laid (t' := s.toks) (fun b u e => Heap.get?_push_of_some _ e) (Nat.le_refl _) (keysO_ok (Heap.get?_push_size _ rfl)), rfl, q _ hf⟩
/-- a dict of holders, each with True -/
def hdT (hs : List Hd) : HO := .dT (hs.map fun h => (h.key, V.bl true))
/-- the key tuples of a dict of holders -/
theorem kt_hds {H : Hp} : ∀ {hs : List Hd} {xs : List (List L2.Key × Addr × Value)}, KT H (hs.map fun h => (h.key, V.bl true)) xs → ∃ ts : List (Addr × Hd), ts.map Prod.snd = hs ∧ (xs.map fun x => x.2.1) = ts.map Prod.fst ∧ ∀ t ∈ ts, AtHd H t
  | [], _, Paired.nil => ⟨[], rfl, rfl, fun t ht => by simp at ht⟩
  | h :: hs, _, Paired.cons (b := x) (l₂ := xs) a r => by
    obtain ⟨ts, e1, e2, e3⟩ := kt_hds (hs := hs) r
    refine ⟨(x.2.1, h) :: ts, by rw [List.map_cons, e1], by rw [List.map_cons, List.map_cons, e2], fun t ht => ?_⟩
    rcases List.mem_cons.mp ht with rfl | ht
    · exact a.2.1
    · exact e3 t ht
/-- sorted(d.keys()), d a dict of fewer than 64 holders: p is the view -/
def rSortKeys : List V → Hp → VK → Prop := fun vs H Q => ∃ (p a : Addr) (hs : List Hd), vs = [V.ref p] ∧ H p = some (keysO p a) ∧ H a = some (hdT hs) ∧ hs.length < 64 ∧ (∀ h ∈ hs, h.small) ∧
  ∀ (us : List (Addr × Hd)) (l : Addr), (us.map Prod.snd).Perm hs → us.Pairwise (fun p q => p.2.rank ≤ q.2.rank) → (∀ t ∈ us, AtHd H t) → H l = none → Q (.ref l) (upd H l (.lst (us.map fun t => V.ref t.1)))
theorem cr_sortKeys (hc : X.calm = true) : CallR X (.builtin "sorted") rSortKeys := by
  intro pins s σ H vs us Q I r h
  obtain ⟨p, a, hs, rfl, hp, ha, h64, hsm, q⟩ := h
  rw [Vals.ref1 r]
  have view : PySem.W.KdlKeysView s.heap p a := (show ObjOk X.prog X.w H s.heap p (keysO p a) from I.hok p _ hp).1
  obtain ⟨z, hd, xs', rel, o, es, ep, ho, hx, hdat, hes, his, hn⟩ := dt_of I.hok ha
  obtain ⟨ts, e1, e2, e3⟩ := kt_hds rel
  have l1 : es.size = xs'.length := size_of_entries hes
  have l2 : xs'.length = ts.length := by have := congrArg List.length e2; simpa using this
  have l3 : ts.length = hs.length := by rw [← e1, List.length_map]
  have hlen : es.size ≤ sizeLine := by rw [sizeLine_eq]; omega
  refine Calls.call_function_entry kind_sorted plain_sorted entry_sorted (args_sorted1 _) ?_
  unfold Builtin.«sorted»
  refine wpAny_bind (m := checkCount "sorted" 1 1 _) (wpAny_pure ?_)
  refine wpAny_bind (PySem.W.kdu_collect (A := X.A.in1) (KdlSrc.rawKeys (es := es) (ep := ep)) (I.ok.hd hc) ⟨view, o, ho, hx, hdat⟩ hlen fun h' tk acc hk hacc => ?_)
  have ea : acc.toList = ts.map fun t => Value.ref t.1 := by
    have hl : acc.toList.length = ts.length := by rw [Array.length_toList, hacc.1]; omega
    apply List.ext_getElem?
    intro j
    rw [List.getElem?_map]
    cases hj : acc.toList[j]? with
    | none =>
      have h1 := List.getElem?_eq_none_iff.mp hj
      rw [List.getElem?_eq_none (by omega)]
      all_goals rfl
    | some v =>
      obtain ⟨hi, hv⟩ := hacc.2 j v (by rw [← Array.getElem?_toList]; exact hj)
      have qe := entry_at hes j
      rw [Array.getElem?_eq_getElem hi] at qe
      have e4 : (xs'.map fun x => x.2.1)[j]? = (ts.map Prod.fst)[j]? := by rw [e2]
      rw [List.getElem?_map, List.getElem?_map] at e4
      cases hb : xs'[j]? with
      | none =>
        rw [hb] at qe
        exact nomatch (show some es[j] = none from qe)
      | some b =>
        rw [hb] at qe e4
        have e5 : es[j] = entryOfKey (tupleKind (mixKind X.prog X.w)) b := Option.some.inj qe
        cases ht : ts[j]? with
        | none =>
          rw [ht] at e4
          exact nomatch (show some b.2.1 = none from e4)
        | some t =>
          rw [ht] at e4
          have e6 : b.2.1 = t.1 := Option.some.inj e4
          rw [hv, e5]
          show some (Value.ref b.2.1) = some (Value.ref t.1)
          rw [e6]
  have I1 : Inv X pins σ H { s with heap := h', toks := tk } := I.kept hk
  have hal : acc.toList.length = ts.length := by rw [ea, List.length_map]
  refine wpAny_bind (wpAny_newList ?_ (by rw [hal, sizeLine_eq]; omega))
  have hoL : (h'.push (seqObj "list" acc.toList.toArray 0)).get? h'.objs.size = some (seqObj "list" acc.toList.toArray 0) := Heap.get?_push_size _ rfl
  show wpAny _ _ _ _ _ { s with heap := h'.push (seqObj "list" acc.toList.toArray 0), toks := tk }
  rw [ea] at hoL ⊢
  have raw : ∀ t ∈ ts, HdIn (h'.push (seqObj "list" (ts.map fun t => Value.ref t.1).toArray 0)) (.ref t.1) t.2 ∧ t.2.small := fun t ht => by
    refine ⟨(hd_raw I1 (e3 t ht)).keeps fun b o q _ => Heap.get?_push_of_some _ q, hsm _ ?_⟩
    rw [← e1]
    exact List.mem_map.mpr ⟨t, ht, rfl⟩
  refine wpAny_bind (wpAny_holding (wpAny_call_entry PyProof.Rows.slot_list_sort ⟨_, hoL, rfl⟩ PyProof.Rows.entry_list_sort
    (sort_hds (s := { s with heap := h'.push (seqObj "list" (ts.map fun t => Value.ref t.1).toArray 0), toks := tk }) hoL (by omega) raw fun out us o1 o2 o3 => ⟨_, rfl, ?_⟩)
    (PyProof.Rows.args_list_sort _)))
  obtain ⟨e', he'⟩ := PyProof.Rows.sortedHeap_at (vs := ts.map fun t => Value.ref t.1) (out := out) hoL
  have hl2 : (us.map fun t => V.ref t.1).length ≤ sizeLine := by
    rw [List.length_map, o2.length_eq, sizeLine_eq]; omega
  have rv2 : Vals (us.map fun t => V.ref t.1) out.toList := by rw [o1]; exact vals_ref1 us
  have pm : (us.map Prod.snd).Perm hs := by rw [← e1]; exact o2.map Prod.snd
  refine wpAny_pure ⟨_, rfl, .ref h'.objs.size, upd H h'.objs.size (.lst (us.map fun t => V.ref t.1)), I1.laid (t' := tk) (fun b u e => ?_) (Nat.le_refl _) ⟨hl2, out.toList, e', rv2, he'⟩, rfl, q us _ pm o3 (fun t ht => e3 t (o2.mem_iff.mp ht)) (I1.hok.fresh (Nat.le_refl _))⟩
  exact (PyProof.Rows.sortedHeap_old (Nat.ne_of_lt (Heap.lt_size e)) (Heap.lt_size (Heap.get?_push_of_some _ e))).trans (Heap.get?_push_of_some _ e)

/-- d.pop(k), k there -/
def rPop1T : V → List V → Hp → VK → Prop := fun x xs H Q => ∃ (a : Addr) (kvs : List (List L2.Key × V)) (k : List L2.Key) (b : Addr) (v : V), x = .ref a ∧ xs = [.ref b] ∧ H a = some (.dT kvs) ∧ H b = some (.tup (k.map kV)) ∧
  valV kvs k = some v ∧ Q v (upd H a (.dT (dropK kvs k)))
theorem mt_pop1T (hu : X.A.units + 1 < cLine) : MtR X "dict.pop" rPop1T := by
  intro pins s σ H x xs v us Q I rx rxs h
  obtain ⟨a, kvs, k, b, v0, rfl, rfl, ha, hb, hv, q1⟩ := h
  cases rx
  cases rxs with
  | cons r1 rn =>
    cases rn
    cases r1
    obtain ⟨z, hd, xs', rel, dd⟩ := dt_of I.hok ha
    have hz : xs'.length ≤ sizeLine := by rw [← Paired.length rel]; exact z
    have r := rel.val k
    rw [hv] at r
    obtain ⟨w', hw, rw'⟩ := RelO.some_of (v := v0) (o := (atKey xs' k).map (·.2)) r
    obtain ⟨p, hp, hp2⟩ := Option.map_eq_some_iff.mp hw
    refine call_pop_heap (knd := tupleKind (mixKind X.prog X.w)) (k := k) (more := []) (hsz := hz) (.inl rfl) (PySem.F.args_dict_pop_2 _ _) (tupleKind_room_in1 hu) (key_of I.hok hb) hd dd hp fun h' dd' hs => ?_
    obtain ⟨o, es, ep, hq, h2, h3, h4, _, h5⟩ := dd'
    have I2 : Inv X pins σ (upd H a (.dT (dropK kvs k))) { s with heap := h', toks := s.toks + (tupleKind (mixKind X.prog X.w)).draws k } :=
      d_write I (by rw [ha]; exact True.intro) hs ⟨o, hq⟩ ⟨Nat.le_trans (dropK_le kvs k) z, hd, _, (L2.DX.KT_drop k rel).keeps (fun c ys ec => (by rw [upd_ne (ne_of ec ha (fun z => nomatch z))]; exact ec)), o, es, ep, hq, h2, h3, h4, h5⟩
    refine ⟨v0, _, I2, ?_, q1⟩
    rw [hp2]
    exact rw'
/-- d.setdefault(k, x) -/
def rSetdT : V → List V → Hp → VK → Prop := fun x xs H Q => ∃ (a : Addr) (kvs : List (List L2.Key × V)) (k : List L2.Key) (b : Addr) (d : V), x = .ref a ∧ xs = [.ref b, d] ∧ H a = some (.dT kvs) ∧ H b = some (.tup (k.map kV)) ∧ kvs.length < sizeLine ∧
  (∀ v, valV kvs k = some v → Q v H) ∧ (valV kvs k = none → Q d (upd H a (.dT (putK kvs k d))))
theorem mt_setdT (hu : X.A.units + 1 < cLine) : MtR X "dict.setdefault" rSetdT := by
  intro pins s σ H x xs v us Q I rx rxs h
  obtain ⟨a, kvs, k, b, d, rfl, rfl, ha, hb, hl, q1, q2⟩ := h
  cases rx
  obtain ⟨u1, u2, rfl, r1, r2⟩ := vals2 rxs
  cases r1
  obtain ⟨z, hd, xs', rel, dd⟩ := dt_of I.hok ha
  have hz : xs'.length ≤ sizeLine := by rw [← Paired.length rel]; exact z
  refine call_setdefault_heap (knd := tupleKind (mixKind X.prog X.w)) (k := k) (hsz := hz) (tupleKind_room_in1 hu) (key_of I.hok hb) hd dd (fun p hp => ?_) fun hn h' dd' hs => ?_
  · have r := rel.val k
    rw [hp] at r
    obtain ⟨v0, ev, rv⟩ : ∃ v0, valV kvs k = some v0 ∧ RelV v0 p.2 := by
      cases ev : valV kvs k with
      | none =>
        rw [ev] at r
        exact (show False from r).elim
      | some v0 =>
        rw [ev] at r
        exact ⟨v0, rfl, r⟩
    exact ⟨v0, H, I.tok _, rv, q1 v0 ev⟩
  · have r := rel.val k
    rw [hn] at r
    have e : valV kvs k = none := by
      cases ev : valV kvs k with
      | none => rfl
      | some v0 =>
        rw [ev] at r
        exact (show False from r).elim
    have hl2 : (putK kvs k d).length ≤ sizeLine := by have := length_putK kvs k d; omega
    obtain ⟨o, es, ep, hq, h2, h3, h4, _, h5⟩ := dd'
    have I2 : Inv X pins σ (upd H a (.dT (putK kvs k d))) { s with heap := h', toks := s.toks + (tupleKind (mixKind X.prog X.w)).draws k } :=
      d_write I (by rw [ha]; exact True.intro) hs ⟨o, hq⟩ ⟨hl2, hd, _, (rel.put k hb r2).keeps (fun c ys ec => (by rw [upd_ne (ne_of ec ha (fun z => nomatch z))]; exact ec)), o, es, ep, hq, h2, h3, h4, h5⟩
    exact ⟨d, _, I2, r2, q2 e⟩
/-- {k: v}, k a tuple of ints and texts -/
def tDisp1T (tk tv : TE) : TE := fun σ H Q => ∀ p, H p = none → tk σ (upd H p (.dT [])) fun x H1 => tv σ H1 fun y H2 => H2 p = some (.dT []) ∧ ∃ (k : List L2.Key) (b : Addr), x = .ref b ∧ H2 b = some (.tup (k.map kV)) ∧ Q (.ref p) (upd H2 p (.dT [(k, y)]))
theorem pe_disp1T {pos : Pos} {ke ve : Expr} {tk tv : TE} (hu : X.A.units + 1 < cLine) (hk : PE X ke tk) (hv : PE X ve tv) : PE X (.Dict [some ke] [ve] pos) (tDisp1T tk tv) := by
  refine ⟨fun pins s σ H Q I q => ?_⟩
  have hn := I.hok.fresh (Nat.le_refl s.heap.objs.size)
  have I1 := I.laid (a := s.heap.objs.size) (o := .dT []) (h' := s.heap.push { cls := .type "dict", data := .dict #[] }) (t' := s.toks) (fun _ _ q => Heap.get?_push_of_some _ q) (Nat.le_refl _) (dt_empty s.heap I.big)
  rw [arm_eval_Dict, zip_pairTrees [some ke] [ve] X.env pos rfl rfl, dictDisplay_pairs (pairTrees [some ke] [ve] X.env pos) (by intro z; exact nomatch z) (by show 1 < 17; omega)]
  refine wpAny_bind (wpAny_standAt (wpAny_bind (wpAny_subDictH (knd := tupleKind (mixKind X.prog X.w)) (Q := fun d s' => wpAny (model X.prog X.w) X.A (pure (Value.ref d)) (EP X pins σ Q) X.xe s') (show X.A.units < cLine from Nat.lt_of_succ_lt hu) (by show 1 ≤ 15; omega) ?_)))
  refine pairTrees_cons_walk (thn (hk.run pins _ σ _ _ I1 (q _ hn)) fun u s1 ⟨x, H1, I2, rx, q1⟩ => thn (hv.run pins s1 σ H1 _ I2 q1) fun w2 s2 ⟨y, H2, I3, ry, q2⟩ => pairTrees_nil_walk ?_)
  obtain ⟨e, k, b, ex, hb, q3⟩ := q2
  subst ex
  obtain rfl : u = Value.ref b := rx
  obtain ⟨z, hd, xs0, r0, dd⟩ := dt_of I3.hok e
  cases r0
  refine ⟨[(k, b, w2)], ⟨rfl, rfl, key_of I3.hok hb, True.intro⟩, dd, fun h' tk dd' hs => ?_⟩
  have dd2 : h'.DictOfH (tupleKind (mixKind X.prog X.w)) s.heap.objs.size [(k, b, w2)] := dd'
  obtain ⟨o, es, ep, hq, h2, h3, h4, _, h5⟩ := dd2
  have kt : KT H2 [(k, y)] [(k, b, w2)] := Paired.cons ⟨rfl, hb, ry⟩ Paired.nil
  have I4 : Inv X pins σ (upd H2 s.heap.objs.size (.dT [(k, y)])) { s2 with heap := h', toks := tk } :=
    d_write I3 (by rw [e]; exact True.intro) hs ⟨o, hq⟩ ⟨(by show 1 ≤ sizeLine; rw [sizeLine_eq]; omega), hd, [(k, b, w2)], kt.keeps (fun c ys ec => (by rw [upd_ne (ne_of ec e (fun z => nomatch z))]; exact ec)), o, es, ep, hq, h2, h3, h4, h5⟩
  exact wpAny_pure ⟨.ref s.heap.objs.size, _, I4, rfl, q3⟩
/-- one of two rules -/
theorem pe_or {e : Expr} {t u : TE} (h : PE X e t) (h' : PE X e u) : PE X e (fun σ H Q => t σ H Q ∨ u σ H Q) := ⟨fun pins s σ H Q I q => by
  rcases q with q | q
  · exact h.run pins s σ H Q I q
  · exact h'.run pins s σ H Q I q⟩
end
end Fl

set_option Elab.async false
set_option linter.all false
set_option maxRecDepth 100000
set_option maxHeartbeats 4000000
/-! The text by places; what the top has written. Printed by gen_top.py. -/
namespace Fl
open PySem L2
def top (i : Nat) : Stmt := PySem.Challenge.pw_frameland_k68_sheets_any_row.main.body.getD i (.Pass ⟨0, 0, 0, 0⟩)
abbrev sSwept : Stmt := top 5
abbrev sLyInit : Stmt := inClass (top 7) 0
abbrev sLyIs : Stmt := inClass (top 7) 1
abbrev sLyRow : Stmt := inClass (top 7) 2
abbrev sLyBank : Stmt := inClass (top 7) 3
abbrev sLyShow : Stmt := inClass (top 7) 4
abbrev sStIs : Stmt := inClass (top 8) 0
abbrev sTold : Stmt := top 9
abbrev sShin : Stmt := top 10
abbrev sFirst : Stmt := top 11
abbrev sShInit : Stmt := inClass (top 13) 0
abbrev sLyingAt : Stmt := inClass (top 13) 1
abbrev sCleared : Stmt := inClass (top 13) 2
abbrev sUntw : Stmt := inClass (top 13) 3
abbrev sGoal : Stmt := inClass (top 13) 4
abbrev sEmptied : Stmt := inClass (top 13) 5
abbrev sFresh : Stmt := inClass (top 13) 6
abbrev sBack : Stmt := inClass (top 13) 7
abbrev sHold : Stmt := inClass (top 13) 8
abbrev sLetgo : Stmt := inClass (top 13) 9
abbrev sSetbox : Stmt := inClass (top 13) 13
abbrev sFold : Stmt := inClass (top 13) 14
abbrev sLive : Stmt := inClass (top 13) 15
abbrev sToldF : Stmt := inClass (top 13) 17
abbrev sToldS : Stmt := inClass (top 13) 18
abbrev sCell : Stmt := top 15
abbrev sLike : Stmt := top 16
abbrev sMoved : Stmt := top 17
abbrev sLfresh : Stmt := top 18
abbrev sLback : Stmt := top 19
abbrev sRank : Stmt := top 20
abbrev sAlike : Stmt := top 21
abbrev sFolded : Stmt := top 22
abbrev sCopied : Stmt := top 23
abbrev sTrue : Stmt := top 24
abbrev sChanged : Stmt := top 25
abbrev sNumber : Stmt := top 26
abbrev sDeed : Stmt := top 27
abbrev sLaw : Stmt := top 28
abbrev NSwept : List Str := ["marks", "hand", "passed", "place"]
theorem scSwept : FnScope NSwept ["marks", "hand"] (defScope sSwept) := ⟨rfl, rfl, rfl, by decide +kernel, rfl, by decide +kernel, by decide +kernel⟩
abbrev NLyInit : List Str := ["self", "boxes", "held", "bound"]
theorem scLyInit : FnScope NLyInit ["self", "boxes", "held", "bound"] (defScope sLyInit) := ⟨rfl, rfl, rfl, by decide +kernel, rfl, by decide +kernel, by decide +kernel⟩
abbrev NLyIs : List Str := ["self"]
theorem scLyIs : FnScope NLyIs ["self"] (defScope sLyIs) := ⟨rfl, rfl, rfl, by decide +kernel, rfl, by decide +kernel, by decide +kernel⟩
abbrev NLyRow : List Str := ["self"]
theorem scLyRow : FnScope NLyRow ["self"] (defScope sLyRow) := ⟨rfl, rfl, rfl, by decide +kernel, rfl, by decide +kernel, by decide +kernel⟩
abbrev NLyBank : List Str := ["self", "holder"]
theorem scLyBank : FnScope NLyBank ["self"] (defScope sLyBank) := ⟨rfl, rfl, rfl, by decide +kernel, rfl, by decide +kernel, by decide +kernel⟩
abbrev NLyShow : List Str := ["self"]
theorem scLyShow : FnScope NLyShow ["self"] (defScope sLyShow) := ⟨rfl, rfl, rfl, by decide +kernel, rfl, by decide +kernel, by decide +kernel⟩
abbrev NStIs : List Str := ["self"]
theorem scStIs : FnScope NStIs ["self"] (defScope sStIs) := ⟨rfl, rfl, rfl, by decide +kernel, rfl, by decide +kernel, by decide +kernel⟩
abbrev NTold : List Str := ["spots", "told", "lying"]
theorem scTold : FnScope NTold ["spots"] (defScope sTold) := ⟨rfl, rfl, rfl, by decide +kernel, rfl, by decide +kernel, by decide +kernel⟩
abbrev NShin : List Str := ["spots", "many", "lying"]
theorem scShin : FnScope NShin ["spots"] (defScope sShin) := ⟨rfl, rfl, rfl, by decide +kernel, rfl, by decide +kernel, by decide +kernel⟩
abbrev NFirst : List Str := ["spots", "k", "lying"]
theorem scFirst : FnScope NFirst ["spots"] (defScope sFirst) := ⟨rfl, rfl, rfl, by decide +kernel, rfl, by decide +kernel, by decide +kernel⟩
abbrev NShInit : List Str := ["self", "frames", "slots", "size", "k"]
theorem scShInit : FnScope NShInit ["self", "frames", "slots", "size"] (defScope sShInit) := ⟨rfl, rfl, rfl, by decide +kernel, rfl, by decide +kernel, by decide +kernel⟩
abbrev NLyingAt : List Str := ["self", "spot", "row", "lying"]
theorem scLyingAt : FnScope NLyingAt ["self", "spot"] (defScope sLyingAt) := ⟨rfl, rfl, rfl, by decide +kernel, rfl, by decide +kernel, by decide +kernel⟩
abbrev NCleared : List Str := ["self", "spot"]
theorem scCleared : FnScope NCleared ["self", "spot"] (defScope sCleared) := ⟨rfl, rfl, rfl, by decide +kernel, rfl, by decide +kernel, by decide +kernel⟩
abbrev NUntw : List Str := ["self", "frame", "lying"]
theorem scUntw : FnScope NUntw ["self", "frame"] (defScope sUntw) := ⟨rfl, rfl, rfl, by decide +kernel, rfl, by decide +kernel, by decide +kernel⟩
abbrev NGoal : List Str := ["self", "frame", "slot", "empty", "k", "lying"]
theorem scGoal : FnScope NGoal ["self", "frame", "slot"] (defScope sGoal) := ⟨rfl, rfl, rfl, by decide +kernel, rfl, by decide +kernel, by decide +kernel⟩
abbrev NEmptied : List Str := ["self", "marks", "slot", "empty", "choice", "frame", "goal", "leaving"]
theorem scEmptied : FnScope NEmptied ["self", "marks", "slot"] (defScope sEmptied) := ⟨rfl, rfl, rfl, by decide +kernel, rfl, by decide +kernel, by decide +kernel⟩
abbrev NFresh : List Str := ["self", "sheet", "holder", "marks", "got"]
theorem scFresh : FnScope NFresh ["self", "sheet", "holder", "marks"] (defScope sFresh) := ⟨rfl, rfl, rfl, by decide +kernel, rfl, by decide +kernel, by decide +kernel⟩
abbrev NBack : List Str := ["self", "slot", "marks", "coming", "got", "twin"]
theorem scBack : FnScope NBack ["self", "slot", "marks"] (defScope sBack) := ⟨rfl, rfl, rfl, by decide +kernel, rfl, by decide +kernel, by decide +kernel⟩
abbrev NHold : List Str := ["self", "spot", "holder"]
theorem scHold : FnScope NHold ["self", "spot", "holder"] (defScope sHold) := ⟨rfl, rfl, rfl, by decide +kernel, rfl, by decide +kernel, by decide +kernel⟩
abbrev NLetgo : List Str := ["self", "spot", "holder", "lying"]
theorem scLetgo : FnScope NLetgo ["self", "spot", "holder"] (defScope sLetgo) := ⟨rfl, rfl, rfl, by decide +kernel, rfl, by decide +kernel, by decide +kernel⟩
abbrev NSetbox : List Str := ["self", "frame", "box", "value"]
theorem scSetbox : FnScope NSetbox ["self", "frame", "box", "value"] (defScope sSetbox) := ⟨rfl, rfl, rfl, by decide +kernel, rfl, by decide +kernel, by decide +kernel⟩
abbrev NFold : List Str := ["self", "spots", "firsts", "moves", "spot", "lying", "first", "kept", "holder", "k"]
theorem scFold : FnScope NFold ["self"] (defScope sFold) := ⟨rfl, rfl, rfl, by decide +kernel, rfl, by decide +kernel, by decide +kernel⟩
abbrev NLive : List Str := ["self"]
theorem scLive : FnScope NLive ["self"] (defScope sLive) := ⟨rfl, rfl, rfl, by decide +kernel, rfl, by decide +kernel, by decide +kernel⟩
abbrev NToldF : List Str := ["self"]
theorem scToldF : FnScope NToldF ["self"] (defScope sToldF) := ⟨rfl, rfl, rfl, by decide +kernel, rfl, by decide +kernel, by decide +kernel⟩
abbrev NToldS : List Str := ["self"]
theorem scToldS : FnScope NToldS ["self"] (defScope sToldS) := ⟨rfl, rfl, rfl, by decide +kernel, rfl, by decide +kernel, by decide +kernel⟩
abbrev NCell : List Str := ["_law_script", "_law_k"]
theorem scCell : FnScope NCell ["_law_script", "_law_k"] (defScope sCell) := ⟨rfl, rfl, rfl, by decide +kernel, rfl, by decide +kernel, by decide +kernel⟩
abbrev NLike : List Str := ["_law_found", "_law_due", "_law_k"]
theorem scLike : FnScope NLike ["_law_found", "_law_due"] (defScope sLike) := ⟨rfl, rfl, rfl, by decide +kernel, rfl, by decide +kernel, by decide +kernel⟩
abbrev NMoved : List Str := ["_law_where", "_law_found", "_law_one"]
theorem scMoved : FnScope NMoved ["_law_where", "_law_found", "_law_one"] (defScope sMoved) := ⟨rfl, rfl, rfl, by decide +kernel, rfl, by decide +kernel, by decide +kernel⟩
abbrev NLfresh : List Str := ["_law_sheets", "_law_where", "_law_one", "_law_marks", "_law_refused", "_law_found", "_law_full"]
theorem scLfresh : FnScope NLfresh ["_law_sheets", "_law_where", "_law_one", "_law_marks"] (defScope sLfresh) := ⟨rfl, rfl, rfl, by decide +kernel, rfl, by decide +kernel, by decide +kernel⟩
abbrev NLback : List Str := ["_law_sheets", "_law_where", "_law_slot", "_law_marks", "_law_one"]
theorem scLback : FnScope NLback ["_law_sheets", "_law_where", "_law_slot", "_law_marks"] (defScope sLback) := ⟨rfl, rfl, rfl, by decide +kernel, rfl, by decide +kernel, by decide +kernel⟩
abbrev NRank : List Str := ["_law_where", "_law_spot"]
theorem scRank : FnScope NRank ["_law_where", "_law_spot"] (defScope sRank) := ⟨rfl, rfl, rfl, by decide +kernel, rfl, by decide +kernel, by decide +kernel⟩
abbrev NAlike : List Str := ["_law_where", "_law_seen", "_law_one", "_law_holder"]
theorem scAlike : FnScope NAlike ["_law_where"] (defScope sAlike) := ⟨rfl, rfl, rfl, by decide +kernel, rfl, by decide +kernel, by decide +kernel⟩
abbrev NFolded : List Str := ["_law_sheets", "_law_where", "_law_moves", "_law_move", "_law_rows", "_law_gone", "_law_kept", "_law_spot", "_law_holder"]
theorem scFolded : FnScope NFolded ["_law_sheets", "_law_where"] (defScope sFolded) := ⟨rfl, rfl, rfl, by decide +kernel, rfl, by decide +kernel, by decide +kernel⟩
abbrev NCopied : List Str := ["_law_row", "_law_one"]
theorem scCopied : FnScope NCopied ["_law_row"] (defScope sCopied) := ⟨rfl, rfl, rfl, by decide +kernel, rfl, by decide +kernel, by decide +kernel⟩
abbrev NTrue : List Str := ["_law_sheets", "_law_where", "_law_frames", "_law_slots", "_law_k", "_law_one", "_law_twin", "_law_many"]
theorem scTrue : FnScope NTrue ["_law_sheets", "_law_where"] (defScope sTrue) := ⟨rfl, rfl, rfl, by decide +kernel, rfl, by decide +kernel, by decide +kernel⟩
abbrev NChanged : List Str := ["_law_sheets", "_law_where", "_law_spot", "_law_way", "_law_number_here", "_law_holder", "_law_one"]
theorem scChanged : FnScope NChanged ["_law_sheets", "_law_where", "_law_spot", "_law_way", "_law_number_here", "_law_holder"] (defScope sChanged) := ⟨rfl, rfl, rfl, by decide +kernel, rfl, by decide +kernel, by decide +kernel⟩
abbrev NNumber : List Str := ["_law_digits", "_law_cell_here", "_law_k", "_law_one"]
theorem scNumber : FnScope NNumber ["_law_digits", "_law_cell_here", "_law_k"] (defScope sNumber) := ⟨rfl, rfl, rfl, by decide +kernel, rfl, by decide +kernel, by decide +kernel⟩
abbrev NDeed : List Str := ["_law_sheets", "_law_where", "_law_number_here", "_law_k", "_law_marks", "_law_rest", "_law_sheet", "_law_holder", "_law_way", "_law_full", "_law_some", "_law_spots", "_law_at", "_law_j"]
theorem scDeed : FnScope NDeed ["_law_sheets", "_law_where", "_law_number_here", "_law_k"] (defScope sDeed) := ⟨rfl, rfl, rfl, by decide +kernel, rfl, by decide +kernel, by decide +kernel⟩
abbrev NLaw : List Str := ["_law_script", "_law_most", "_law_frames", "_law_slots", "_law_sheets", "_law_k", "_law_where", "_law_ahead", "_law_due", "_law_cell_here", "_law_number_here"]
theorem scLaw : FnScope NLaw ["_law_script"] (defScope sLaw) := ⟨rfl, rfl, rfl, by decide +kernel, rfl, by decide +kernel, by decide +kernel⟩
/-- where the classes and the defs stand -/
structure Ad where
  CL : Addr
  CT : Addr
  CS : Addr
  CN : Addr
  fSwept : Addr
  dSwept : FuncData
  fLyInit : Addr
  dLyInit : FuncData
  fLyIs : Addr
  dLyIs : FuncData
  fLyRow : Addr
  dLyRow : FuncData
  fLyBank : Addr
  dLyBank : FuncData
  fLyShow : Addr
  dLyShow : FuncData
  fStIs : Addr
  dStIs : FuncData
  fTold : Addr
  dTold : FuncData
  fShin : Addr
  dShin : FuncData
  fFirst : Addr
  dFirst : FuncData
  fShInit : Addr
  dShInit : FuncData
  fLyingAt : Addr
  dLyingAt : FuncData
  fCleared : Addr
  dCleared : FuncData
  fUntw : Addr
  dUntw : FuncData
  fGoal : Addr
  dGoal : FuncData
  fEmptied : Addr
  dEmptied : FuncData
  fFresh : Addr
  dFresh : FuncData
  fBack : Addr
  dBack : FuncData
  fHold : Addr
  dHold : FuncData
  fLetgo : Addr
  dLetgo : FuncData
  fSetbox : Addr
  dSetbox : FuncData
  fFold : Addr
  dFold : FuncData
  fLive : Addr
  dLive : FuncData
  fToldF : Addr
  dToldF : FuncData
  fToldS : Addr
  dToldS : FuncData
  fCell : Addr
  dCell : FuncData
  fLike : Addr
  dLike : FuncData
  fMoved : Addr
  dMoved : FuncData
  fLfresh : Addr
  dLfresh : FuncData
  fLback : Addr
  dLback : FuncData
  fRank : Addr
  dRank : FuncData
  fAlike : Addr
  dAlike : FuncData
  fFolded : Addr
  dFolded : FuncData
  fCopied : Addr
  dCopied : FuncData
  fTrue : Addr
  dTrue : FuncData
  fChanged : Addr
  dChanged : FuncData
  fNumber : Addr
  dNumber : FuncData
  fDeed : Addr
  dDeed : FuncData
  fLaw : Addr
  dLaw : FuncData
/-- what the top has written -/
structure Top (K : PySem.W.Frag) (mg : Str → Option Value) (a : Ad) : Prop where
  clL : Cls K a.CL
  mgL : mg "Lying" = some (.ref a.CL)
  nL_boxes : NoAttr K a.CL "boxes"
  nL_held : NoAttr K a.CL "held"
  nL_bound : NoAttr K a.CL "bound"
  clT : Cls K a.CT
  mgT : mg "Stored" = some (.ref a.CT)
  nT_boxes : NoAttr K a.CT "boxes"
  nT_held : NoAttr K a.CT "held"
  nT_bound : NoAttr K a.CT "bound"
  clS : Cls K a.CS
  mgS : mg "Sheets" = some (.ref a.CS)
  nS_size : NoAttr K a.CS "size"
  nS_in_frames : NoAttr K a.CS "in_frames"
  nS_in_slots : NoAttr K a.CS "in_slots"
  nS_stand : NoAttr K a.CS "stand"
  nS_gone_out : NoAttr K a.CS "gone_out"
  nS_gone_elsewhere : NoAttr K a.CS "gone_elsewhere"
  nS_come_back : NoAttr K a.CS "come_back"
  MkL : Mk K a.CL a.fLyInit
  MkT : Mk K a.CT a.fLyInit
  MkS : Mk K a.CS a.fShInit
  gN : mg "NoRoom" = some (.ref a.CN)
  xN : PySem.W.excIn K a.CN [.type "ValueError", .type "Exception", .type "BaseException", .type "object"] "ValueError.__new__" = true
  kN : PySem.W.keepIn K (.ref a.CN) = true
  bN : PySem.W.subIn K (.ref a.CN) (.type "BaseException") = some true
  tN : PySem.W.typeIn K (.ref a.CN) = some (.type "type")
  eN : PySem.W.exmOne K (.ref a.CN) (.ref a.CN) = some true
  zlen : mg "len" = none
  zrange : mg "range" = none
  zenumerate : mg "enumerate" = none
  zsorted : mg "sorted" = none
  zisinstance : mg "isinstance" = none
  zlist : mg "list" = none
  ztuple : mg "tuple" = none
  zint : mg "int" = none
  zbool : mg "bool" = none
  zstr : mg "str" = none
  FSwept : Fun K "swept" "swept" sSwept a.fSwept a.dSwept
  bSwept : Binds K a.dSwept ["marks", "hand"] []
  gSwept : mg "swept" = some (.ref a.fSwept)
  FLyInit : Fun K "__init__" "Lying.__init__" sLyInit a.fLyInit a.dLyInit
  bLyInit : Binds K a.dLyInit ["self", "boxes", "held", "bound"] []
  mLyInitL : Meth K a.CL "__init__" a.fLyInit
  mLyInitT : Meth K a.CT "__init__" a.fLyInit
  FLyIs : Fun K "is_sheet" "Lying.is_sheet" sLyIs a.fLyIs a.dLyIs
  bLyIs : Binds K a.dLyIs ["self"] []
  mLyIs : Meth K a.CL "is_sheet" a.fLyIs
  FLyRow : Fun K "holder_row" "Lying.holder_row" sLyRow a.fLyRow a.dLyRow
  bLyRow : Binds K a.dLyRow ["self"] []
  mLyRowL : Meth K a.CL "holder_row" a.fLyRow
  mLyRowT : Meth K a.CT "holder_row" a.fLyRow
  FLyBank : Fun K "is_banked" "Lying.is_banked" sLyBank a.fLyBank a.dLyBank
  bLyBank : Binds K a.dLyBank ["self"] []
  mLyBankL : Meth K a.CL "is_banked" a.fLyBank
  mLyBankT : Meth K a.CT "is_banked" a.fLyBank
  FLyShow : Fun K "shown" "Lying.shown" sLyShow a.fLyShow a.dLyShow
  bLyShow : Binds K a.dLyShow ["self"] []
  mLyShowL : Meth K a.CL "shown" a.fLyShow
  mLyShowT : Meth K a.CT "shown" a.fLyShow
  FStIs : Fun K "is_sheet" "Stored.is_sheet" sStIs a.fStIs a.dStIs
  bStIs : Binds K a.dStIs ["self"] []
  mStIs : Meth K a.CT "is_sheet" a.fStIs
  FTold : Fun K "told_spots" "told_spots" sTold a.fTold a.dTold
  bTold : Binds K a.dTold ["spots"] []
  gTold : mg "told_spots" = some (.ref a.fTold)
  FShin : Fun K "sheets_in" "sheets_in" sShin a.fShin a.dShin
  bShin : Binds K a.dShin ["spots"] []
  gShin : mg "sheets_in" = some (.ref a.fShin)
  FFirst : Fun K "first_empty" "first_empty" sFirst a.fFirst a.dFirst
  bFirst : Binds K a.dFirst ["spots"] []
  gFirst : mg "first_empty" = some (.ref a.fFirst)
  FShInit : Fun K "__init__" "Sheets.__init__" sShInit a.fShInit a.dShInit
  bShInit : Binds K a.dShInit ["self", "frames", "slots", "size"] []
  mShInit : Meth K a.CS "__init__" a.fShInit
  FLyingAt : Fun K "lying_at" "Sheets.lying_at" sLyingAt a.fLyingAt a.dLyingAt
  bLyingAt : Binds K a.dLyingAt ["self", "spot"] []
  mLyingAt : Meth K a.CS "lying_at" a.fLyingAt
  FCleared : Fun K "cleared" "Sheets.cleared" sCleared a.fCleared a.dCleared
  bCleared : Binds K a.dCleared ["self", "spot"] []
  mCleared : Meth K a.CS "cleared" a.fCleared
  FUntw : Fun K "untwinned" "Sheets.untwinned" sUntw a.fUntw a.dUntw
  bUntw : Binds K a.dUntw ["self", "frame"] []
  mUntw : Meth K a.CS "untwinned" a.fUntw
  FGoal : Fun K "goal_of" "Sheets.goal_of" sGoal a.fGoal a.dGoal
  bGoal : Binds K a.dGoal ["self", "frame", "slot"] []
  mGoal : Meth K a.CS "goal_of" a.fGoal
  FEmptied : Fun K "emptied" "Sheets.emptied" sEmptied a.fEmptied a.dEmptied
  bEmptied : Binds K a.dEmptied ["self", "marks", "slot"] []
  mEmptied : Meth K a.CS "emptied" a.fEmptied
  FFresh : Fun K "fresh" "Sheets.fresh" sFresh a.fFresh a.dFresh
  bFresh : Binds K a.dFresh ["self", "sheet", "holder", "marks"] []
  mFresh : Meth K a.CS "fresh" a.fFresh
  FBack : Fun K "back" "Sheets.back" sBack a.fBack a.dBack
  bBack : Binds K a.dBack ["self", "slot", "marks"] []
  mBack : Meth K a.CS "back" a.fBack
  FHold : Fun K "hold" "Sheets.hold" sHold a.fHold a.dHold
  bHold : Binds K a.dHold ["self", "spot", "holder"] []
  mHold : Meth K a.CS "hold" a.fHold
  FLetgo : Fun K "let_go" "Sheets.let_go" sLetgo a.fLetgo a.dLetgo
  bLetgo : Binds K a.dLetgo ["self", "spot", "holder"] []
  mLetgo : Meth K a.CS "let_go" a.fLetgo
  FSetbox : Fun K "set_box" "Sheets.set_box" sSetbox a.fSetbox a.dSetbox
  bSetbox : Binds K a.dSetbox ["self", "frame", "box", "value"] []
  mSetbox : Meth K a.CS "set_box" a.fSetbox
  FFold : Fun K "fold" "Sheets.fold" sFold a.fFold a.dFold
  bFold : Binds K a.dFold ["self"] []
  mFold : Meth K a.CS "fold" a.fFold
  FLive : Fun K "live_sheets" "Sheets.live_sheets" sLive a.fLive a.dLive
  bLive : Binds K a.dLive ["self"] []
  mLive : Meth K a.CS "live_sheets" a.fLive
  FToldF : Fun K "told_frames" "Sheets.told_frames" sToldF a.fToldF a.dToldF
  bToldF : Binds K a.dToldF ["self"] []
  mToldF : Meth K a.CS "told_frames" a.fToldF
  FToldS : Fun K "told_slots" "Sheets.told_slots" sToldS a.fToldS a.dToldS
  bToldS : Binds K a.dToldS ["self"] []
  mToldS : Meth K a.CS "told_slots" a.fToldS
  FCell : Fun K "_law_cell" "_law_cell" sCell a.fCell a.dCell
  bCell : Binds K a.dCell ["_law_script", "_law_k"] []
  gCell : mg "_law_cell" = some (.ref a.fCell)
  FLike : Fun K "_law_like" "_law_like" sLike a.fLike a.dLike
  bLike : Binds K a.dLike ["_law_found", "_law_due"] []
  gLike : mg "_law_like" = some (.ref a.fLike)
  FMoved : Fun K "_law_moved" "_law_moved" sMoved a.fMoved a.dMoved
  bMoved : Binds K a.dMoved ["_law_where", "_law_found", "_law_one"] []
  gMoved : mg "_law_moved" = some (.ref a.fMoved)
  FLfresh : Fun K "_law_fresh" "_law_fresh" sLfresh a.fLfresh a.dLfresh
  bLfresh : Binds K a.dLfresh ["_law_sheets", "_law_where", "_law_one", "_law_marks"] []
  gLfresh : mg "_law_fresh" = some (.ref a.fLfresh)
  FLback : Fun K "_law_back" "_law_back" sLback a.fLback a.dLback
  bLback : Binds K a.dLback ["_law_sheets", "_law_where", "_law_slot", "_law_marks"] []
  gLback : mg "_law_back" = some (.ref a.fLback)
  FRank : Fun K "_law_rank" "_law_rank" sRank a.fRank a.dRank
  bRank : Binds K a.dRank ["_law_where", "_law_spot"] []
  gRank : mg "_law_rank" = some (.ref a.fRank)
  FAlike : Fun K "_law_alike" "_law_alike" sAlike a.fAlike a.dAlike
  bAlike : Binds K a.dAlike ["_law_where"] []
  gAlike : mg "_law_alike" = some (.ref a.fAlike)
  FFolded : Fun K "_law_folded" "_law_folded" sFolded a.fFolded a.dFolded
  bFolded : Binds K a.dFolded ["_law_sheets", "_law_where"] []
  gFolded : mg "_law_folded" = some (.ref a.fFolded)
  FCopied : Fun K "_law_copied" "_law_copied" sCopied a.fCopied a.dCopied
  bCopied : Binds K a.dCopied ["_law_row"] []
  gCopied : mg "_law_copied" = some (.ref a.fCopied)
  FTrue : Fun K "_law_true" "_law_true" sTrue a.fTrue a.dTrue
  bTrue : Binds K a.dTrue ["_law_sheets", "_law_where"] []
  gTrue : mg "_law_true" = some (.ref a.fTrue)
  FChanged : Fun K "_law_changed" "_law_changed" sChanged a.fChanged a.dChanged
  bChanged : Binds K a.dChanged ["_law_sheets", "_law_where", "_law_spot", "_law_way", "_law_number_here", "_law_holder"] []
  gChanged : mg "_law_changed" = some (.ref a.fChanged)
  FNumber : Fun K "_law_number" "_law_number" sNumber a.fNumber a.dNumber
  bNumber : Binds K a.dNumber ["_law_digits", "_law_cell_here", "_law_k"] []
  gNumber : mg "_law_number" = some (.ref a.fNumber)
  FDeed : Fun K "_law_deed" "_law_deed" sDeed a.fDeed a.dDeed
  bDeed : Binds K a.dDeed ["_law_sheets", "_law_where", "_law_number_here", "_law_k"] []
  gDeed : mg "_law_deed" = some (.ref a.fDeed)
  FLaw : Fun K "law" "law" sLaw a.fLaw a.dLaw
  bLaw : Binds K a.dLaw ["_law_script"] []
  gLaw : mg "law" = some (.ref a.fLaw)
end Fl

set_option Elab.async false
set_option linter.all false
set_option maxRecDepth 100000
set_option maxHeartbeats 4000000
/-! Rows of spots, cells, the sheets' object: how they lie in the heap. -/
namespace Fl
open PySem L2
/-- a spot: false a frame, true a slot -/
abbrev Spot := Bool × Nat
abbrev Mp (α : Type) := Spot → Option α
def up {α : Type} (m : Mp α) (x : Spot) (v : Option α) : Mp α := fun y => if y = x then v else m y
section
variable {α : Type} {m : Mp α} {x y : Spot} {v : Option α} {f : α → V} {s : Bool} {n i : Nat}
theorem up_same : up m x v x = v := if_pos rfl
theorem up_ne (h : y ≠ x) : up m x v y = m y := if_neg h
theorem up_side {s t : Bool} {i j : Nat} (h : s ≠ t) : up m (t, j) v (s, i) = m (s, i) := up_ne fun e => h (congrArg Prod.fst e)
theorem up_ix {s t : Bool} {i j : Nat} (h : i ≠ j) : up m (t, j) v (s, i) = m (s, i) := up_ne fun e => h (congrArg Prod.snd e)
def optV (f : α → V) : Option α → V
  | none => .non
  | some c => f c
def row (f : α → V) (m : Mp α) (s : Bool) (n : Nat) : List V := (List.range n).map fun i => optV f (m (s, i))
theorem row_length : (row f m s n).length = n := by unfold row; rw [List.length_map, List.length_range]
theorem row_get (h : i < n) : (row f m s n)[i]? = some (optV f (m (s, i))) := by
  unfold row
  rw [List.getElem?_map, List.getElem?_range h]
  rfl
theorem row_of {z : V} (h : (row f m s n)[i]? = some z) : i < n ∧ z = optV f (m (s, i)) := by
  have hl := (List.getElem?_eq_some_iff.mp h).1
  rw [row_length] at hl
  rw [row_get hl] at h
  exact ⟨hl, (Option.some.inj h).symm⟩
theorem row_ext {β : Type} {g : β → V} {k : Mp β} {t : Bool} (h : ∀ i, i < n → optV f (m (s, i)) = optV g (k (t, i))) : row f m s n = row g k t n := by
  unfold row
  exact List.map_congr_left fun i hi => h i (List.mem_range.mp hi)
theorem row_set (h : i < n) : (row f m s n).set i (optV f v) = row f (up m (s, i) v) s n := by
  apply List.ext_getElem?
  intro j
  by_cases hj : j < n
  · rw [row_get hj]
    by_cases e : i = j
    · subst e
      rw [List.getElem?_set_self (by rw [row_length]; exact hj), up_same]
    · rw [List.getElem?_set_ne e, row_get hj, up_ix (Ne.symm e)]
  · rw [List.getElem?_eq_none (by rw [List.length_set, row_length]; omega), List.getElem?_eq_none (by rw [row_length]; omega)]
theorem row_other {t : Bool} (h : t ≠ s) : row f (up m (t, i) v) s n = row f m s n := row_ext fun j _ => by rw [up_side (Ne.symm h)]
theorem row_none : row f (fun _ => none) s n = List.replicate n V.non := by
  unfold row
  show (List.range n).map (fun _ => V.non) = _
  rw [List.map_const', List.length_range]
end

/-! ### a cell: what lies in a spot -/
structure Cell where
  q : Addr
  dx : Addr
  b : Addr
  d : Addr
  xs : List Int
  hs : List Hd
  bd : Option Nat
def bdV : Option Nat → V
  | none => .non
  | some j => .int (j : Int)
theorem bdV_non (o : Option Nat) : decide (bdV o = V.non) = o.isNone := by
  cases o with
  | none => rfl
  | some j => rfl
def lyF (b d : Addr) (v : V) : List (Str × V) := [("boxes", .ref b), ("held", .ref d), ("bound", v)]
theorem lk_here {k : Str} {v : V} {r : List (Str × V)} : List.lookup k ((k, v) :: r) = some v := by
  have e : (k == k) = true := beq_self_eq_true k
  simp only [List.lookup, e]
theorem lk_past {k g : Str} {v : V} {r : List (Str × V)} (h : (k == g) = false) : List.lookup k ((g, v) :: r) = List.lookup k r := by
  simp only [List.lookup, h]
theorem put_here {f : Str} {v x : V} {r : List (Str × V)} : putF f v ((f, x) :: r) = (f, v) :: r := if_pos rfl
theorem put_past {f g : Str} {v x : V} {r : List (Str × V)} (h : ¬ g = f) : putF f v ((g, x) :: r) = (g, x) :: putF f v r := if_neg h
section
variable {b d : Addr} {v w : V}
theorem lyF_boxes : (lyF b d v).lookup ("boxes" : Str) = some (.ref b) := lk_here
theorem lyF_held : (lyF b d v).lookup ("held" : Str) = some (.ref d) := (lk_past (by decide +kernel)).trans lk_here
theorem lyF_bound : (lyF b d v).lookup ("bound" : Str) = some v := (lk_past (by decide +kernel)).trans ((lk_past (by decide +kernel)).trans lk_here)
theorem lyF_no {k : Str} (h1 : (k == ("boxes" : Str)) = false) (h2 : (k == ("held" : Str)) = false) (h3 : (k == ("bound" : Str)) = false) : (lyF b d v).lookup k = none := (lk_past h1).trans ((lk_past h2).trans ((lk_past h3).trans rfl))
theorem lyF_put : putF "bound" w (lyF b d v) = lyF b d w := (put_past (by decide +kernel)).trans (congrArg _ ((put_past (by decide +kernel)).trans (congrArg _ put_here)))
theorem lyF_new : putF "bound" v (putF "held" (.ref d) (putF "boxes" (.ref b) [])) = lyF b d v := by
  show putF "bound" v (putF "held" (.ref d) [("boxes", .ref b)]) = _
  rw [put_past (by decide +kernel)]
  show putF "bound" v [("boxes", .ref b), ("held", .ref d)] = _
  rw [put_past (by decide +kernel), put_past (by decide +kernel)]
  rfl
end
def clsOf (a : Ad) (s : Bool) : Addr := if s = true then a.CT else a.CL
/-- a cell stands in the heap, an instance of the class at C -/
structure CellAt (C : Addr) (H : Hp) (c : Cell) : Prop where
  q : H c.q = some (.ins C c.dx (lyF c.b c.d (bdV c.bd)))
  b : H c.b = some (.lst (c.xs.map V.int))
  d : H c.d = some (hdT c.hs)
def adr (c : Cell) : List Addr := [c.q, c.b, c.d]
theorem mem_adr {c : Cell} {u : Addr} : u ∈ adr c ↔ u = c.q ∨ u = c.b ∨ u = c.d := by simp [adr]
theorem CellAt.keep {C : Addr} {H H' : Hp} {c : Cell} (x : CellAt C H c) (k : ∀ u o, u ∈ adr c → H u = some o → H' u = some o) : CellAt C H' c :=
  ⟨k _ _ (mem_adr.mpr (.inl rfl)) x.q, k _ _ (mem_adr.mpr (.inr (.inl rfl))) x.b, k _ _ (mem_adr.mpr (.inr (.inr rfl))) x.d⟩
theorem CellAt.upd {C : Addr} {H : Hp} {c : Cell} (x : CellAt C H c) {u : Addr} {o : HO} (h : u ∉ adr c) : CellAt C (upd H u o) c :=
  x.keep fun v p hv e => by rw [upd_ne (fun z => h (by rw [← z]; exact hv))]; exact e

/-! ### the sheets' object -/
structure Sh where
  p : Addr
  dx : Addr
  lf : Addr
  ls : Addr
  F : Nat
  G : Nat
  m : Mp Cell
  st : Nat
  n1 : Int
  n2 : Int
  n3 : Int
def shF (lf ls : Addr) (st n1 n2 n3 : Int) : List (Str × V) :=
  [("size", .int 2), ("in_frames", .ref lf), ("in_slots", .ref ls), ("stand", .int st), ("gone_out", .int n1), ("gone_elsewhere", .int n2), ("come_back", .int n3)]
section
variable {lf ls : Addr} {st n1 n2 n3 z : Int}
theorem shF_frames : (shF lf ls st n1 n2 n3).lookup ("in_frames" : Str) = some (.ref lf) := (lk_past (by decide +kernel)).trans lk_here
theorem shF_slots : (shF lf ls st n1 n2 n3).lookup ("in_slots" : Str) = some (.ref ls) := (lk_past (by decide +kernel)).trans ((lk_past (by decide +kernel)).trans lk_here)
theorem shF_stand : (shF lf ls st n1 n2 n3).lookup ("stand" : Str) = some (.int st) := (lk_past (by decide +kernel)).trans ((lk_past (by decide +kernel)).trans ((lk_past (by decide +kernel)).trans lk_here))
theorem shF_out : (shF lf ls st n1 n2 n3).lookup ("gone_out" : Str) = some (.int n1) :=
  (lk_past (by decide +kernel)).trans ((lk_past (by decide +kernel)).trans ((lk_past (by decide +kernel)).trans ((lk_past (by decide +kernel)).trans lk_here)))
theorem shF_else : (shF lf ls st n1 n2 n3).lookup ("gone_elsewhere" : Str) = some (.int n2) :=
  (lk_past (by decide +kernel)).trans ((lk_past (by decide +kernel)).trans ((lk_past (by decide +kernel)).trans ((lk_past (by decide +kernel)).trans ((lk_past (by decide +kernel)).trans lk_here))))
theorem shF_back : (shF lf ls st n1 n2 n3).lookup ("come_back" : Str) = some (.int n3) :=
  (lk_past (by decide +kernel)).trans ((lk_past (by decide +kernel)).trans ((lk_past (by decide +kernel)).trans ((lk_past (by decide +kernel)).trans ((lk_past (by decide +kernel)).trans ((lk_past (by decide +kernel)).trans lk_here)))))
theorem shF_no {k : Str} (h : ((["size", "in_frames", "in_slots", "stand", "gone_out", "gone_elsewhere", "come_back"] : List Str).all fun g => !(k == g)) = true) : (shF lf ls st n1 n2 n3).lookup k = none := by
  simp only [List.all_cons, List.all_nil, Bool.and_eq_true, Bool.not_eq_true'] at h
  obtain ⟨h1, h2, h3, h4, h5, h6, h7, _⟩ := h
  exact (lk_past h1).trans ((lk_past h2).trans ((lk_past h3).trans ((lk_past h4).trans ((lk_past h5).trans ((lk_past h6).trans ((lk_past h7).trans rfl))))))
theorem shF_put_stand : putF "stand" (.int z) (shF lf ls st n1 n2 n3) = shF lf ls z n1 n2 n3 := by
  unfold shF
  rw [put_past (by decide +kernel), put_past (by decide +kernel), put_past (by decide +kernel), put_here]
theorem shF_put_out : putF "gone_out" (.int z) (shF lf ls st n1 n2 n3) = shF lf ls st z n2 n3 := by
  unfold shF
  rw [put_past (by decide +kernel), put_past (by decide +kernel), put_past (by decide +kernel), put_past (by decide +kernel), put_here]
theorem shF_put_else : putF "gone_elsewhere" (.int z) (shF lf ls st n1 n2 n3) = shF lf ls st n1 z n3 := by
  unfold shF
  rw [put_past (by decide +kernel), put_past (by decide +kernel), put_past (by decide +kernel), put_past (by decide +kernel), put_past (by decide +kernel), put_here]
theorem shF_put_back : putF "come_back" (.int z) (shF lf ls st n1 n2 n3) = shF lf ls st n1 n2 z := by
  unfold shF
  rw [put_past (by decide +kernel), put_past (by decide +kernel), put_past (by decide +kernel), put_past (by decide +kernel), put_past (by decide +kernel), put_past (by decide +kernel), put_here]
theorem shF_len : (shF lf ls st n1 n2 n3).length < 1000 := by show 7 < 1000; omega
end
abbrev cV (c : Cell) : V := .ref c.q
/-- the sheets' object S stands in the heap -/
structure ShAt (a : Ad) (H : Hp) (S : Sh) : Prop where
  p : H S.p = some (.ins a.CS S.dx (shF S.lf S.ls (S.st : Int) S.n1 S.n2 S.n3))
  lf : H S.lf = some (.lst (row cV S.m false S.F))
  ls : H S.ls = some (.lst (row cV S.m true S.G))
  cs : ∀ x c, S.m x = some c → CellAt (clsOf a x.1) H c
def sz (S : Sh) (s : Bool) : Nat := if s = true then S.G else S.F
def lst (S : Sh) (s : Bool) : Addr := if s = true then S.ls else S.lf
theorem ShAt.l {a : Ad} {H : Hp} {S : Sh} (x : ShAt a H S) (s : Bool) : H (lst S s) = some (.lst (row cV S.m s (sz S s))) := by
  cases s with
  | false => exact x.lf
  | true => exact x.ls
/-- no two things of S share an address; nothing lies outside -/
structure Lay (S : Sh) : Prop where
  pf : S.p ≠ S.lf
  ps : S.p ≠ S.ls
  fs : S.lf ≠ S.ls
  cn : ∀ x c, S.m x = some c → c.q ≠ c.b ∧ c.q ≠ c.d ∧ c.b ≠ c.d
  dj : ∀ x y c c', S.m x = some c → S.m y = some c' → x ≠ y → ∀ u, u ∈ adr c → u ∉ adr c'
  bs : ∀ x c, S.m x = some c → ∀ u, u ∈ adr c → u ≠ S.p ∧ u ≠ S.lf ∧ u ≠ S.ls
  inb : ∀ x c, S.m x = some c → x.2 < sz S x.1
/-- S's addresses -/
def Reg (S : Sh) (u : Addr) : Prop := u = S.p ∨ u = S.lf ∨ u = S.ls ∨ ∃ x c, S.m x = some c ∧ u ∈ adr c
theorem Reg.cell {S : Sh} {x : Spot} {c : Cell} {u : Addr} (h : S.m x = some c) (hu : u ∈ adr c) : Reg S u := .inr (.inr (.inr ⟨x, c, h, hu⟩))
theorem ShAt.there {a : Ad} {H : Hp} {S : Sh} (x : ShAt a H S) {u : Addr} (h : Reg S u) : ∃ o, H u = some o := by
  rcases h with rfl | rfl | rfl | ⟨y, c, hc, hu⟩
  · exact ⟨_, x.p⟩
  · exact ⟨_, x.lf⟩
  · exact ⟨_, x.ls⟩
  · have z := x.cs y c hc
    rcases mem_adr.mp hu with rfl | rfl | rfl
    · exact ⟨_, z.q⟩
    · exact ⟨_, z.b⟩
    · exact ⟨_, z.d⟩
/-- what a deed on S leaves as it was; S's new addresses are new -/
structure Fr (S S' : Sh) (H H' : Hp) : Prop where
  keep : ∀ u o, H u = some o → ¬ Reg S u → H' u = some o
  new : ∀ u, Reg S' u → Reg S u ∨ H u = none
theorem Fr.refl {S : Sh} {H : Hp} : Fr S S H H := ⟨fun _ _ e _ => e, fun _ h => .inl h⟩
theorem Fr.trans {S S1 S2 : Sh} {H H1 H2 : Hp} (a : Fr S S1 H H1) (b : Fr S1 S2 H1 H2) : Fr S S2 H H2 := by
  have no : ∀ u o, H u = some o → ¬ Reg S u → ¬ Reg S1 u := fun u o e n r => by
    rcases a.new u r with z | z
    · exact n z
    · rw [e] at z; cases z
  refine ⟨fun u o e n => b.keep u o (a.keep u o e n) (no u o e n), fun u r => ?_⟩
  rcases b.new u r with z | z
  · exact a.new u z
  · by_cases n : Reg S u
    · exact .inl n
    · cases q : H u with
      | none => exact .inr rfl
      | some o =>
        rw [a.keep u o q n] at z
        cases z
theorem Fr.same {S S' : Sh} {H H' : Hp} (k : ∀ u o, H u = some o → H' u = some o) (h : ∀ u, Reg S' u → Reg S u) : Fr S S' H H' := ⟨fun u o e _ => k u o e, fun u r => .inl (h u r)⟩
theorem ShAt.same {a : Ad} {H H' : Hp} {S : Sh} (x : ShAt a H S) (k : ∀ u o, Reg S u → H u = some o → H' u = some o) : ShAt a H' S :=
  ⟨k _ _ (.inl rfl) x.p, k _ _ (.inr (.inl rfl)) x.lf, k _ _ (.inr (.inr (.inl rfl))) x.ls, fun y c h => (x.cs y c h).keep fun u o hu e => k u o (Reg.cell h hu) e⟩
/-- a spot's tuple -/
def sn (s : Bool) : Str := if s = true then "slot" else "frame"
def spV (x : Spot) : List V := [.str (sn x.1), .int (x.2 : Int)]
theorem sn_slot (s : Bool) : decide (V.str (sn s) = V.str "slot") = s := by
  cases s with
  | false => exact decide_eq_false (by intro e; injection e with e; revert e; decide +kernel)
  | true => exact decide_eq_true rfl
theorem sn_frame (s : Bool) : decide (V.str (sn s) = V.str "frame") = !s := by
  cases s with
  | true => exact decide_eq_false (by intro e; injection e with e; revert e; decide +kernel)
  | false => exact decide_eq_true rfl
/-- a sheet lies at x: no twin -/
def isSh (x : Spot) (c : Cell) : Bool := !x.1 || c.bd.isNone
/-- the sheets alone: values, holders -/
def vw (m : Mp Cell) : Mp (List Int × List Hd) := fun x => match m x with
  | none => none
  | some c => if isSh x c = true then some (c.xs, c.hs) else none
end Fl

set_option Elab.async false
set_option linter.all false
set_option maxRecDepth 100000
set_option maxHeartbeats 4000000
/-! The sorted holders; the small defs: swept, Lying's methods, the rows. -/
namespace Fl
open PySem L2
def insH (h : Hd) : List Hd → List Hd
  | [] => [h]
  | a :: r => if h.rank ≤ a.rank then h :: a :: r else a :: insH h r
def sortH : List Hd → List Hd
  | [] => []
  | h :: r => insH h (sortH r)
theorem insH_perm (h : Hd) : ∀ l : List Hd, (insH h l).Perm (h :: l)
  | [] => List.Perm.refl _
  | a :: r => by
    unfold insH
    split
    · exact List.Perm.refl _
    · exact ((insH_perm h r).cons a).trans (List.Perm.swap h a r)
theorem sortH_perm : ∀ l : List Hd, (sortH l).Perm l
  | [] => List.Perm.refl _
  | h :: r => (insH_perm h (sortH r)).trans ((sortH_perm r).cons h)
theorem insH_sorted (h : Hd) : ∀ l : List Hd, l.Pairwise (fun a b => a.rank ≤ b.rank) → (insH h l).Pairwise (fun a b => a.rank ≤ b.rank)
  | [], _ => List.pairwise_singleton _ _
  | a :: r, p => by
    unfold insH
    obtain ⟨p1, p2⟩ := List.pairwise_cons.mp p
    split
    · rename_i q
      exact List.pairwise_cons.mpr ⟨fun b hb => by
        rcases List.mem_cons.mp hb with rfl | hb
        · exact q
        · exact Int.le_trans q (p1 b hb), p⟩
    · rename_i q
      exact List.pairwise_cons.mpr ⟨fun b hb => by
        rcases List.mem_cons.mp ((insH_perm h r).mem_iff.mp hb) with rfl | hb
        · omega
        · exact p1 b hb, insH_sorted h r p2⟩
theorem sortH_sorted : ∀ l : List Hd, (sortH l).Pairwise (fun a b => a.rank ≤ b.rank)
  | [] => List.Pairwise.nil
  | h :: r => insH_sorted h _ (sortH_sorted r)
theorem sorted_one : ∀ {l l' : List Hd}, l.Perm l' → l.Pairwise (fun a b => a.rank ≤ b.rank) → l'.Pairwise (fun a b => a.rank ≤ b.rank) → (∀ h ∈ l, h.small) → l = l'
  | [], l', p, _, _, _ => by rw [List.nil_perm.mp p]
  | a :: r, [], p, _, _, _ => by
    have := p.length_eq
    simp at this
  | a :: r, b :: r', p, s1, s2, sm => by
    have e : a = b := by
      obtain ⟨p1, _⟩ := List.pairwise_cons.mp s1
      obtain ⟨p2, _⟩ := List.pairwise_cons.mp s2
      have h1 : b ∈ a :: r := p.mem_iff.mpr (List.mem_cons_self ..)
      have h2 : a ∈ b :: r' := p.mem_iff.mp (List.mem_cons_self ..)
      rcases List.mem_cons.mp h1 with e | h1'
      · exact e.symm
      · rcases List.mem_cons.mp h2 with e | h2'
        · exact e
        · exact rank_inj (sm a (List.mem_cons_self ..)) (sm b h1) (Int.le_antisymm (p1 b h1') (p2 a h2'))
    subst e
    rw [sorted_one ((List.perm_cons a).mp p) (List.pairwise_cons.mp s1).2 (List.pairwise_cons.mp s2).2 fun h hh => sm h (List.mem_cons_of_mem _ hh)]
/-- sorted holders are the sorted holders -/
theorem sort_is {us : List (Addr × Hd)} {hs : List Hd} (p : (us.map Prod.snd).Perm hs) (s : us.Pairwise (fun p q => p.2.rank ≤ q.2.rank)) (sm : ∀ h ∈ hs, h.small) : us.map Prod.snd = sortH hs :=
  sorted_one (p.trans (sortH_perm hs).symm) (by rw [List.pairwise_map]; exact s) (sortH_sorted hs) fun h hh => sm h (p.mem_iff.mp hh)
/-- holders that may be told: fewer than 64, small numbers -/
def Few (hs : List Hd) : Prop := hs.length < 64 ∧ ∀ h ∈ hs, h.small

/-! ### classes by the row -/
section
variable {K : PySem.W.Frag} {mg : Str → Option Value} {a : Ad}
theorem Top.cls (T : Top K mg a) (s : Bool) : Cls K (clsOf a s) := by cases s; exact T.clL; exact T.clT
theorem Top.nBoxes (T : Top K mg a) (s : Bool) : NoAttr K (clsOf a s) "boxes" := by cases s; exact T.nL_boxes; exact T.nT_boxes
theorem Top.nHeld (T : Top K mg a) (s : Bool) : NoAttr K (clsOf a s) "held" := by cases s; exact T.nL_held; exact T.nT_held
theorem Top.nBound (T : Top K mg a) (s : Bool) : NoAttr K (clsOf a s) "bound" := by cases s; exact T.nL_bound; exact T.nT_bound
theorem Top.mRow (T : Top K mg a) (s : Bool) : Meth K (clsOf a s) "holder_row" a.fLyRow := by cases s; exact T.mLyRowL; exact T.mLyRowT
theorem Top.mBank (T : Top K mg a) (s : Bool) : Meth K (clsOf a s) "is_banked" a.fLyBank := by cases s; exact T.mLyBankL; exact T.mLyBankT
theorem Top.mShow (T : Top K mg a) (s : Bool) : Meth K (clsOf a s) "shown" a.fLyShow := by cases s; exact T.mLyShowL; exact T.mLyShowT
theorem Top.mkC (T : Top K mg a) (s : Bool) : Mk K (clsOf a s) a.fLyInit := by cases s; exact T.MkL; exact T.MkT
def fIs (a : Ad) (s : Bool) : Addr := if s = true then a.fStIs else a.fLyIs
def dIs (a : Ad) (s : Bool) : FuncData := if s = true then a.dStIs else a.dLyIs
theorem Top.mIs (T : Top K mg a) (s : Bool) : Meth K (clsOf a s) "is_sheet" (fIs a s) := by cases s; exact T.mLyIs; exact T.mStIs
theorem Top.bIs (T : Top K mg a) (s : Bool) : Binds K (dIs a s) ["self"] [] := by cases s; exact T.bLyIs; exact T.bStIs
end

/-! ### the promises -/
/-- swept: a place of the marks, and some list -/
def spSwept : Sp := fun vs H Q _ => ∃ (l : Addr) (bs : List Bool) (h : Nat), vs = [.ref l, .int (h : Int)] ∧ H l = some (.lst (bs.map V.bl)) ∧ bs.length ≤ 64 ∧ h < bs.length ∧
  ∀ (H' : Hp) (t l' : Addr) (f : Nat), Same H H' → f < bs.length → H' t = some (.tup [.int (f : Int), .ref l']) → Q (.ref t) H'
def spLyInit (a : Ad) : Sp := fun vs H Q _ => ∃ (s : Bool) (p dx b d : Addr) (v : V), vs = [.ref p, .ref b, .ref d, v] ∧ H p = some (.ins (clsOf a s) dx []) ∧ Q .non (upd H p (.ins (clsOf a s) dx (lyF b d v)))
def spIs (a : Ad) (s : Bool) : Sp := fun vs H Q _ => ∃ (q dx b d : Addr) (v : V), vs = [.ref q] ∧ H q = some (.ins (clsOf a s) dx (lyF b d v)) ∧ Q (.bl (!s || decide (v = .non))) H
def spRow (a : Ad) : Sp := fun vs H Q _ => ∃ (s : Bool) (q dx b d : Addr) (v : V) (hs : List Hd), vs = [.ref q] ∧ H q = some (.ins (clsOf a s) dx (lyF b d v)) ∧ H d = some (hdT hs) ∧ Few hs ∧
  ∀ (H' : Hp) (l : Addr) (us : List (Addr × Hd)), Same H H' → H l = none → us.map Prod.snd = sortH hs → (∀ t ∈ us, AtHd H' t) → H' l = some (.lst (us.map fun t => V.ref t.1)) → Q (.ref l) H'
def spBank (a : Ad) : Sp := fun vs H Q _ => ∃ (s : Bool) (q dx b d : Addr) (v : V) (hs : List Hd), vs = [.ref q] ∧ H q = some (.ins (clsOf a s) dx (lyF b d v)) ∧ H d = some (hdT hs) ∧ Q (.bl (hs.any (·.bk))) H
def spShow (a : Ad) : Sp := fun vs H Q _ => ∃ (s : Bool) (q dx b d : Addr) (v : V) (xs : List Int) (hs : List Hd), vs = [.ref q] ∧ H q = some (.ins (clsOf a s) dx (lyF b d v)) ∧ H b = some (.lst (xs.map V.int)) ∧ H d = some (hdT hs) ∧ Few hs ∧
  ∀ (H' : Hp) (t l1 l2 : Addr) (us : List (Addr × Hd)), Same H H' → H t = none → H l1 = none → H l2 = none → us.map Prod.snd = sortH hs → (∀ t ∈ us, AtHd H' t) → H' t = some (.tup [.ref l1, .ref l2, v]) → H' l1 = some (.lst (xs.map V.int)) → H' l2 = some (.lst (us.map fun t => V.ref t.1)) → Q (.ref t) H'
section
variable {P : Program} {w : World} {K : PySem.W.Frag} {mg : Str → Option Value} {base : Heap} {a : Ad}
theorem ok_swept (T : Top K mg a) : FnOk P w K mg base CX0 1 a.fSwept a.dSwept ["marks", "hand"] spSwept := by
  refine T.FSwept.ok scSwept (fun vs H Q E h => ?_) (fun cdv A outer s H vs Q E hr h => ?_)
  · obtain ⟨l, bs, n, rfl, _⟩ := h
    rfl
  · obtain ⟨l, bs, n, rfl, hl, h64, hn, k⟩ := h
    refine ⟨_, pss_cons (ps_set (i := 2) scSwept.nd rfl (.inl rfl) (pe_lst pa_nil)) (pss_cons (ps_set (i := 3) scSwept.nd rfl (.inl rfl) (pv 1))
      (pss_cons (ps_while PassesOwn.never (PW.pt (pw_and (pt_val (pe_ix ix_list (pv 0) (pv 3) (fun _ _ => rfl))) (pw_and1 (pt_cmpR op_lt (pe_callB call_len_seq (by rfl) T.zlen PySem.boot_len (pa_cons (pv 2) pa_nil)) (pe_callB call_len_seq (by rfl) T.zlen PySem.boot_len (pa_cons (pv 0) pa_nil)) (nomark _)))))
        (pss_cons (ps_expr (pe_bm PySem.F.plainAttrs_list PySem.F.slot_list_append PySem.F.type_list_append mt_append (pv 2) (pa_cons (pv 3) pa_nil)))
        (pss_cons (ps_set (i := 3) scSwept.nd rfl (.inl rfl) (pe_op op_add (pv 3) pe_int))
        (pss_one (ps_if (pt_cmpR op_eq (pv 3) (pe_callB call_len_seq (by rfl) T.zlen PySem.boot_len (pa_cons (pv 0) pa_nil)) (nomark _)) (pss_one (ps_set (i := 3) scSwept.nd rfl (.inl rfl) pe_int)) pss_nil)))))
      (pss_one (ps_ret (pe_tup (pa_cons (pv 3) (pa_cons (pv 2) pa_nil))))))), ?_⟩
    refine ⟨Nat.zero_le _, fun p np => ⟨_, rfl, ?_⟩⟩
    have nlp : l ≠ p := ne_of_none hl np
    refine ⟨fun m σ H' => ∃ (ps : List V) (f : Nat), m = bs.length - ps.length ∧ ps.length ≤ bs.length ∧ f < bs.length ∧ Same H H' ∧ H' p = some (.lst ps) ∧ σ = [some (.ref l), some (.int (n : Int)), some (.ref p), some (.int (f : Int))],
      ⟨bs.length, [], n, rfl, Nat.zero_le _, hn, fun b o e => by rw [upd_ne (ne_of_none e np)]; exact e, upd_same, rfl⟩, ?_⟩
    rintro m σ H' ⟨ps, f, rfl, hps, hf, sm, hp, rfl⟩
    have hl' := sm _ _ hl
    have out : ∀ H2 : Hp, Same H H2 → H2 p = some (.lst ps) → (2 ≤ sizeLine ∧ ∀ q, H2 q = none → Q (.ref q) (upd H2 q (.tup [.int (f : Int), .ref p]))) := fun H2 s2 e2 => ⟨(by show 2 ≤ sizeLine; decide), fun q nq => k _ q p f (fun b o e => by rw [upd_ne (ne_of_none (s2 b o e) nq)]; exact s2 b o e) hf upd_same⟩
    refine ⟨_, rfl, _, rfl, l, _, _, V.bl bs[f], rfl, rfl, SqL.of hl', atI_nat (by rw [List.getElem?_map, List.getElem?_eq_getElem hf]; rfl), bs[f], rfl, ?_⟩
    cases hb : bs[f] with
    | false =>
      refine iteF (iteF ?_)
      obtain ⟨o1, o2⟩ := out H' sm hp
      exact ⟨_, rfl, _, rfl, o1, o2⟩
    | true =>
      refine iteT ⟨_, rfl, p, _, rfl, .inl (SqL.of hp), _, rfl, l, _, rfl, .inl (SqL.of hl'), _, _, rfl, rfl, _, rfl, ?_⟩
      rw [List.length_map]
      by_cases hc : ps.length < bs.length
      · rw [decide_eq_true (by omega : ((ps.length : Nat) : Int) < ((bs.length : Nat) : Int))]
        refine iteT ⟨fun σ' H2 => ∃ (qs : List V) (g : Nat), qs.length = ps.length + 1 ∧ g < bs.length ∧ Same H H2 ∧ H2 p = some (.lst qs) ∧ σ' = [some (.ref l), some (.int (n : Int)), some (.ref p), some (.int (g : Int))], ?_, ?_⟩
        · rintro σ' H2 ⟨qs, g, e1, e2, e3, e4, rfl⟩
          exact ⟨bs.length - qs.length, by omega, qs, g, rfl, by omega, e2, e3, e4, rfl⟩
        · refine ⟨_, rfl, .inl ⟨rfl, _, SqL.of hp⟩, _, rfl, p, _, _, rfl, rfl, hp, Nat.lt_of_le_of_lt hps (Nat.lt_of_le_of_lt h64 (by decide)), ?_⟩
          have s2 : Same H (upd H' p (.lst (ps ++ [V.int (f : Int)]))) := fun b o e => by rw [upd_ne (ne_of_none e np)]; exact sm b o e
          refine ⟨_, rfl, _, _, rfl, rfl, ?_⟩
          refine ⟨_, rfl, _, rfl, l, _, rfl, .inl (SqL.of (s2 _ _ hl)), rfl, _, rfl, ?_⟩
          rw [List.length_map]
          by_cases hz : f + 1 = bs.length
          · rw [decide_eq_true (by rw [← hz]; simp : V.int ((f : Int) + 1) = V.int ((bs.length : Nat) : Int))]
            exact iteT ⟨ps ++ [V.int (f : Int)], 0, by simp, by omega, s2, upd_same, rfl⟩
          · rw [decide_eq_false (fun q => hz (by injection q with q; omega) : ¬ V.int ((f : Int) + 1) = V.int ((bs.length : Nat) : Int))]
            exact iteF ⟨ps ++ [V.int (f : Int)], f + 1, by simp, by omega, s2, upd_same, rfl⟩
      · rw [decide_eq_false (by omega : ¬ ((ps.length : Nat) : Int) < ((bs.length : Nat) : Int))]
        refine iteF ?_
        obtain ⟨o1, o2⟩ := out H' sm hp
        exact ⟨_, rfl, _, rfl, o1, o2⟩
theorem upd3 {H : Hp} {p : Addr} {o1 o2 o3 : HO} : upd (upd (upd H p o1) p o2) p o3 = upd H p o3 := by rw [upd_upd, upd_upd]
theorem ok_lyInit (T : Top K mg a) : FnOk P w K mg base CX0 1 a.fLyInit a.dLyInit ["self", "boxes", "held", "bound"] (spLyInit a) := by
  refine T.FLyInit.ok scLyInit (fun vs H Q E h => ?_) (fun cdv A outer s H vs Q E hr h => ?_)
  · obtain ⟨s, p, dx, b, d, v, rfl, _⟩ := h
    rfl
  · obtain ⟨s, p, dx, b, d, v, rfl, hp, k⟩ := h
    refine ⟨_, pss_cons (ps_fld (pv 0) (pv 1) rfl) (pss_cons (ps_fld (pv 0) (pv 2) rfl) (pss_one (ps_fld (pv 0) (pv 3) rfl))), ?_⟩
    refine ⟨_, rfl, _, rfl, p, _, dx, [], rfl, hp, T.cls s, T.nBoxes s, (by show 0 < 1000; decide), ?_⟩
    refine ⟨_, rfl, _, rfl, p, _, dx, _, rfl, upd_same, T.cls s, T.nHeld s, (by show 1 < 1000; decide), ?_⟩
    refine ⟨_, rfl, _, rfl, p, _, dx, _, rfl, upd_same, T.cls s, T.nBound s, (by show (putF ("held" : Str) (V.ref d) [(("boxes" : Str), V.ref b)]).length < 1000; rw [put_past (by decide +kernel)]; show 2 < 1000; decide), ?_⟩
    show Q .non _
    rw [upd3, lyF_new]
    exact k
theorem ok_is (T : Top K mg a) (s : Bool) : FnOk P w K mg base CX0 1 (fIs a s) (dIs a s) ["self"] (spIs a s) := by
  cases s with
  | false =>
    refine T.FLyIs.ok scLyIs (fun vs H Q E h => ?_) (fun cdv A outer s H vs Q E hr h => ?_)
    · obtain ⟨q, dx, b, d, v, rfl, _⟩ := h
      rfl
    · obtain ⟨q, dx, b, d, v, rfl, hq, k⟩ := h
      exact ⟨_, pss_one (ps_ret pe_bl), k⟩
  | true =>
    refine T.FStIs.ok scStIs (fun vs H Q E h => ?_) (fun cdv A outer s H vs Q E hr h => ?_)
    · obtain ⟨q, dx, b, d, v, rfl, _⟩ := h
      rfl
    · obtain ⟨q, dx, b, d, v, rfl, hq, k⟩ := h
      exact ⟨_, pss_one (ps_ret (pe_cmpR op_isN (pe_fld (pv 0) rfl) pe_non (nomark _))), _, rfl, q, _, dx, _, _, rfl, hq, T.cls true, T.nBound true, lyF_bound, rfl, k⟩
theorem ok_row (T : Top K mg a) : FnOk P w K mg base CX0 1 a.fLyRow a.dLyRow ["self"] (spRow a) := by
  refine T.FLyRow.ok scLyRow (fun vs H Q E h => ?_) (fun cdv A outer s H vs Q E hr h => ?_)
  · obtain ⟨s, q, dx, b, d, v, hs, rfl, _⟩ := h
    rfl
  · obtain ⟨s, q, dx, b, d, v, hs, rfl, hq, hd, hf, k⟩ := h
    refine ⟨_, pss_one (ps_ret (pe_callB (cr_sortKeys rfl) (by rfl) T.zsorted (by decide +kernel) (pa_cons (pe_bm0 PySem.F.plainAttrs_dict PySem.F.slot_dict_keys PySem.F.type_dict_keys mt_keysT (pe_fld (pv 0) rfl)) pa_nil))), ?_⟩
    refine ⟨_, rfl, q, _, dx, _, _, rfl, hq, T.cls s, T.nHeld s, lyF_held, .inr (.inr (.inl ⟨rfl, .inr ⟨_, hd⟩⟩)), d, _, rfl, rfl, hd, fun p np => ?_⟩
    have e1 : ∀ b o, H b = some o → upd H p (keysO p d) b = some o := fun b o e => by rw [upd_ne (ne_of_none e np)]; exact e
    refine ⟨p, d, hs, rfl, upd_same, e1 _ _ hd, hf.1, hf.2, fun us l pm srt at_ nl => ?_⟩
    have e2 : ∀ b o, upd H p (keysO p d) b = some o → upd (upd H p (keysO p d)) l (.lst (us.map fun t => V.ref t.1)) b = some o := fun b o e => by rw [upd_ne (ne_of_none e nl)]; exact e
    have nl0 : H l = none := by
      cases z : H l with
      | none => rfl
      | some o => rw [e1 _ _ z] at nl; cases nl
    exact k _ l us (fun b o e => e2 b o (e1 b o e)) nl0 (sort_is pm srt hf.2) (fun t ht => e2 _ _ (at_ t ht)) upd_same
theorem upd_back {H : Hp} {d : Addr} {o u : HO} (h : H d = some u) : upd (upd H d o) d u = H := by
  rw [upd_upd]
  funext b
  by_cases e : b = d
  · subst e; rw [upd_same, h]
  · rw [upd_ne e]
theorem ok_bank (T : Top K mg a) : FnOk P w K mg base CX0 1 a.fLyBank a.dLyBank ["self"] (spBank a) := by
  refine T.FLyBank.ok scLyBank (fun vs H Q E h => ?_) (fun cdv A outer s H vs Q E hr h => ?_)
  · obtain ⟨s, q, dx, b, d, v, hs, rfl, _⟩ := h
    rfl
  · obtain ⟨s, q, dx, b, d, v, hs, rfl, hq, hd, k⟩ := h
    refine ⟨_, pss_cons (ps_lock (ps_for PassesOwn.never rfl (pi_keys (pe_fld (pv 0) rfl)) (pg_name (i := 1) scLyBank.nd rfl (.inl rfl))
        (pss_one (ps_if (pt_cmpR op_eq (pe_ix ix_tup (pv 1) pe_int (fun _ _ => rfl)) pe_str (nomark _)) (pss_one (ps_ret pe_bl)) pss_nil))))
      (pss_one (ps_ret pe_bl)), ?_⟩
    refine ⟨d, _, hd, trivial, fun od => ?_⟩
    have nqd : q ≠ d := ne_of hq hd (by intro z; cases z)
    refine ⟨_, rfl, q, _, dx, _, _, rfl, by rw [upd_ne nqd]; exact hq, T.cls s, T.nHeld s, lyF_held, d, od, rfl, .inr ⟨_, upd_same, ?_⟩⟩
    refine for_it walk_keysT (fun i σ H' => H' = upd H d (.frz od (hdT hs)) ∧ ((hs.take i).any (·.bk)) = false ∧ ∃ z : Option V, σ = [some (.ref q), z]) ⟨rfl, rfl, _, rfl⟩ (fun i σ H' _ hh => by rw [hh.1]; exact upd_same) ?_ ?_
    · rintro i x σ H1 H2 hi ⟨rfl, ha, z, rfl⟩ ⟨rfl, kk, vv, t, hk, rfl, ht⟩
      have hi' : i < hs.length := by simpa using hi
      have ek : kk = hs[i].key := by
        rw [List.getElem?_map, List.getElem?_eq_getElem hi'] at hk
        injection hk with hk
        injection hk with hk _
        exact hk.symm
      subst ek
      have step : (hs.take (i + 1)).any (·.bk) = hs[i].bk := by
        rw [List.take_succ_eq_append_getElem hi', List.any_append, ha]
        simp
      refine ⟨_, rfl, t, _, _, _, rfl, rfl, SqT.of ht, atI_nat (j := 0) rfl, rfl, _, rfl, ?_⟩
      have et : decide (V.str hs[i].txt = V.str "bank") = hs[i].bk := by
        unfold Hd.txt
        cases hs[i].bk with
        | true => exact decide_eq_true rfl
        | false => exact decide_eq_false (by intro e; injection e with e; revert e; decide +kernel)
      show if decide (V.str hs[i].txt = V.str "bank") = true then _ else _
      rw [et]
      cases hb : hs[i].bk with
      | true =>
        refine iteT ⟨upd_same, ?_⟩
        rw [upd_back hd]
        have : hs.any (·.bk) = true := List.any_eq_true.mpr ⟨hs[i], List.getElem_mem hi', hb⟩
        rw [this] at k
        exact k
      | false =>
        exact iteF ⟨rfl, step.trans hb, _, rfl⟩
    · rintro σ H1 ⟨rfl, ha, z, rfl⟩
      rw [List.length_map, List.take_length] at ha
      refine ⟨upd_same, ?_⟩
      rw [upd_back hd]
      rw [ha] at k
      exact k
theorem ok_show (T : Top K mg a) : FnOk P w K mg base CX0 2 a.fLyShow a.dLyShow ["self"] (spShow a) := by
  have GR : FnOk P w K mg base CX0 1 a.fLyRow a.dLyRow ["self"] (spRow a) := ok_row T
  refine T.FLyShow.ok scLyShow (fun vs H Q E h => ?_) (fun cdv A outer s H vs Q E hr h => ?_)
  · obtain ⟨s, q, dx, b, d, v, xs, hs, rfl, _⟩ := h
    rfl
  · obtain ⟨s, q, dx, b, d, v, xs, hs, rfl, hq, hb, hd, hf, k⟩ := h
    refine ⟨_, pss_one (ps_ret (pe_tup (pa_cons (pe_callTy call_list_of (by rfl) T.zlist (by decide +kernel) (pa_cons (pe_fld (pv 0) rfl) pa_nil))
      (pa_cons (pe_meth0 (pv 0) (T.cls s) (T.mRow s) GR hr T.bLyRow .nil pass0) (pa_cons (pe_fld (pv 0) rfl) pa_nil))))), ?_⟩
    refine ⟨_, rfl, q, _, dx, _, _, rfl, hq, T.cls s, T.nBoxes s, lyF_boxes, b, _, rfl, .inl (SqL.of hb), fun l1 n1 => ?_⟩
    have e1 : ∀ b o, H b = some o → upd H l1 (.lst (xs.map V.int)) b = some o := fun b o e => by rw [upd_ne (ne_of_none e n1)]; exact e
    refine ⟨_, rfl, q, dx, _, rfl, e1 _ _ hq, lyF_no (by decide +kernel) (by decide +kernel) (by decide +kernel), s, q, dx, b, d, v, hs, rfl, e1 _ _ hq, e1 _ _ hd, hf, fun H2 l2 us s2 n2 eu at2 h2 => ?_⟩
    have e2 : Same H H2 := fun b o e => s2 b o (e1 b o e)
    refine ⟨_, rfl, q, _, dx, _, _, rfl, e2 _ _ hq, T.cls s, T.nBound s, lyF_bound, (by show 3 ≤ sizeLine; decide), fun t nt => ?_⟩
    have e3 : Same H2 (upd H2 t (.tup [.ref l1, .ref l2, v])) := fun b o e => by rw [upd_ne (ne_of_none e nt)]; exact e
    have n2' : H l2 = none := by
      cases z : H l2 with
      | none => rfl
      | some o => rw [e1 _ _ z] at n2; cases n2
    exact k _ t l1 l2 us (e2.trans e3) (e2.free nt) n1 n2' eu (fun t ht => e3 _ _ (at2 t ht)) upd_same (e3 _ _ (s2 _ _ upd_same)) (e3 _ _ h2)
end
end Fl

set_option Elab.async false
set_option linter.all false
set_option maxRecDepth 100000
set_option maxHeartbeats 4000000
/-! The rows: told_spots, sheets_in, first_empty. -/
namespace Fl
open PySem L2
/-- a spot told: z is None, or a tuple of values, holders, bound; its own objects lie within U -/
def ToldAt (U : Addr → Prop) (H : Hp) (z : V) : Option (List Int × List Hd × Option Nat) → Prop
  | none => z = .non
  | some c => ∃ (t l1 l2 : Addr) (us : List (Addr × Hd)), z = .ref t ∧ U t ∧ U l1 ∧ U l2 ∧ H t = some (.tup [.ref l1, .ref l2, bdV c.2.2]) ∧ H l1 = some (.lst (c.1.map V.int)) ∧ H l2 = some (.lst (us.map fun t => V.ref t.1)) ∧
      us.map Prod.snd = sortH c.2.1 ∧ ∀ t ∈ us, AtHd H t
theorem ToldAt.keep {U U' : Addr → Prop} {H H' : Hp} {z : V} {c : Option (List Int × List Hd × Option Nat)} (x : ToldAt U H z c) (hu : ∀ u, U u → U' u) (k : ∀ u o, U u → H u = some o → H' u = some o) (kt : ∀ u vs, H u = some (.tup vs) → H' u = some (.tup vs)) : ToldAt U' H' z c := by
  cases c with
  | none => exact x
  | some c =>
    obtain ⟨t, l1, l2, us, e, u1, u2, u3, h1, h2, h3, h4, h5⟩ := x
    exact ⟨t, l1, l2, us, e, hu _ u1, hu _ u2, hu _ u3, k _ _ u1 h1, k _ _ u2 h2, k _ _ u3 h3, h4, fun t ht => kt _ _ (h5 t ht)⟩
abbrev pl (c : Cell) : List Int × List Hd × Option Nat := (c.xs, c.hs, c.bd)
/-- the cells of the row s stand -/
def CellsAt (a : Ad) (H : Hp) (m : Mp Cell) (s : Bool) : Prop := ∀ i c, m (s, i) = some c → CellAt (clsOf a s) H c
theorem CellsAt.same {a : Ad} {H H' : Hp} {m : Mp Cell} {s : Bool} (x : CellsAt a H m s) (k : Same H H') : CellsAt a H' m s := fun i c h => (x i c h).keep fun u o _ e => k u o e
/-- how many -/
def cnt {β : Type} (v : Mp β) (s : Bool) (n : Nat) : Nat := ((List.range n).filter fun i => (v (s, i)).isSome).length
theorem cnt_succ {β : Type} (v : Mp β) (s : Bool) (n : Nat) : cnt v s (n + 1) = cnt v s n + if (v (s, n)).isSome = true then 1 else 0 := by
  unfold cnt
  rw [List.range_succ, List.filter_append, List.length_append]
  congr 1
  cases h : (v (s, n)).isSome with
  | true => simp [h]
  | false => simp [h]
theorem cnt_le {β : Type} (v : Mp β) (s : Bool) : ∀ n, cnt v s n ≤ n
  | 0 => Nat.le_refl _
  | n + 1 => by
    rw [cnt_succ]
    have := cnt_le v s n
    split <;> omega
/-- the first empty spot of a row -/
def fstE (m : Mp Cell) (s : Bool) (n : Nat) : Option Nat := (List.range n).find? fun i => (m (s, i)).isNone
theorem fstE_some {m : Mp Cell} {s : Bool} {n k : Nat} (h : fstE m s n = some k) : k < n ∧ m (s, k) = none := by
  have h1 := List.find?_some h
  have h2 := List.mem_of_find?_eq_some h
  exact ⟨List.mem_range.mp h2, by simpa using h1⟩
theorem fstE_none {m : Mp Cell} {s : Bool} {n : Nat} (h : fstE m s n = none) : ∀ i, i < n → ∃ c, m (s, i) = some c := fun i hi => by
  have h1 := List.find?_eq_none.mp h i (List.mem_range.mpr hi)
  cases e : m (s, i) with
  | none => simp [e] at h1
  | some c => exact ⟨c, rfl⟩
theorem fstE_is {m : Mp Cell} {s : Bool} {n k : Nat} (hk : k < n) (h : m (s, k) = none) (ha : ∀ i, i < k → ∃ c, m (s, i) = some c) : fstE m s n = some k := by
  unfold fstE
  rw [List.find?_range_eq_some]
  refine ⟨by simp [h], List.mem_range.mpr hk, fun j hj => ?_⟩
  obtain ⟨c, e⟩ := ha j hj
  simp [e]
theorem fstE_no {m : Mp Cell} {s : Bool} {n : Nat} (ha : ∀ i, i < n → ∃ c, m (s, i) = some c) : fstE m s n = none := by
  unfold fstE
  rw [List.find?_eq_none]
  intro i hi
  obtain ⟨c, e⟩ := ha i (List.mem_range.mp hi)
  simp [e]
def spTold (a : Ad) : Sp := fun vs H Q _ => ∃ (l0 : Addr) (m : Mp Cell) (s : Bool) (n : Nat), vs = [.ref l0] ∧ H l0 = some (.lst (row cV m s n)) ∧ n ≤ 64 ∧ CellsAt a H m s ∧ (∀ i c, m (s, i) = some c → Few c.hs) ∧
  ∀ (H' : Hp) (l : Addr) (zs : List V), Same H H' → H l = none → H' l = some (.lst zs) → zs.length = n → (∀ i z, zs[i]? = some z → ToldAt (fun u => H u = none ∧ u ≠ l ∧ ∃ o, H' u = some o) H' z ((m (s, i)).map pl)) → Q (.ref l) H'
def spShin (a : Ad) : Sp := fun vs H Q _ => ∃ (l0 : Addr) (m : Mp Cell) (s : Bool) (n : Nat), vs = [.ref l0] ∧ H l0 = some (.lst (row cV m s n)) ∧ CellsAt a H m s ∧ Q (.int (cnt (vw m) s n : Nat)) H
def spFirst : Sp := fun vs H Q _ => ∃ (l0 : Addr) (m : Mp Cell) (s : Bool) (n : Nat), vs = [.ref l0] ∧ H l0 = some (.lst (row cV m s n)) ∧ ∀ H' : Hp, Same H H' → Q (bdV (fstE m s n)) H'
section
variable {P : Program} {w : World} {K : PySem.W.Frag} {mg : Str → Option Value} {base : Heap} {a : Ad}
theorem optV_non {m : Mp Cell} {x : Spot} : decide (optV cV (m x) = V.non) = (m x).isNone := by
  cases m x with
  | none => exact decide_eq_true rfl
  | some c => exact decide_eq_false fun q => nomatch q
theorem ok_told (T : Top K mg a) : FnOk P w K mg base CX0 3 a.fTold a.dTold ["spots"] (spTold a) := by
  have GS : FnOk P w K mg base CX0 2 a.fLyShow a.dLyShow ["self"] (spShow a) := ok_show T
  refine T.FTold.ok scTold (fun vs H Q E h => ?_) (fun cdv A outer s H vs Q E hr h => ?_)
  · obtain ⟨l0, m, sd, n, rfl, _⟩ := h
    rfl
  · obtain ⟨l0, m, sd, n, rfl, hl, hn, hc, hf, k⟩ := h
    refine ⟨_, pss_cons (ps_set (i := 1) scTold.nd rfl (.inl rfl) (pe_lst pa_nil))
      (pss_cons (ps_for PassesOwn.never rfl (pi_list (pv 0)) (pg_name (i := 2) scTold.nd rfl (.inl rfl))
        (pss_one (ps_if (pt_cmpR op_isN (pv 2) pe_non (nomark _))
          (pss_one (ps_expr (pe_bm PySem.F.plainAttrs_list PySem.F.slot_list_append PySem.F.type_list_append mt_append (pv 1) (pa_cons pe_non pa_nil))))
          (pss_one (ps_expr (pe_bm PySem.F.plainAttrs_list PySem.F.slot_list_append PySem.F.type_list_append mt_append (pv 1) (pa_cons (pe_meth0 (pv 2) (T.cls sd) (T.mShow sd) GS hr T.bLyShow .nil pass0) pa_nil)))))))
      (pss_one (ps_ret (pv 1)))), ?_⟩
    refine ⟨Nat.zero_le _, fun l nl => ?_⟩
    have nll : l0 ≠ l := ne_of_none hl nl
    have s0 : Same H (upd H l (.lst [])) := fun b o e => by rw [upd_ne (ne_of_none e nl)]; exact e
    refine ⟨_, rfl, l0, rfl, ⟨_, SqL.of (s0 _ _ hl)⟩, for_list (K := K) (a := l0) (xs := row cV m sd n) (fun i σ H' => ∃ (zs : List V) (v : Option V), σ = [some (.ref l0), some (.ref l), v] ∧ Same H H' ∧ H' l = some (.lst zs) ∧ zs.length = i ∧
        (∀ j z, zs[j]? = some z → ToldAt (fun u => H u = none ∧ u ≠ l ∧ ∃ o, H' u = some o) H' z ((m (sd, j)).map pl)))
      ⟨[], none, rfl, s0, upd_same, rfl, fun j z hz => by simp at hz⟩ (fun i σ H' _ ⟨_, _, _, sm, _⟩ => SqL.of (sm _ _ hl)) ?_ ?_⟩
    · rintro i x σ H' hi ⟨zs, v, rfl, sm, hz, hlen, ht⟩
      obtain ⟨hin, rfl⟩ := row_of hi
      have zlt : zs.length < sizeLine := Nat.lt_of_le_of_lt (by omega : zs.length ≤ 64) (by decide)
      refine ⟨_, rfl, rfl, _, rfl, ?_⟩
      rw [optV_non]
      cases hm : m (sd, i) with
      | none =>
        refine iteT ⟨_, rfl, .inl ⟨rfl, _, SqL.of hz⟩, l, _, _, rfl, rfl, hz, zlt, ?_⟩
        have s2 : Same H (upd H' l (.lst (zs ++ [V.non]))) := fun b o e => by rw [upd_ne (ne_of_none e nl)]; exact sm b o e
        refine ⟨zs ++ [V.non], _, rfl, s2, upd_same, by simp [hlen], fun j z hj => ?_⟩
        by_cases e : j < zs.length
        · rw [List.getElem?_append_left e] at hj
          refine (ht j z hj).keep (fun u hu => ⟨hu.1, hu.2.1, by rw [upd_ne hu.2.1]; exact hu.2.2⟩) (fun u o hu e => by rw [upd_ne hu.2.1]; exact e) fun u vs e => by rw [upd_ne (ne_of e hz (by intro z; cases z))]; exact e
        · have ej : j = zs.length := by
            have := (List.getElem?_eq_some_iff.mp hj).1
            simp at this
            omega
          subst ej
          rw [List.getElem?_append_right (Nat.le_refl _)] at hj
          simp at hj
          subst hj
          rw [hlen, hm]
          rfl
      | some c =>
        have hc' := (hc.same sm) i c hm
        refine iteF ⟨_, rfl, .inl ⟨rfl, _, SqL.of hz⟩, _, rfl, c.q, c.dx, _, rfl, hc'.q, lyF_no (by decide +kernel) (by decide +kernel) (by decide +kernel), sd, c.q, c.dx, c.b, c.d, _, c.xs, c.hs, rfl, hc'.q, hc'.b, hc'.d, hf i c hm, ?_⟩
        intro H2 t l1 l2 us s2 nt n1 n2 eu at2 ht2 h1 h2
        have hz2 := s2 _ _ hz
        refine ⟨l, _, _, rfl, rfl, hz2, zlt, ?_⟩
        have ne : ∀ u, H' u = none → u ≠ l := fun u hu e => by rw [e, hz] at hu; cases hu
        have s3 : Same H (upd H2 l (.lst (zs ++ [V.ref t]))) := fun b o e => by rw [upd_ne (ne_of_none e nl)]; exact s2 b o (sm b o e)
        have kt : ∀ u vs, H2 u = some (.tup vs) → upd H2 l (.lst (zs ++ [V.ref t])) u = some (.tup vs) := fun u vs e => by rw [upd_ne (ne_of e hz2 (by intro z; cases z))]; exact e
        refine ⟨zs ++ [V.ref t], _, rfl, s3, upd_same, by simp [hlen], fun j z hj => ?_⟩
        by_cases e : j < zs.length
        · rw [List.getElem?_append_left e] at hj
          refine (ht j z hj).keep (fun u hu => ⟨hu.1, hu.2.1, ?_⟩) (fun u o hu e => by rw [upd_ne hu.2.1]; exact s2 u o e) fun u vs e => kt u vs (s2 u _ e)
          obtain ⟨o, ho⟩ := hu.2.2
          exact ⟨o, by rw [upd_ne hu.2.1]; exact s2 u o ho⟩
        · have ej : j = zs.length := by
            have := (List.getElem?_eq_some_iff.mp hj).1
            simp at this
            omega
          subst ej
          rw [List.getElem?_append_right (Nat.le_refl _)] at hj
          simp at hj
          subst hj
          rw [hlen, hm]
          exact ⟨t, l1, l2, us, rfl, ⟨sm.free nt, ne t nt, _, kt _ _ ht2⟩, ⟨sm.free n1, ne l1 n1, _, by rw [upd_ne (ne l1 n1)]; exact h1⟩, ⟨sm.free n2, ne l2 n2, _, by rw [upd_ne (ne l2 n2)]; exact h2⟩, kt _ _ ht2, by rw [upd_ne (ne l1 n1)]; exact h1, by rw [upd_ne (ne l2 n2)]; exact h2, eu, fun t ht => kt _ _ (at2 t ht)⟩
    · rintro σ H' ⟨zs, v, rfl, sm, hz, hlen, ht⟩
      rw [row_length] at hlen
      exact ⟨_, rfl, k H' l zs sm nl hz hlen ht⟩
theorem ok_shin (T : Top K mg a) : FnOk P w K mg base CX0 2 a.fShin a.dShin ["spots"] (spShin a) := by
  refine T.FShin.ok scShin (fun vs H Q E h => ?_) (fun cdv A outer s H vs Q E hr h => ?_)
  · obtain ⟨l0, m, sd, n, rfl, _⟩ := h
    rfl
  · obtain ⟨l0, m, sd, n, rfl, hl, hc, k⟩ := h
    have GI : FnOk P w K mg base CX0 1 (fIs a sd) (dIs a sd) ["self"] (spIs a sd) := ok_is T sd
    refine ⟨_, pss_cons (ps_set (i := 1) scShin.nd rfl (.inl rfl) pe_int)
      (pss_cons (ps_for PassesOwn.never rfl (pi_list (pv 0)) (pg_name (i := 2) scShin.nd rfl (.inl rfl))
        (pss_one (ps_if (PW.pt (pw_and (pt_cmpR op_notN (pv 2) pe_non (nomark _)) (pw_and1 (pt_val (pe_meth0 (pv 2) (T.cls sd) (T.mIs sd) GI hr (T.bIs sd) .nil pass0)))))
          (pss_one (ps_aug (i := 1) scShin.nd rfl (.inl rfl) pe_int ip_add)) pss_nil)))
      (pss_one (ps_ret (pv 1)))), ?_⟩
    refine ⟨_, rfl, l0, rfl, ⟨_, SqL.of hl⟩, for_list (K := K) (a := l0) (xs := row cV m sd n) (fun i σ H' => H' = H ∧ ∃ v : Option V, σ = [some (.ref l0), some (.int (cnt (vw m) sd i : Nat)), v])
      ⟨rfl, _, rfl⟩ (fun i σ H' _ hh => by rw [hh.1]; exact SqL.of hl) ?_ ?_⟩
    · rintro i x σ H' hi ⟨rfl, v, rfl⟩
      obtain ⟨hin, rfl⟩ := row_of hi
      refine ⟨_, rfl, rfl, _, rfl, ?_⟩
      rw [optV_non]
      have st := cnt_succ (vw m) sd i
      cases hm : m (sd, i) with
      | none =>
        have e : vw m (sd, i) = none := by unfold vw; rw [hm]
        rw [e] at st
        refine iteF (iteF ⟨rfl, some V.non, ?_⟩)
        rw [st]
        rfl
      | some c =>
        have hc' := hc i c hm
        refine iteT ⟨_, rfl, c.q, c.dx, _, rfl, hc'.q, lyF_no (by decide +kernel) (by decide +kernel) (by decide +kernel), c.q, c.dx, c.b, c.d, _, rfl, hc'.q, _, rfl, ?_⟩
        rw [bdV_non]
        have e : (vw m (sd, i)).isSome = (!sd || c.bd.isNone) := by
          unfold vw isSh
          rw [hm]
          show (if (!sd || c.bd.isNone) = true then some (c.xs, c.hs) else none).isSome = _
          cases (!sd || c.bd.isNone) <;> rfl
        rw [e] at st
        cases hb : (!sd || c.bd.isNone) with
        | true =>
          rw [hb, if_pos rfl] at st
          refine iteT ⟨_, rfl, _, _, rfl, rfl, rfl, some (V.ref c.q), ?_⟩
          rw [st]
          rfl
        | false =>
          rw [hb, if_neg Bool.false_ne_true] at st
          refine iteF ⟨rfl, some (V.ref c.q), ?_⟩
          rw [st]
          rfl
    · rintro σ H' ⟨rfl, v, rfl⟩
      rw [row_length]
      exact ⟨_, rfl, k⟩
theorem ok_first (T : Top K mg a) : FnOk P w K mg base CX0 1 a.fFirst a.dFirst ["spots"] spFirst := by
  refine T.FFirst.ok scFirst (fun vs H Q E h => ?_) (fun cdv A outer s H vs Q E hr h => ?_)
  · obtain ⟨l0, m, sd, n, rfl, _⟩ := h
    rfl
  · obtain ⟨l0, m, sd, n, rfl, hl, k⟩ := h
    refine ⟨_, pss_cons (ps_for PassesOwn.never rfl (pi_enum (by rfl) T.zenumerate (pa_cons (pv 0) pa_nil)) (pg_tup rfl (pgs_cons (pg_name (i := 1) scFirst.nd rfl (.inl rfl)) (pgs_cons (pg_name (i := 2) scFirst.nd rfl (.inl rfl)) pgs_nil)))
        (pss_one (ps_if (pt_cmpR op_isN (pv 2) pe_non (nomark _)) (pss_one (ps_ret (pv 1))) pss_nil)))
      (pss_one (ps_ret pe_non)), ?_⟩
    refine ⟨_, rfl, l0, _, rfl, SqL.of hl, ?_⟩
    refine for_it walk_enum (fun i σ H' => Same H H' ∧ (∀ j, j < i → ∃ c, m (sd, j) = some c) ∧ ∃ v1 v2 : Option V, σ = [some (.ref l0), v1, v2]) ⟨Same.refl H, fun j hj => absurd hj (Nat.not_lt_zero _), _, _, rfl⟩ (fun i σ H' _ hh => SqL.of (hh.1 _ _ hl)) ?_ ?_
    · rintro i x σ H1 H2 hi ⟨sm, hj, v1, v2, rfl⟩ ⟨t, x1, x2, rfl, nt, rfl, e1, e2⟩
      injection e1 with e1
      subst e1
      obtain ⟨hin, rfl⟩ := row_of e2
      have s2 : Same H (upd H1 t (.tup [.int (i : Nat), optV cV (m (sd, i))])) := fun b o e => by
        have e' := sm b o e
        rw [upd_ne (ne_of_none e' nt)]
        exact e'
      refine ⟨t, _, rfl, SqT.of upd_same, rfl, _, _, rfl, _, _, rfl, rfl, ?_⟩
      refine ⟨_, rfl, rfl, _, rfl, ?_⟩
      rw [optV_non]
      cases hm : m (sd, i) with
      | none =>
        refine iteT ⟨_, rfl, ?_⟩
        have := k _ s2
        rw [fstE_is hin hm hj] at this
        rw [hm] at this
        exact this
      | some c =>
        rw [hm] at s2
        refine iteF ⟨s2, fun j hj2 => ?_, _, _, rfl⟩
        by_cases e : j < i
        · exact hj j e
        · have : j = i := by omega
          subst this
          exact ⟨c, hm⟩
    · rintro σ H' ⟨sm, hj, v1, v2, rfl⟩
      rw [row_length] at hj
      have := k _ sm
      rw [fstE_no hj] at this
      exact this
end
end Fl

set_option Elab.async false
set_option linter.all false
set_option maxRecDepth 100000
set_option maxHeartbeats 4000000
/-! The sheets' object: what a store does to it; lying_at, untwinned, cleared, hold, let_go, set_box, live_sheets, told_frames, told_slots. -/
namespace Fl
open PySem L2
abbrev Sh.wm (S : Sh) (m : Mp Cell) : Sh := { S with m := m }
section
variable {S S' : Sh} {H H' : Hp} {a : Ad} {m' : Mp Cell} {x : Spot} {c c' : Cell} {u : Addr}
theorem adr_eq {c c' : Cell} (h : c'.q = c.q ∧ c'.b = c.b ∧ c'.d = c.d) : adr c' = adr c := by unfold adr; rw [h.1, h.2.1, h.2.2]
/-- fewer or the same cells, at their addresses -/
def Sub (m' m : Mp Cell) : Prop := ∀ x c', m' x = some c' → ∃ c, m x = some c ∧ c'.q = c.q ∧ c'.b = c.b ∧ c'.d = c.d
theorem Sub.refl (m : Mp Cell) : Sub m m := fun x c h => ⟨c, h, rfl, rfl, rfl⟩
theorem Sub.trans {m m1 m2 : Mp Cell} (h : Sub m2 m1) (h' : Sub m1 m) : Sub m2 m := fun x c2 e => by
  obtain ⟨c1, e1, a1, a2, a3⟩ := h x c2 e
  obtain ⟨c0, e0, b1, b2, b3⟩ := h' x c1 e1
  exact ⟨c0, e0, a1.trans b1, a2.trans b2, a3.trans b3⟩
theorem Sub.none {m : Mp Cell} {x : Spot} : Sub (up m x none) m := fun y c h => by
  by_cases e : y = x
  · subst e; rw [up_same] at h; cases h
  · rw [up_ne e] at h; exact ⟨c, h, rfl, rfl, rfl⟩
theorem Sub.cell {m : Mp Cell} {x : Spot} {c c' : Cell} (hc : m x = some c) (h : c'.q = c.q ∧ c'.b = c.b ∧ c'.d = c.d) : Sub (up m x (some c')) m := fun y c2 e => by
  by_cases q : y = x
  · subst q; rw [up_same] at e; cases e; exact ⟨c, hc, h⟩
  · rw [up_ne q] at e; exact ⟨c2, e, rfl, rfl, rfl⟩
theorem Lay.sub (L : Lay S) (h : Sub m' S.m) : Lay (S.wm m') := by
  refine ⟨L.pf, L.ps, L.fs, fun x c' e => ?_, fun x y c1 c2 e1 e2 ne u hu => ?_, fun x c' e u hu => ?_, fun x c' e => ?_⟩
  · obtain ⟨c, hc, z⟩ := h x c' e
    have := L.cn x c hc
    rw [z.1, z.2.1, z.2.2]
    exact this
  · obtain ⟨d1, h1, z1⟩ := h x c1 e1
    obtain ⟨d2, h2, z2⟩ := h y c2 e2
    rw [adr_eq z1] at hu
    rw [adr_eq z2]
    exact L.dj x y d1 d2 h1 h2 ne u hu
  · obtain ⟨c, hc, z⟩ := h x c' e
    rw [adr_eq z] at hu
    exact L.bs x c hc u hu
  · obtain ⟨c, hc, z⟩ := h x c' e
    exact L.inb x c hc
theorem reg_sub (h : Sub m' S.m) {u : Addr} (r : Reg (S.wm m') u) : Reg S u := by
  rcases r with e | e | e | ⟨x, c', hc, hu⟩
  · exact .inl e
  · exact .inr (.inl e)
  · exact .inr (.inr (.inl e))
  · obtain ⟨c, h1, z⟩ := h x c' hc
    rw [adr_eq z] at hu
    exact Reg.cell h1 hu
/-- a new cell at x -/
theorem Lay.add (L : Lay S) (hx : S.m x = none) (hi : x.2 < sz S x.1) (hn : c.q ≠ c.b ∧ c.q ≠ c.d ∧ c.b ≠ c.d) (hb : ∀ u, u ∈ adr c → u ≠ S.p ∧ u ≠ S.lf ∧ u ≠ S.ls) (hd : ∀ y c', S.m y = some c' → ∀ u, u ∈ adr c → u ∉ adr c') : Lay (S.wm (up S.m x (some c))) := by
  refine ⟨L.pf, L.ps, L.fs, fun y c1 e => ?_, fun y z c1 c2 e1 e2 ne u hu => ?_, fun y c1 e u hu => ?_, fun y c1 e => ?_⟩
  · have e : up S.m x (some c) y = some c1 := e
    by_cases q : y = x
    · subst q; rw [up_same] at e; cases e; exact hn
    · rw [up_ne q] at e; exact L.cn y c1 e
  · have e1 : up S.m x (some c) y = some c1 := e1
    have e2 : up S.m x (some c) z = some c2 := e2
    by_cases q1 : y = x
    · subst q1
      rw [up_same] at e1
      cases e1
      rw [up_ne (Ne.symm ne)] at e2
      exact hd z c2 e2 u hu
    · have f1 : S.m y = some c1 := (up_ne q1).symm.trans e1
      by_cases q2 : z = x
      · subst q2
        rw [up_same] at e2
        cases e2
        exact fun hu2 => hd y c1 f1 u hu2 hu
      · rw [up_ne q2] at e2
        exact L.dj y z c1 c2 f1 e2 ne u hu
  · have e : up S.m x (some c) y = some c1 := e
    show u ≠ S.p ∧ u ≠ S.lf ∧ u ≠ S.ls
    by_cases q : y = x
    · subst q; rw [up_same] at e; cases e; exact hb u hu
    · rw [up_ne q] at e; exact L.bs y c1 e u hu
  · have e : up S.m x (some c) y = some c1 := e
    show y.2 < sz S y.1
    by_cases q : y = x
    · subst q; exact hi
    · rw [up_ne q] at e; exact L.inb y c1 e
theorem Lay.lp (L : Lay S) (s : Bool) : S.p ≠ lst S s := by cases s; exact L.pf; exact L.ps
theorem Lay.lo (L : Lay S) {y : Spot} {c : Cell} (h : S.m y = some c) (s : Bool) : lst S s ∉ adr c := fun hu => by
  have := L.bs y c h _ hu
  cases s
  · exact this.2.1 rfl
  · exact this.2.2 rfl
theorem Lay.po (L : Lay S) {y : Spot} {c : Cell} (h : S.m y = some c) : S.p ∉ adr c := fun hu => (L.bs y c h _ hu).1 rfl
/-- no cell shares an address with the object and its lists -/
structure Off (S : Sh) : Prop where
  pf : S.p ≠ S.lf
  ps : S.p ≠ S.ls
  fs : S.lf ≠ S.ls
  bs : ∀ x c, S.m x = some c → ∀ u, u ∈ adr c → u ≠ S.p ∧ u ≠ S.lf ∧ u ≠ S.ls
theorem Lay.off (L : Lay S) : Off S := ⟨L.pf, L.ps, L.fs, L.bs⟩
theorem Off.lo (L : Off S) {y : Spot} {c : Cell} (h : S.m y = some c) (s : Bool) : lst S s ∉ adr c := fun hu => by
  have := L.bs y c h _ hu
  cases s
  · exact this.2.1 rfl
  · exact this.2.2 rfl
/-- a row's spot is stored into -/
theorem ShAt.put' (A : ShAt a H S) (L : Off S) {s : Bool} {i : Nat} (v : Option Cell) (hv : ∀ c, v = some c → CellAt (clsOf a s) H c ∧ lst S s ∉ adr c) :
    ShAt a (upd H (lst S s) (.lst (row cV (up S.m (s, i) v) s (sz S s)))) (S.wm (up S.m (s, i) v)) := by
  have cells : ∀ y c, up S.m (s, i) v y = some c → CellAt (clsOf a y.1) (upd H (lst S s) (.lst (row cV (up S.m (s, i) v) s (sz S s)))) c := fun y c e => by
    by_cases q : y = (s, i)
    · subst q
      rw [up_same] at e
      obtain ⟨h1, h2⟩ := hv c e
      exact h1.upd h2
    · rw [up_ne q] at e
      exact (A.cs y c e).upd (L.lo e s)
  cases s with
  | false =>
    refine ⟨?_, upd_same, ?_, cells⟩
    · exact (upd_ne L.pf).trans A.p
    · show upd H S.lf _ S.ls = some (.lst (row cV (up S.m (false, i) v) true S.G))
      rw [upd_ne (Ne.symm L.fs), row_other (by decide)]; exact A.ls
  | true =>
    refine ⟨?_, ?_, upd_same, cells⟩
    · exact (upd_ne L.ps).trans A.p
    · show upd H S.ls _ S.lf = some (.lst (row cV (up S.m (true, i) v) false S.F))
      rw [upd_ne L.fs, row_other (by decide)]; exact A.lf
theorem ShAt.put (A : ShAt a H S) (L : Lay S) {s : Bool} {i : Nat} (v : Option Cell) (hv : ∀ c, v = some c → CellAt (clsOf a s) H c ∧ lst S s ∉ adr c) :
    ShAt a (upd H (lst S s) (.lst (row cV (up S.m (s, i) v) s (sz S s)))) (S.wm (up S.m (s, i) v)) := A.put' L.off v hv
/-- an object of a cell is stored into -/
theorem ShAt.cell (A : ShAt a H S) (L : Lay S) {o : HO} (hc : S.m x = some c) (hu : u ∈ adr c) (hq : c'.q = c.q) (h' : CellAt (clsOf a x.1) (upd H u o) c') : ShAt a (upd H u o) (S.wm (up S.m x (some c'))) := by
  have b := L.bs x c hc u hu
  have rw' : ∀ s n, row cV (up S.m x (some c')) s n = row cV S.m s n := fun s n => row_ext fun i _ => by
    by_cases q : (s, i) = x
    · rw [q, up_same, hc]
      show V.ref c'.q = V.ref c.q
      rw [hq]
    · rw [up_ne q]
  refine ⟨?_, ?_, ?_, fun y c1 e => ?_⟩
  · rw [upd_ne (Ne.symm b.1)]; exact A.p
  · rw [upd_ne (Ne.symm b.2.1)]
    show H S.lf = some (.lst (row cV (up S.m x (some c')) false S.F))
    rw [rw']; exact A.lf
  · rw [upd_ne (Ne.symm b.2.2)]
    show H S.ls = some (.lst (row cV (up S.m x (some c')) true S.G))
    rw [rw']; exact A.ls
  · by_cases q : y = x
    · subst q
      have e' : up S.m y (some c') y = some c1 := e
      rw [up_same] at e'
      cases e'
      exact h'
    · have e' : S.m y = some c1 := (up_ne q).symm.trans e
      exact (A.cs y c1 e').upd fun z => L.dj x y c c1 hc e' (Ne.symm q) u hu z
/-- the object's own fields -/
theorem ShAt.obj (A : ShAt a H S) (L : Lay S) (st : Nat) (n1 n2 n3 : Int) : ShAt a (upd H S.p (.ins a.CS S.dx (shF S.lf S.ls (st : Int) n1 n2 n3))) { S with st := st, n1 := n1, n2 := n2, n3 := n3 } :=
  ⟨upd_same, by rw [upd_ne (Ne.symm L.pf)]; exact A.lf, by rw [upd_ne (Ne.symm L.ps)]; exact A.ls, fun y c e => (A.cs y c e).upd (L.po e)⟩
theorem Lay.obj (L : Lay S) (st : Nat) (n1 n2 n3 : Int) : Lay { S with st := st, n1 := n1, n2 := n2, n3 := n3 } := ⟨L.pf, L.ps, L.fs, L.cn, L.dj, L.bs, L.inb⟩
end
/-! ### untwinned, cleared -/
def untwM (m : Mp Cell) (i : Nat) : Mp Cell := match m (false, i) with
  | none => m
  | some c => match c.bd with
    | none => m
    | some j => up (up m (true, j) none) (false, i) (some { c with bd := none })
def clrM (m : Mp Cell) (x : Spot) : Mp Cell := up (if x.1 = true then m else untwM m x.2) x none
section
variable {m : Mp Cell} {i j : Nat} {c : Cell} {x : Spot}
theorem untw_none (h : m (false, i) = some c) (e : c.bd = none) : untwM m i = m := by unfold untwM; rw [h]; simp only [e]
theorem untw_some (h : m (false, i) = some c) (e : c.bd = some j) : untwM m i = up (up m (true, j) none) (false, i) (some { c with bd := none }) := by unfold untwM; rw [h]; simp only [e]
theorem untw_sub (h : m (false, i) = some c) : Sub (untwM m i) m := by
  cases e : c.bd with
  | none => rw [untw_none h e]; exact Sub.refl m
  | some j =>
    rw [untw_some h e]
    exact Sub.trans (Sub.cell (c := c) (by rw [up_side (by decide)]; exact h) ⟨rfl, rfl, rfl⟩) Sub.none
theorem clr_sub (h : m x = some c) : Sub (clrM m x) m := by
  unfold clrM
  refine Sub.trans Sub.none ?_
  obtain ⟨s, i⟩ := x
  cases s with
  | true => exact Sub.refl m
  | false => exact untw_sub h
end
/-- what lying_at answers -/
def lyV (m : Mp Cell) (x : Spot) : V := match m x with
  | none => .non
  | some c => if isSh x c = true then .ref c.q else .non
theorem lyV_none {m : Mp Cell} {x : Spot} (h : m x = none) : lyV m x = .non := by unfold lyV; rw [h]
theorem lyV_sh {m : Mp Cell} {x : Spot} {c : Cell} (h : m x = some c) (e : isSh x c = true) : lyV m x = .ref c.q := by unfold lyV; rw [h]; exact if_pos e
theorem lyV_tw {m : Mp Cell} {x : Spot} {c : Cell} (h : m x = some c) (e : isSh x c = false) : lyV m x = .non := by unfold lyV; rw [h]; exact if_neg (by rw [e]; exact Bool.false_ne_true)
def spLyingAt (a : Ad) : Sp := fun vs H Q _ => ∃ (S : Sh) (t : Addr) (x : Spot), vs = [.ref S.p, .ref t] ∧ ShAt a H S ∧ H t = some (.tup (spV x)) ∧ x.2 < sz S x.1 ∧ Q (lyV S.m x) H
def spUntw (a : Ad) : Sp := fun vs H Q _ => ∃ (S : Sh) (i : Nat) (c : Cell), vs = [.ref S.p, .int (i : Int)] ∧ ShAt a H S ∧ Lay S ∧ S.m (false, i) = some c ∧ (∀ j, c.bd = some j → j < S.G) ∧
  ∀ H' : Hp, ShAt a H' (S.wm (untwM S.m i)) → (∀ u o, H u = some o → u ≠ S.ls → u ≠ c.q → H' u = some o) → Q .non H'
def spCleared (a : Ad) : Sp := fun vs H Q _ => ∃ (S : Sh) (t : Addr) (x : Spot) (c : Cell), vs = [.ref S.p, .ref t] ∧ ShAt a H S ∧ Lay S ∧ H t = some (.tup (spV x)) ∧ S.m x = some c ∧ (x.1 = false → ∀ j, c.bd = some j → j < S.G) ∧
  ∀ H' : Hp, ShAt a H' (S.wm (clrM S.m x)) → (∀ u o, H u = some o → u ≠ S.lf → u ≠ S.ls → u ≠ c.q → H' u = some o) → Q .non H'
section
variable {P : Program} {w : World} {K : PySem.W.Frag} {mg : Str → Option Value} {base : Heap} {a : Ad}
theorem sz_l {S : Sh} (s : Bool) : (if s = true then S.ls else S.lf) = lst S s := rfl
theorem ok_lyingAt (T : Top K mg a) : FnOk P w K mg base CX0 2 a.fLyingAt a.dLyingAt ["self", "spot"] (spLyingAt a) := by
  refine T.FLyingAt.ok scLyingAt (fun vs H Q E h => ?_) (fun cdv A outer s H vs Q E hr h => ?_)
  · obtain ⟨S, t, x, rfl, _⟩ := h
    rfl
  · obtain ⟨S, t, ⟨sd, i⟩, rfl, hS, ht, hi, k⟩ := h
    have GI : FnOk P w K mg base CX0 1 (fIs a sd) (dIs a sd) ["self"] (spIs a sd) := ok_is T sd
    refine ⟨_, pss_cons (ps_set (i := 2) scLyingAt.nd rfl (.inl rfl) (pe_fld (pv 0) rfl))
      (pss_cons (ps_if (pt_cmpR op_eq (pe_ix ix_tup (pv 1) pe_int (fun _ _ => rfl)) pe_str (nomark _)) (pss_one (ps_set (i := 2) scLyingAt.nd rfl (.inl rfl) (pe_fld (pv 0) rfl))) pss_nil)
      (pss_cons (ps_set (i := 3) scLyingAt.nd rfl (.inl rfl) (pe_ix ix_list (pv 2) (pe_ix ix_tup (pv 1) pe_int (fun _ _ => rfl)) (fun _ _ => rfl)))
      (pss_cons (ps_if (PW.pt (pw_or (pt_cmpR op_isN (pv 3) pe_non (nomark _)) (pw_or1 (pt_not (pt_val (pe_meth0 (pv 3) (T.cls sd) (T.mIs sd) GI hr (T.bIs sd) .nil pass0)))))) (pss_one (ps_ret pe_non)) pss_nil)
      (pss_one (ps_ret (pv 3)))))), ?_⟩
    refine ⟨_, rfl, S.p, _, S.dx, _, _, rfl, hS.p, T.clS, T.nS_in_frames, shF_frames, ?_⟩
    refine ⟨_, rfl, t, _, _, _, rfl, rfl, SqT.of ht, atI_nat (j := 0) rfl, rfl, _, rfl, ?_⟩
    rw [sn_slot]
    cases sd with
    | true =>
      refine iteT ?_
      refine ⟨_, rfl, S.p, _, S.dx, _, _, rfl, hS.p, T.clS, T.nS_in_slots, shF_slots, ?_⟩
      refine ⟨_, rfl, _, rfl, t, _, _, _, rfl, rfl, SqT.of ht, atI_nat (j := 1) rfl, S.ls, _, _, _, rfl, rfl, SqL.of hS.ls, atI_nat (row_get hi), ?_⟩
      refine ⟨_, rfl, rfl, _, rfl, ?_⟩
      rw [optV_non]
      cases hm : S.m (true, i) with
      | none =>
        rw [lyV_none hm] at k
        exact iteT (iteT k)
      | some c =>
        have hc := hS.cs _ c hm
        refine iteF ⟨_, rfl, c.q, c.dx, _, rfl, hc.q, lyF_no (by decide +kernel) (by decide +kernel) (by decide +kernel), c.q, c.dx, c.b, c.d, _, rfl, hc.q, _, rfl, ?_⟩
        rw [bdV_non]
        cases hb : c.bd.isNone with
        | true =>
          rw [lyV_sh hm (by show (!true || c.bd.isNone) = true; rw [hb]; rfl)] at k
          exact iteF ⟨_, rfl, k⟩
        | false =>
          rw [lyV_tw hm (by show (!true || c.bd.isNone) = false; rw [hb]; rfl)] at k
          exact iteT k
    | false =>
      refine iteF ?_
      refine ⟨_, rfl, _, rfl, t, _, _, _, rfl, rfl, SqT.of ht, atI_nat (j := 1) rfl, S.lf, _, _, _, rfl, rfl, SqL.of hS.lf, atI_nat (row_get hi), ?_⟩
      refine ⟨_, rfl, rfl, _, rfl, ?_⟩
      rw [optV_non]
      cases hm : S.m (false, i) with
      | none =>
        rw [lyV_none hm] at k
        exact iteT (iteT k)
      | some c =>
        have hc := hS.cs _ c hm
        exact iteF ⟨_, rfl, c.q, c.dx, _, rfl, hc.q, lyF_no (by decide +kernel) (by decide +kernel) (by decide +kernel), c.q, c.dx, c.b, c.d, _, rfl, hc.q, _, rfl, iteF ⟨_, rfl, by rw [lyV_sh hm rfl] at k; exact k⟩⟩
theorem ixN_nat {n j : Nat} (h : j < n) : ixN n (j : Int) = some j := by
  unfold ixN
  simp [h]
theorem ok_untw (T : Top K mg a) : FnOk P w K mg base CX0 1 a.fUntw a.dUntw ["self", "frame"] (spUntw a) := by
  refine T.FUntw.ok scUntw (fun vs H Q E h => ?_) (fun cdv A outer s H vs Q E hr h => ?_)
  · obtain ⟨S, i, c, rfl, _⟩ := h
    rfl
  · obtain ⟨S, i, c, rfl, hS, hL, hm, hj, k⟩ := h
    have hc := hS.cs _ c hm
    have hi : i < S.F := hL.inb _ _ hm
    refine ⟨_, pss_cons (ps_set (i := 2) scUntw.nd rfl (.inl rfl) (pe_ix ix_list (pe_fld (pv 0) rfl) (pv 1) (fun _ _ => rfl)))
      (pss_one (ps_if (pt_cmpR op_notN (pe_fld (pv 2) rfl) pe_non (nomark _))
        (pss_cons (ps_asg pe_non (pg_sub (pe_fld (pv 0) rfl) (pe_fld (pv 2) rfl) set_list))
        (pss_one (ps_fld (pv 2) pe_non rfl))) pss_nil)), ?_⟩
    refine ⟨_, rfl, S.p, _, S.dx, _, _, rfl, hS.p, T.clS, T.nS_in_frames, shF_frames, _, rfl, S.lf, _, _, _, rfl, rfl, SqL.of hS.lf, atI_nat (row_get hi), ?_⟩
    rw [hm]
    refine ⟨_, rfl, c.q, _, c.dx, _, _, rfl, hc.q, T.clL, T.nL_bound, lyF_bound, rfl, _, rfl, ?_⟩
    rw [bdV_non]
    cases hb : c.bd with
    | none =>
      refine iteF (k H ?_ fun u o e _ _ => e)
      rw [untw_none hm hb]
      exact hS
    | some j =>
      have hjG := hj j hb
      refine iteT ?_
      refine ⟨_, rfl, S.p, _, S.dx, _, _, rfl, hS.p, T.clS, T.nS_in_slots, shF_slots, _, rfl, c.q, _, c.dx, _, _, rfl, hc.q, T.clL, T.nL_bound, lyF_bound, ?_⟩
      rw [hb]
      refine ⟨S.ls, _, _, j, rfl, rfl, hS.ls, (by rw [row_length]; exact ixN_nat hjG), ?_⟩
      have nq : c.q ≠ S.ls := (hL.bs _ _ hm _ (mem_adr.mpr (.inl rfl))).2.2
      refine ⟨_, rfl, c.q, _, c.dx, _, rfl, by rw [upd_ne nq]; exact hc.q, T.clL, T.nL_bound, (by show 3 < 1000; decide), ?_⟩
      refine k _ ?_ fun u o e h1 h2 => by rw [upd_ne h2, upd_ne h1]; exact e
      rw [lyF_put, untw_some hm hb]
      have e0 : (row cV S.m true S.G).set j V.non = row cV (up S.m (true, j) none) true S.G := row_set (v := none) hjG
      rw [e0]
      have A1 : ShAt a (upd H S.ls (.lst (row cV (up S.m (true, j) none) true S.G))) (S.wm (up S.m (true, j) none)) := hS.put hL (s := true) none (fun c h => nomatch h)
      have L1 : Lay (S.wm (up S.m (true, j) none)) := hL.sub Sub.none
      have hm1 : (S.wm (up S.m (true, j) none)).m (false, i) = some c := by
        show up S.m (true, j) none (false, i) = some c
        rw [up_side (by decide)]; exact hm
      refine A1.cell L1 hm1 (mem_adr.mpr (.inl rfl)) rfl ⟨upd_same, ?_, ?_⟩
      · have n1 : c.b ≠ c.q := Ne.symm (hL.cn _ _ hm).1
        have z := (A1.cs _ _ hm1).b
        rw [upd_ne n1]; exact z
      · have n1 : c.d ≠ c.q := Ne.symm (hL.cn _ _ hm).2.1
        have z := (A1.cs _ _ hm1).d
        rw [upd_ne n1]; exact z
end
end Fl

set_option Elab.async false
set_option linter.all false
set_option maxRecDepth 100000
set_option maxHeartbeats 4000000
/-! cleared, hold, let_go, set_box, live_sheets, told_frames, told_slots. -/
namespace Fl
open PySem L2
/-! ### dicts of holders -/
abbrev hdE (h : Hd) : List L2.Key × V := (h.key, V.bl true)
theorem hd_any {hs : List Hd} {h : Hd} : ((hs.map hdE).any fun kv => decide (kv.1 = h.key)) = decide (h ∈ hs) := by
  induction hs with
  | nil => simp
  | cons a r ih =>
    rw [List.map_cons, List.any_cons, ih]
    by_cases e : a = h
    · subst e; simp
    · have n : ¬ a.key = h.key := fun z => e (key_inj z)
      have n2 : ¬ h = a := fun z => e z.symm
      simp [n, n2]
theorem hd_put {hs : List Hd} {h : Hd} (n : h ∉ hs) : putK (hs.map hdE) h.key (V.bl true) = (hs ++ [h]).map hdE := by
  unfold putK
  rw [hd_any, if_neg (by simpa using n), List.map_append]
  rfl
theorem hd_drop (hs : List Hd) (h : Hd) : dropK (hs.map hdE) h.key = (hs.filter fun g => decide (g ≠ h)).map hdE := by
  induction hs with
  | nil => rfl
  | cons a r ih =>
    by_cases e : a = h
    · subst e
      have e1 : dropK ((a :: r).map hdE) a.key = dropK (r.map hdE) a.key := List.filter_cons_of_neg (by simp)
      rw [e1, ih, List.filter_cons_of_neg (by simp)]
    · have n : ¬ a.key = h.key := fun z => e (key_inj z)
      have e1 : dropK ((a :: r).map hdE) h.key = hdE a :: dropK (r.map hdE) h.key := List.filter_cons_of_pos (by simpa using n)
      rw [e1, ih, List.filter_cons_of_pos (by simpa using e)]
      rfl
theorem hd_val {hs : List Hd} {h : Hd} (m : h ∈ hs) : valV (hs.map hdE) h.key = some (V.bl true) := by
  induction hs with
  | nil => simp at m
  | cons a r ih =>
    by_cases e : a = h
    · subst e; exact valV_pos rfl
    · have n : ¬ a.key = h.key := fun z => e (key_inj z)
      rw [List.map_cons, valV_neg n]
      exact ih ((List.mem_cons.mp m).resolve_left fun z => e z.symm)
abbrev addH (m : Mp Cell) (x : Spot) (c : Cell) (h : Hd) : Mp Cell := up m x (some { c with hs := c.hs ++ [h] })
abbrev remH (m : Mp Cell) (x : Spot) (c : Cell) (h : Hd) : Mp Cell := up m x (some { c with hs := c.hs.filter fun g => decide (g ≠ h) })
/-- one holder fewer -/
def letM (m : Mp Cell) (x : Spot) (c : Cell) (h : Hd) : Mp Cell := if (c.hs.filter fun g => decide (g ≠ h)).isEmpty = true then clrM (remH m x c h) x else remH m x c h
abbrev boxM (m : Mp Cell) (i : Nat) (c : Cell) (b : Nat) (v : Int) : Mp Cell := up m (false, i) (some { c with xs := c.xs.set b v })
def spHold (a : Ad) : Sp := fun vs H Q _ => ∃ (S : Sh) (t g : Addr) (x : Spot) (c : Cell) (h : Hd), vs = [.ref S.p, .ref t, .ref g] ∧ ShAt a H S ∧ Lay S ∧ H t = some (.tup (spV x)) ∧ AtHd H (g, h) ∧ S.m x = some c ∧ isSh x c = true ∧ h ∉ c.hs ∧ c.hs.length < 64 ∧
  ∀ H' : Hp, ShAt a H' (S.wm (addH S.m x c h)) → (∀ u o, H u = some o → u ≠ c.d → H' u = some o) → Q .non H'
def spLetgo (a : Ad) : Sp := fun vs H Q _ => ∃ (S : Sh) (t g : Addr) (x : Spot) (c : Cell) (h : Hd), vs = [.ref S.p, .ref t, .ref g] ∧ ShAt a H S ∧ Lay S ∧ H t = some (.tup (spV x)) ∧ AtHd H (g, h) ∧ S.m x = some c ∧ isSh x c = true ∧ h ∈ c.hs ∧ (x.1 = false → ∀ j, c.bd = some j → j < S.G) ∧
  ∀ H' : Hp, ShAt a H' (S.wm (letM S.m x c h)) → (∀ u o, H u = some o → u ≠ S.lf → u ≠ S.ls → u ∉ adr c → H' u = some o) → Q .non H'
def spSetbox (a : Ad) : Sp := fun vs H Q _ => ∃ (S : Sh) (i b : Nat) (v : Int) (c : Cell), vs = [.ref S.p, .int (i : Int), .int (b : Int), .int v] ∧ ShAt a H S ∧ Lay S ∧ S.m (false, i) = some c ∧ b < c.xs.length ∧ (∀ j, c.bd = some j → j < S.G) ∧
  ∀ H' : Hp, ShAt a H' (S.wm (untwM (boxM S.m i c b v) i)) → (∀ u o, H u = some o → u ≠ S.ls → u ∉ adr c → H' u = some o) → Q .non H'
def spLive (a : Ad) : Sp := fun vs H Q _ => ∃ (S : Sh), vs = [.ref S.p] ∧ ShAt a H S ∧ Q (.int ((cnt (vw S.m) false S.F + cnt (vw S.m) true S.G : Nat) : Int)) H
def spToldR (a : Ad) (s : Bool) : Sp := fun vs H Q _ => ∃ (S : Sh), vs = [.ref S.p] ∧ ShAt a H S ∧ sz S s ≤ 64 ∧ (∀ i c, S.m (s, i) = some c → Few c.hs) ∧
  ∀ (H' : Hp) (l : Addr) (zs : List V), Same H H' → H l = none → H' l = some (.lst zs) → zs.length = sz S s → (∀ i z, zs[i]? = some z → ToldAt (fun u => H u = none ∧ u ≠ l ∧ ∃ o, H' u = some o) H' z ((S.m (s, i)).map pl)) → Q (.ref l) H'
section
variable {P : Program} {w : World} {K : PySem.W.Frag} {mg : Str → Option Value} {base : Heap} {a : Ad}
theorem ShAt.notup {H : Hp} {S : Sh} (A : ShAt a H S) {u : Addr} {vs : List V} (h : H u = some (.tup vs)) : ¬ Reg S u := by
  rintro (rfl | rfl | rfl | ⟨x, c, hc, hu⟩)
  · rw [A.p] at h; cases h
  · rw [A.lf] at h; cases h
  · rw [A.ls] at h; cases h
  · have z := A.cs x c hc
    rcases mem_adr.mp hu with rfl | rfl | rfl
    · rw [z.q] at h; cases h
    · rw [z.b] at h; cases h
    · rw [z.d] at h; cases h
theorem ok_cleared (T : Top K mg a) : FnOk P w K mg base CX0 2 a.fCleared a.dCleared ["self", "spot"] (spCleared a) := by
  have GU : FnOk P w K mg base CX0 1 a.fUntw a.dUntw ["self", "frame"] (spUntw a) := ok_untw T
  refine T.FCleared.ok scCleared (fun vs H Q E h => ?_) (fun cdv A outer s H vs Q E hr h => ?_)
  · obtain ⟨S, t, x, c, rfl, _⟩ := h
    rfl
  · obtain ⟨S, t, ⟨sd, i⟩, c, rfl, hS, hL, ht, hm, hj, k⟩ := h
    have hi := hL.inb _ _ hm
    refine ⟨_, pss_one (ps_if (pt_cmpR op_eq (pe_ix ix_tup (pv 1) pe_int (fun _ _ => rfl)) pe_str (nomark _))
        (pss_one (ps_asg pe_non (pg_sub (pe_fld (pv 0) rfl) (pe_ix ix_tup (pv 1) pe_int (fun _ _ => rfl)) set_list)))
        (pss_cons (ps_expr (pe_meth (pv 0) T.clS T.mUntw GU hr T.bUntw .nil pass0 (pa_cons (pe_ix ix_tup (pv 1) pe_int (fun _ _ => rfl)) pa_nil)))
        (pss_one (ps_asg pe_non (pg_sub (pe_fld (pv 0) rfl) (pe_ix ix_tup (pv 1) pe_int (fun _ _ => rfl)) set_list))))), ?_⟩
    refine ⟨_, rfl, t, _, _, _, rfl, rfl, SqT.of ht, atI_nat (j := 0) rfl, rfl, _, rfl, ?_⟩
    rw [sn_slot]
    cases sd with
    | true =>
      refine iteT ?_
      refine ⟨_, rfl, S.p, _, S.dx, _, _, rfl, hS.p, T.clS, T.nS_in_slots, shF_slots, _, rfl, t, _, _, _, rfl, rfl, SqT.of ht, atI_nat (j := 1) rfl, S.ls, _, _, i, rfl, rfl, hS.ls, (by rw [row_length]; exact ixN_nat hi), ?_⟩
      have e0 : (row cV S.m true S.G).set i V.non = row cV (up S.m (true, i) none) true S.G := row_set (v := none) hi
      rw [e0]
      exact k _ (hS.put hL (s := true) none (fun c h => nomatch h)) fun u o e _ h2 _ => by rw [upd_ne h2]; exact e
    | false =>
      refine iteF ?_
      refine ⟨_, rfl, S.p, S.dx, _, rfl, hS.p, shF_no (by decide +kernel), _, rfl, t, _, _, _, rfl, rfl, SqT.of ht, atI_nat (j := 1) rfl, S, i, c, rfl, hS, hL, hm, hj rfl, fun H1 A1 k1 => ?_⟩
      have ht1 : H1 t = some (.tup (spV (false, i))) := k1 t _ ht (ne_of ht hS.ls (by intro z; cases z)) (ne_of ht (hS.cs _ _ hm).q (by intro z; cases z))
      refine ⟨_, rfl, S.p, _, S.dx, _, _, rfl, A1.p, T.clS, T.nS_in_frames, shF_frames, _, rfl, t, _, _, _, rfl, rfl, SqT.of ht1, atI_nat (j := 1) rfl, S.lf, _, _, i, rfl, rfl, A1.lf, (by rw [row_length]; exact ixN_nat hi), ?_⟩
      have e0 : (row cV (untwM S.m i) false S.F).set i V.non = row cV (up (untwM S.m i) (false, i) none) false S.F := row_set (v := none) hi
      have e1 : (row cV (S.wm (untwM S.m i)).m false (S.wm (untwM S.m i)).F).set i V.non = row cV (up (untwM S.m i) (false, i) none) false S.F := e0
      rw [e1]
      exact k _ (A1.put (hL.sub (untw_sub hm)) (s := false) none (fun c h => nomatch h)) fun u o e h1 h2 h3 => by rw [upd_ne h1]; exact k1 u o e h2 h3
theorem lyV_ref {m : Mp Cell} {x : Spot} {c : Cell} (h : m x = some c) (e : isSh x c = true) : lyV m x = .ref c.q := lyV_sh h e
theorem ok_hold (T : Top K mg a) : FnOk P w K mg base CX0 3 a.fHold a.dHold ["self", "spot", "holder"] (spHold a) := by
  have GL : FnOk P w K mg base CX0 2 a.fLyingAt a.dLyingAt ["self", "spot"] (spLyingAt a) := ok_lyingAt T
  refine T.FHold.ok scHold (fun vs H Q E h => ?_) (fun cdv A outer s H vs Q E hr h => ?_)
  · obtain ⟨S, t, g, x, c, h, rfl, _⟩ := h
    rfl
  · obtain ⟨S, t, g, x, c, h, rfl, hS, hL, ht, hg, hm, hsh, hn, hlen, k⟩ := h
    have hi := hL.inb _ _ hm
    have hc := hS.cs _ _ hm
    refine ⟨_, pss_one (ps_dput (hu_of hr) (pe_fld (pe_meth (pv 0) T.clS T.mLyingAt GL hr T.bLyingAt .nil pass0 (pa_cons (pv 1) pa_nil)) rfl) (pv 2) pe_bl rfl), ?_⟩
    refine ⟨_, rfl, S.p, S.dx, _, rfl, hS.p, shF_no (by decide +kernel), _, rfl, S, t, x, rfl, hS, ht, hi, ?_⟩
    rw [lyV_sh hm hsh]
    refine ⟨c.q, _, c.dx, _, _, rfl, hc.q, T.cls x.1, T.nHeld x.1, lyF_held, _, rfl, c.d, _, rfl, DPut.t (k := h.key) hc.d hg (by show (c.hs.map hdE).length < sizeLine; rw [List.length_map]; exact Nat.lt_trans hlen (by decide)), ?_⟩
    have e : HO.dT (putK (c.hs.map hdE) h.key (V.bl true)) = hdT (c.hs ++ [h]) := by rw [hd_put hn]; rfl
    have e' : upd H c.d (.dT (putK (c.hs.map fun h => (h.key, V.bl true)) h.key (V.bl true))) = upd H c.d (hdT (c.hs ++ [h])) := congrArg _ e
    rw [e']
    have nq : c.q ≠ c.d := (hL.cn _ _ hm).2.1
    have nb : c.b ≠ c.d := (hL.cn _ _ hm).2.2
    exact k _ (hS.cell hL hm (mem_adr.mpr (.inr (.inr rfl))) rfl ⟨by rw [upd_ne nq]; exact hc.q, by rw [upd_ne nb]; exact hc.b, upd_same⟩) fun u o e hu => by rw [upd_ne hu]; exact e
theorem ok_letgo (T : Top K mg a) : FnOk P w K mg base CX0 3 a.fLetgo a.dLetgo ["self", "spot", "holder"] (spLetgo a) := by
  have GL : FnOk P w K mg base CX0 2 a.fLyingAt a.dLyingAt ["self", "spot"] (spLyingAt a) := ok_lyingAt T
  have GC : FnOk P w K mg base CX0 2 a.fCleared a.dCleared ["self", "spot"] (spCleared a) := ok_cleared T
  refine T.FLetgo.ok scLetgo (fun vs H Q E h => ?_) (fun cdv A outer s H vs Q E hr h => ?_)
  · obtain ⟨S, t, g, x, c, h, rfl, _⟩ := h
    rfl
  · obtain ⟨S, t, g, x, c, h, rfl, hS, hL, ht, hg, hm, hsh, hn, hj, k⟩ := h
    have hi := hL.inb _ _ hm
    have hc := hS.cs _ _ hm
    refine ⟨_, pss_cons (ps_set (i := 3) scLetgo.nd rfl (.inl rfl) (pe_meth (pv 0) T.clS T.mLyingAt GL hr T.bLyingAt .nil pass0 (pa_cons (pv 1) pa_nil)))
      (pss_cons (ps_expr (pe_bm PySem.F.plainAttrs_dict PySem.F.slot_dict_pop PySem.F.type_dict_pop (mt_pop1T (hu_of hr)) (pe_fld (pv 3) rfl) (pa_cons (pv 2) pa_nil)))
      (pss_one (ps_if (pt_cmpR op_eq (pe_callB call_len_dT (by rfl) T.zlen PySem.boot_len (pa_cons (pe_fld (pv 3) rfl) pa_nil)) pe_int (nomark _))
        (pss_one (ps_expr (pe_meth (pv 0) T.clS T.mCleared GC hr T.bCleared .nil pass0 (pa_cons (pv 1) pa_nil)))) pss_nil))), ?_⟩
    refine ⟨_, rfl, S.p, S.dx, _, rfl, hS.p, shF_no (by decide +kernel), _, rfl, S, t, x, rfl, hS, ht, hi, ?_⟩
    rw [lyV_sh hm hsh]
    refine ⟨_, rfl, c.q, _, c.dx, _, _, rfl, hc.q, T.cls x.1, T.nHeld x.1, lyF_held, .inr (.inr (.inl ⟨rfl, .inr ⟨_, hc.d⟩⟩)), _, rfl, c.d, _, h.key, g, _, rfl, rfl, hc.d, hg, hd_val hn, ?_⟩
    have e : HO.dT (dropK (c.hs.map hdE) h.key) = hdT (c.hs.filter fun g => decide (g ≠ h)) := by rw [hd_drop]; rfl
    have e' : upd H c.d (.dT (dropK (c.hs.map fun h => (h.key, V.bl true)) h.key)) = upd H c.d (hdT (c.hs.filter fun g => decide (g ≠ h))) := congrArg _ e
    rw [e']
    have nq : c.q ≠ c.d := (hL.cn _ _ hm).2.1
    have nb : c.b ≠ c.d := (hL.cn _ _ hm).2.2
    have A1 : ShAt a (upd H c.d (hdT (c.hs.filter fun g => decide (g ≠ h)))) (S.wm (remH S.m x c h)) :=
      hS.cell hL hm (mem_adr.mpr (.inr (.inr rfl))) rfl ⟨by rw [upd_ne nq]; exact hc.q, by rw [upd_ne nb]; exact hc.b, upd_same⟩
    have L1 : Lay (S.wm (remH S.m x c h)) := hL.sub (Sub.cell hm ⟨rfl, rfl, rfl⟩)
    have k1 : ∀ u o, H u = some o → u ≠ c.d → upd H c.d (hdT (c.hs.filter fun g => decide (g ≠ h))) u = some o := fun u o e hu => by rw [upd_ne hu]; exact e
    generalize upd H c.d (hdT (c.hs.filter fun g => decide (g ≠ h))) = H1 at A1 k1
    have hm1 : (S.wm (remH S.m x c h)).m x = some { c with hs := c.hs.filter fun g => decide (g ≠ h) } := up_same
    have hc1 := A1.cs x _ hm1
    refine ⟨_, rfl, c.q, _, c.dx, _, _, rfl, hc1.q, T.cls x.1, T.nHeld x.1, lyF_held, c.d, _, rfl, hc1.d, rfl, _, rfl, ?_⟩
    rw [List.length_map]
    unfold letM at k
    cases hf : c.hs.filter fun g => decide (g ≠ h) with
    | nil =>
      rw [hf] at k
      refine iteT ?_
      have ht1 : H1 t = some (.tup (spV x)) := k1 t _ ht (ne_of ht hc.d (by intro z; cases z))
      refine ⟨_, rfl, S.p, S.dx, _, rfl, A1.p, shF_no (by decide +kernel), _, rfl, S.wm (remH S.m x c h), t, x, _, rfl, A1, L1, ht1, hm1, hj, fun H2 A2 k2 => ?_⟩
      refine k H2 ?_ fun u o e h1 h2 h3 => ?_
      · rw [if_pos (show ([] : List Hd).isEmpty = true from rfl)]
        exact A2
      · exact k2 u o (k1 u o e fun z => h3 (mem_adr.mpr (.inr (.inr z)))) h1 h2 fun z => h3 (mem_adr.mpr (.inl z))
    | cons g0 r0 =>
      rw [decide_eq_false (by intro z; injection z with z; simp at z; omega)]
      refine iteF (k H1 ?_ fun u o e h1 h2 h3 => k1 u o e fun z => h3 (mem_adr.mpr (.inr (.inr z))))
      rw [hf, if_neg (by simp)]
      exact A1
theorem ok_setbox (T : Top K mg a) : FnOk P w K mg base CX0 2 a.fSetbox a.dSetbox ["self", "frame", "box", "value"] (spSetbox a) := by
  have GU : FnOk P w K mg base CX0 1 a.fUntw a.dUntw ["self", "frame"] (spUntw a) := ok_untw T
  refine T.FSetbox.ok scSetbox (fun vs H Q E h => ?_) (fun cdv A outer s H vs Q E hr h => ?_)
  · obtain ⟨S, i, b, v, c, rfl, _⟩ := h
    rfl
  · obtain ⟨S, i, b, v, c, rfl, hS, hL, hm, hb, hj, k⟩ := h
    have hi : i < S.F := hL.inb _ _ hm
    have hc := hS.cs _ _ hm
    refine ⟨_, pss_cons (ps_asg (pv 3) (pg_sub (pe_fld (pe_ix ix_list (pe_fld (pv 0) rfl) (pv 1) (fun _ _ => rfl)) rfl) (pv 2) set_list))
      (pss_one (ps_expr (pe_meth (pv 0) T.clS T.mUntw GU hr T.bUntw .nil pass0 (pa_cons (pv 1) pa_nil)))), ?_⟩
    refine ⟨_, rfl, _, rfl, S.p, _, S.dx, _, _, rfl, hS.p, T.clS, T.nS_in_frames, shF_frames, _, rfl, S.lf, _, _, _, rfl, rfl, SqL.of hS.lf, atI_nat (row_get hi), ?_⟩
    rw [hm]
    refine ⟨c.q, _, c.dx, _, _, rfl, hc.q, T.clL, T.nL_boxes, lyF_boxes, _, rfl, c.b, _, _, b, rfl, rfl, hc.b, (by rw [List.length_map]; exact ixN_nat hb), ?_⟩
    have e : (c.xs.map V.int).set b (V.int v) = (c.xs.set b v).map V.int := by rw [List.map_set]
    rw [e]
    have nq : c.q ≠ c.b := (hL.cn _ _ hm).1
    have nd : c.d ≠ c.b := Ne.symm (hL.cn _ _ hm).2.2
    have A1 : ShAt a (upd H c.b (.lst ((c.xs.set b v).map V.int))) (S.wm (boxM S.m i c b v)) :=
      hS.cell hL hm (mem_adr.mpr (.inr (.inl rfl))) rfl ⟨by rw [upd_ne nq]; exact hc.q, upd_same, by rw [upd_ne nd]; exact hc.d⟩
    have L1 : Lay (S.wm (boxM S.m i c b v)) := hL.sub (Sub.cell hm ⟨rfl, rfl, rfl⟩)
    refine ⟨_, rfl, S.p, S.dx, _, rfl, A1.p, shF_no (by decide +kernel), _, rfl, S.wm (boxM S.m i c b v), i, { c with xs := c.xs.set b v }, rfl, A1, L1, up_same, hj, fun H2 A2 k2 => ?_⟩
    refine k H2 A2 fun u o e h1 h2 => k2 u o ?_ h1 fun z => h2 (mem_adr.mpr (.inl z))
    rw [upd_ne fun z => h2 (mem_adr.mpr (.inr (.inl z)))]
    exact e
theorem ok_live (T : Top K mg a) : FnOk P w K mg base CX0 3 a.fLive a.dLive ["self"] (spLive a) := by
  have GS : FnOk P w K mg base CX0 2 a.fShin a.dShin ["spots"] (spShin a) := ok_shin T
  refine T.FLive.ok scLive (fun vs H Q E h => ?_) (fun cdv A outer s H vs Q E hr h => ?_)
  · obtain ⟨S, rfl, _⟩ := h
    rfl
  · obtain ⟨S, rfl, hS, k⟩ := h
    refine ⟨_, pss_one (ps_ret (pe_op op_add (pe_call GS hr rfl T.gShin T.FShin.kp T.bShin .nil pass0 (pa_cons (pe_fld (pv 0) rfl) pa_nil)) (pe_call GS hr rfl T.gShin T.FShin.kp T.bShin .nil pass0 (pa_cons (pe_fld (pv 0) rfl) pa_nil)))), ?_⟩
    refine ⟨_, rfl, S.p, _, S.dx, _, _, rfl, hS.p, T.clS, T.nS_in_frames, shF_frames, S.lf, S.m, false, S.F, rfl, hS.lf, fun i c h => hS.cs _ c h, ?_⟩
    refine ⟨_, rfl, S.p, _, S.dx, _, _, rfl, hS.p, T.clS, T.nS_in_slots, shF_slots, S.ls, S.m, true, S.G, rfl, hS.ls, fun i c h => hS.cs _ c h, _, _, rfl, rfl, ?_⟩
    have e : ((cnt (vw S.m) false S.F : Nat) : Int) + ((cnt (vw S.m) true S.G : Nat) : Int) = ((cnt (vw S.m) false S.F + cnt (vw S.m) true S.G : Nat) : Int) := by omega
    show Q (V.int (((cnt (vw S.m) false S.F : Nat) : Int) + ((cnt (vw S.m) true S.G : Nat) : Int))) H
    rw [e]
    exact k
theorem ok_toldF (T : Top K mg a) : FnOk P w K mg base CX0 4 a.fToldF a.dToldF ["self"] (spToldR a false) := by
  have GT : FnOk P w K mg base CX0 3 a.fTold a.dTold ["spots"] (spTold a) := ok_told T
  refine T.FToldF.ok scToldF (fun vs H Q E h => ?_) (fun cdv A outer s H vs Q E hr h => ?_)
  · obtain ⟨S, rfl, _⟩ := h
    rfl
  · obtain ⟨S, rfl, hS, h64, hf, k⟩ := h
    refine ⟨_, pss_one (ps_ret (pe_call GT hr rfl T.gTold T.FTold.kp T.bTold .nil pass0 (pa_cons (pe_fld (pv 0) rfl) pa_nil))), ?_⟩
    exact ⟨_, rfl, S.p, _, S.dx, _, _, rfl, hS.p, T.clS, T.nS_in_frames, shF_frames, S.lf, S.m, false, S.F, rfl, hS.lf, h64, fun i c h => hS.cs _ c h, hf, k⟩
theorem ok_toldS (T : Top K mg a) : FnOk P w K mg base CX0 4 a.fToldS a.dToldS ["self"] (spToldR a true) := by
  have GT : FnOk P w K mg base CX0 3 a.fTold a.dTold ["spots"] (spTold a) := ok_told T
  refine T.FToldS.ok scToldS (fun vs H Q E h => ?_) (fun cdv A outer s H vs Q E hr h => ?_)
  · obtain ⟨S, rfl, _⟩ := h
    rfl
  · obtain ⟨S, rfl, hS, h64, hf, k⟩ := h
    refine ⟨_, pss_one (ps_ret (pe_call GT hr rfl T.gTold T.FTold.kp T.bTold .nil pass0 (pa_cons (pe_fld (pv 0) rfl) pa_nil))), ?_⟩
    exact ⟨_, rfl, S.p, _, S.dx, _, _, rfl, hS.p, T.clS, T.nS_in_slots, shF_slots, S.ls, S.m, true, S.G, rfl, hS.ls, h64, fun i c h => hS.cs _ c h, hf, k⟩
end
end Fl

set_option Elab.async false
set_option linter.all false
set_option maxRecDepth 100000
set_option maxHeartbeats 4000000
/-! goal_of, emptied. -/
namespace Fl
open PySem L2
/-- twins: a frame's slot keeps its values; a twin's frame is bound to it -/
structure Twin (m : Mp Cell) : Prop where
  tw1 : ∀ i c j, m (false, i) = some c → c.bd = some j → ∃ c', m (true, j) = some c' ∧ c'.bd = some i ∧ c'.xs = c.xs ∧ c'.hs = []
  tw2 : ∀ j c' i, m (true, j) = some c' → c'.bd = some i → ∃ c, m (false, i) = some c ∧ c.bd = some j
/-- some slot may take a sheet: the one told, or one without a sheet -/
def Roomy (S : Sh) (sl : V) : Prop := (∃ g0 : Nat, sl = .int (g0 : Int) ∧ g0 < S.G) ∨ ∃ j, j < S.G ∧ vw S.m (true, j) = none
/-- what goal_of answers -/
def GoalOk (S : Sh) (c : Cell) (sl : V) (g : Nat) (k : Option Nat) : Prop :=
  g < S.G ∧ ((k = none ∧ c.bd = some g) ∨ (c.bd = none ∧ ((k = none ∧ S.m (true, g) = none) ∨ (∃ k0 ck, k = some k0 ∧ S.m (false, k0) = some ck ∧ ck.bd = some g) ∨
    (k = none ∧ sl = .int (g : Int) ∧ ∀ i c', S.m (false, i) = some c' → c'.bd = none))))
def spGoal (a : Ad) : Sp := fun vs H Q _ => ∃ (S : Sh) (f : Nat) (c : Cell) (sl : V), vs = [.ref S.p, .int (f : Int), sl] ∧ ShAt a H S ∧ Lay S ∧ Twin S.m ∧ S.m (false, f) = some c ∧ (∀ i, i < S.F → ∃ c', S.m (false, i) = some c') ∧ Roomy S sl ∧
  ∀ (H' : Hp) (t : Addr) (g : Nat) (k : Option Nat), Same H H' → H' t = some (.tup [.int (g : Int), bdV k]) → GoalOk S c sl g k → Q (.ref t) H'
theorem vw_none {m : Mp Cell} {x : Spot} (h : m x = none) : vw m x = none := by unfold vw; rw [h]
theorem vw_sh {m : Mp Cell} {x : Spot} {c : Cell} (h : m x = some c) (e : isSh x c = true) : vw m x = some (c.xs, c.hs) := by unfold vw; rw [h]; exact if_pos e
theorem vw_tw {m : Mp Cell} {x : Spot} {c : Cell} (h : m x = some c) (e : isSh x c = false) : vw m x = none := by unfold vw; rw [h]; exact if_neg (by rw [e]; exact Bool.false_ne_true)
theorem vw_of {m : Mp Cell} {x : Spot} {p : List Int × List Hd} (h : vw m x = some p) : ∃ c, m x = some c ∧ isSh x c = true ∧ p = (c.xs, c.hs) := by
  unfold vw at h
  cases e : m x with
  | none => rw [e] at h; cases h
  | some c =>
    rw [e] at h
    by_cases q : isSh x c = true
    · refine ⟨c, rfl, q, ?_⟩
      have h' : (if isSh x c = true then some (c.xs, c.hs) else none) = some p := h
      rw [if_pos q] at h'
      exact (Option.some.inj h').symm
    · have h' : (if isSh x c = true then some (c.xs, c.hs) else none) = some p := h
      rw [if_neg q] at h'
      cases h'
theorem isSh_slot {j : Nat} {c : Cell} : isSh (true, j) c = c.bd.isNone := by unfold isSh; simp
theorem isSh_frame {i : Nat} {c : Cell} : isSh (false, i) c = true := rfl
theorem Twin.lt {S : Sh} (W : Twin S.m) (L : Lay S) {i j : Nat} {c : Cell} (h : S.m (false, i) = some c) (e : c.bd = some j) : j < S.G := by
  obtain ⟨c', h', _⟩ := W.tw1 i c j h e
  exact L.inb _ _ h'
section
variable {P : Program} {w : World} {K : PySem.W.Frag} {mg : Str → Option Value} {base : Heap} {a : Ad}
theorem ok_goal (T : Top K mg a) : FnOk P w K mg base CX0 2 a.fGoal a.dGoal ["self", "frame", "slot"] (spGoal a) := by
  have GF : FnOk P w K mg base CX0 1 a.fFirst a.dFirst ["spots"] spFirst := ok_first T
  refine T.FGoal.ok scGoal (fun vs H Q E h => ?_) (fun cdv A outer s H vs Q E hr h => ?_)
  · obtain ⟨S, f, c, sl, rfl, _⟩ := h
    rfl
  · obtain ⟨S, f, c, sl, rfl, hS, hL, hT, hm, hfull, hroom, k⟩ := h
    have hf : f < S.F := hL.inb _ _ hm
    have hc := hS.cs _ _ hm
    refine ⟨_, pss_cons (ps_if (pt_cmpR op_notN (pe_fld (pe_ix ix_list (pe_fld (pv 0) rfl) (pv 1) (fun _ _ => rfl)) rfl) pe_non (nomark _))
        (pss_one (ps_ret (pe_tup (pa_cons (pe_fld (pe_ix ix_list (pe_fld (pv 0) rfl) (pv 1) (fun _ _ => rfl)) rfl) (pa_cons pe_non pa_nil))))) pss_nil)
      (pss_cons (ps_set (i := 3) scGoal.nd rfl (.inl rfl) (pe_call GF hr rfl T.gFirst T.FFirst.kp T.bFirst .nil pass0 (pa_cons (pe_fld (pv 0) rfl) pa_nil)))
      (pss_cons (ps_if (pt_cmpR op_notN (pv 3) pe_non (nomark _)) (pss_one (ps_ret (pe_tup (pa_cons (pv 3) (pa_cons pe_non pa_nil))))) pss_nil)
      (pss_cons (ps_for PassesOwn.never rfl (pi_enum (by rfl) T.zenumerate (pa_cons (pe_fld (pv 0) rfl) pa_nil)) (pg_tup rfl (pgs_cons (pg_name (i := 4) scGoal.nd rfl (.inl rfl)) (pgs_cons (pg_name (i := 5) scGoal.nd rfl (.inl rfl)) pgs_nil)))
        (pss_one (ps_if (pt_cmpR op_notN (pe_fld (pv 5) rfl) pe_non (nomark _)) (pss_one (ps_ret (pe_tup (pa_cons (pe_fld (pv 5) rfl) (pa_cons (pv 4) pa_nil))))) pss_nil)))
      (pss_one (ps_ret (pe_tup (pa_cons (pv 2) (pa_cons pe_non pa_nil)))))))), ?_⟩
    refine ⟨_, rfl, S.p, _, S.dx, _, _, rfl, hS.p, T.clS, T.nS_in_frames, shF_frames, _, rfl, S.lf, _, _, _, rfl, rfl, SqL.of hS.lf, atI_nat (row_get hf), ?_⟩
    rw [hm]
    refine ⟨c.q, _, c.dx, _, _, rfl, hc.q, T.clL, T.nL_bound, lyF_bound, rfl, _, rfl, ?_⟩
    rw [bdV_non]
    have two : 2 ≤ sizeLine := by decide
    cases hb : c.bd with
    | some g =>
      refine iteT ?_
      refine ⟨_, rfl, S.p, _, S.dx, _, _, rfl, hS.p, T.clS, T.nS_in_frames, shF_frames, _, rfl, S.lf, _, _, _, rfl, rfl, SqL.of hS.lf, atI_nat (row_get hf), ?_⟩
      rw [hm]
      refine ⟨c.q, _, c.dx, _, _, rfl, hc.q, T.clL, T.nL_bound, lyF_bound, two, fun t nt => ?_⟩
      refine k _ t g none (fun b o e => by rw [upd_ne (ne_of_none e nt)]; exact e) ?_ ⟨hT.lt hL hm hb, .inl ⟨rfl, hb⟩⟩
      rw [upd_same, hb]
      rfl
    | none =>
      refine iteF ?_
      refine ⟨_, rfl, S.p, _, S.dx, _, _, rfl, hS.p, T.clS, T.nS_in_slots, shF_slots, S.ls, S.m, true, S.G, rfl, hS.ls, fun H1 s1 => ?_⟩
      refine ⟨_, rfl, rfl, _, rfl, ?_⟩
      rw [bdV_non]
      have A1 : ShAt a H1 S := hS.same fun u o _ e => s1 u o e
      cases he : fstE S.m true S.G with
      | some g =>
        refine iteT ⟨_, rfl, two, fun t nt => ?_⟩
        obtain ⟨h1, h2⟩ := fstE_some he
        exact k _ t g none (fun b o e => by rw [upd_ne (ne_of_none (s1 b o e) nt)]; exact s1 b o e) upd_same ⟨h1, .inr ⟨hb, .inl ⟨rfl, h2⟩⟩⟩
      | none =>
        refine iteF ?_
        have hfs := fstE_none he
        refine ⟨_, rfl, S.p, _, S.dx, _, _, rfl, A1.p, T.clS, T.nS_in_frames, shF_frames, S.lf, _, rfl, SqL.of A1.lf, ?_⟩
        refine for_it walk_enum (fun i σ H' => Same H1 H' ∧ (∀ j c', j < i → S.m (false, j) = some c' → c'.bd = none) ∧ ∃ v1 v2 : Option V, σ = [some (.ref S.p), some (.int (f : Int)), some sl, some .non, v1, v2])
          ⟨Same.refl _, fun j c' hj => absurd hj (Nat.not_lt_zero _), _, _, rfl⟩ (fun i σ H' _ hh => SqL.of (hh.1 _ _ A1.lf)) ?_ ?_
        · rintro i x σ H2 H3 hi ⟨sm, hj, v1, v2, rfl⟩ ⟨t, x1, x2, rfl, nt, rfl, e1, e2⟩
          injection e1 with e1
          subst e1
          obtain ⟨hin, rfl⟩ := row_of e2
          obtain ⟨ci, hci⟩ := hfull i hin
          rw [hci]
          have s2 : Same H1 (upd H2 t (.tup [.int (i : Nat), optV cV (some ci)])) := fun b o e => by
            have e' := sm b o e
            rw [upd_ne (ne_of_none e' nt)]
            exact e'
          have A2 := (A1.cs _ _ hci).keep fun u o _ e => s2 u o e
          refine ⟨t, _, rfl, SqT.of upd_same, rfl, _, _, rfl, _, _, rfl, rfl, ?_⟩
          refine ⟨_, rfl, ci.q, _, ci.dx, _, _, rfl, A2.q, T.clL, T.nL_bound, lyF_bound, rfl, _, rfl, ?_⟩
          rw [bdV_non]
          cases hbi : ci.bd with
          | none =>
            refine iteF ⟨s2, fun j c' hj2 hc' => ?_, _, _, rfl⟩
            by_cases e : j < i
            · exact hj j c' e hc'
            · have : j = i := by omega
              subst this
              rw [hci] at hc'
              cases hc'
              exact hbi
          | some g =>
            refine iteT ⟨_, rfl, ci.q, _, ci.dx, _, _, rfl, A2.q, T.clL, T.nL_bound, lyF_bound, _, rfl, two, fun t2 nt2 => ?_⟩
            refine k _ t2 g (some i) (fun b o e => by rw [upd_ne (ne_of_none (s2 b o (s1 b o e)) nt2)]; exact s2 b o (s1 b o e)) ?_ ⟨hT.lt hL hci hbi, .inr ⟨hb, .inr (.inl ⟨i, ci, rfl, hci, hbi⟩)⟩⟩
            rw [upd_same, hbi]
            rfl
        · rintro σ H2 ⟨sm, hj, v1, v2, rfl⟩
          rw [row_length] at hj
          have nob : ∀ i c', S.m (false, i) = some c' → c'.bd = none := fun i c' h => hj i c' (hL.inb _ _ h) h
          have sl0 : ∃ g0 : Nat, sl = .int (g0 : Int) ∧ g0 < S.G := by
            rcases hroom with z | ⟨j, hjG, hv⟩
            · exact z
            · exfalso
              obtain ⟨c', hc'⟩ := hfs j hjG
              cases hbd : c'.bd with
              | none =>
                rw [vw_sh hc' (by rw [isSh_slot, hbd]; rfl)] at hv
                cases hv
              | some i =>
                obtain ⟨c2, h2, h3⟩ := hT.tw2 j c' i hc' hbd
                rw [nob i c2 h2] at h3
                cases h3
          obtain ⟨g0, rfl, hg0⟩ := sl0
          refine ⟨_, rfl, two, fun t nt => ?_⟩
          exact k _ t g0 none (fun b o e => by rw [upd_ne (ne_of_none (sm b o (s1 b o e)) nt)]; exact sm b o (s1 b o e)) upd_same ⟨hg0, .inr ⟨hb, .inr (.inr ⟨rfl, rfl, nob⟩)⟩⟩
end
end Fl

set_option Elab.async false
set_option linter.all false
set_option maxRecDepth 100000
set_option maxHeartbeats 4000000
/-! emptied. -/
namespace Fl
open PySem L2
def goalM (m : Mp Cell) : Option Nat → Mp Cell
  | none => m
  | some k0 => match m (false, k0) with
    | none => m
    | some ck => up m (false, k0) (some { ck with bd := none })
def outM (m : Mp Cell) (f g : Nat) (k : Option Nat) (c2 : Cell) : Mp Cell := up (up (goalM m k) (true, g) (some c2)) (false, f) none
/-- what emptied, fresh and back answer: the frame; the slot of what was put out -/
def FoundAt (H : Hp) (t : Addr) (f : Nat) (out : Option Nat) : Prop := ∃ (l : Addr) (z : V), H t = some (.tup [.int (f : Int), .ref l, z]) ∧ match out with
  | none => z = .non
  | some g => ∃ o r, z = .ref o ∧ H o = some (.tup [.int (g : Int), .ref r])
theorem FoundAt.keep {H H' : Hp} {t : Addr} {f : Nat} {out : Option Nat} (x : FoundAt H t f out) (k : ∀ u vs, H u = some (.tup vs) → H' u = some (.tup vs)) : FoundAt H' t f out := by
  obtain ⟨l, z, h, q⟩ := x
  refine ⟨l, z, k _ _ h, ?_⟩
  cases out with
  | none => exact q
  | some g =>
    obtain ⟨o, r, e, h2⟩ := q
    exact ⟨o, r, e, k _ _ h2⟩
def spEmptied (a : Ad) : Sp := fun vs H Q _ => ∃ (S : Sh) (l : Addr) (bs : List Bool) (sl : V), vs = [.ref S.p, .ref l, sl] ∧ ShAt a H S ∧ Lay S ∧ Twin S.m ∧ H l = some (.lst (bs.map V.bl)) ∧ bs.length = S.F ∧ S.F ≤ 64 ∧ S.st < S.F ∧ ¬ Reg S l ∧ (∀ x c, S.m x = some c → Few c.hs) ∧
  (fstE S.m false S.F = none → Roomy S sl) ∧
  (∀ (H' : Hp) (t f : Nat), fstE S.m false S.F = some f → Same H H' → FoundAt H' t f none → Q (.ref t) H') ∧
  (∀ (H' : Hp) (t f g : Nat) (k : Option Nat) (c c2 : Cell) (st' : Nat) (n1 n2 : Int), fstE S.m false S.F = none → f < S.F → S.m (false, f) = some c → GoalOk S c sl g k → c2.b = c.b → c2.d = c.d → c2.xs = c.xs → c2.hs = c.hs → c2.bd = none → H c2.q = none → st' < S.F →
    ShAt a H' { S with m := outM S.m f g k c2, st := st', n1 := n1, n2 := n2 } → (∀ u o, H u = some o → u ≠ S.p → u ≠ S.lf → u ≠ S.ls → (∀ i c, S.m (false, i) = some c → u ≠ c.q) → H' u = some o) → FoundAt H' t f (some g) → Q (.ref t) H')
section
variable {S : Sh} {c c2 : Cell} {k : Option Nat} {f g : Nat} {sl : V}
theorem goalM_none {m : Mp Cell} : goalM m none = m := rfl
theorem goalM_some {m : Mp Cell} {k0 : Nat} {ck : Cell} (h : m (false, k0) = some ck) : goalM m (some k0) = up m (false, k0) (some { ck with bd := none }) := by
  unfold goalM
  simp only [h]
theorem goalM_sub (m : Mp Cell) : Sub (goalM m k) m := by
  cases k with
  | none => exact Sub.refl m
  | some k0 =>
    cases e : m (false, k0) with
    | none => unfold goalM; simp only [e]; exact Sub.refl m
    | some ck => rw [goalM_some e]; exact Sub.cell e ⟨rfl, rfl, rfl⟩
end
section
variable {P : Program} {w : World} {K : PySem.W.Frag} {mg : Str → Option Value} {base : Heap} {a : Ad}
theorem ok_emptied (T : Top K mg a) : FnOk P w K mg base CX0 3 a.fEmptied a.dEmptied ["self", "marks", "slot"] (spEmptied a) := by
  have GF : FnOk P w K mg base CX0 1 a.fFirst a.dFirst ["spots"] spFirst := ok_first T
  have GW : FnOk P w K mg base CX0 1 a.fSwept a.dSwept ["marks", "hand"] spSwept := ok_swept T
  have GG : FnOk P w K mg base CX0 2 a.fGoal a.dGoal ["self", "frame", "slot"] (spGoal a) := ok_goal T
  have GI : FnOk P w K mg base CX0 1 a.fLyInit a.dLyInit ["self", "boxes", "held", "bound"] (spLyInit a) := ok_lyInit T
  have GR : FnOk P w K mg base CX0 1 a.fLyRow a.dLyRow ["self"] (spRow a) := ok_row T
  refine T.FEmptied.ok scEmptied (fun vs H Q E h => ?_) (fun cdv A outer s H vs Q E hr h => ?_)
  · obtain ⟨S, l, bs, sl, rfl, _⟩ := h
    rfl
  · obtain ⟨S, l, bs, sl, rfl, hS, hL, hT, hl, hlen, h64, hst, hnl, hfew, hroom, kA, kB⟩ := h
    have hr1 : Room 1 _ := hr.mono (by decide)
    refine ⟨_, pss_cons (ps_set (i := 3) scEmptied.nd rfl (.inl rfl) (pe_call GF hr1 rfl T.gFirst T.FFirst.kp T.bFirst .nil pass0 (pa_cons (pe_fld (pv 0) rfl) pa_nil)))
      (pss_cons (ps_if (pt_cmpR op_notN (pv 3) pe_non (nomark _)) (pss_one (ps_ret (pe_tup (pa_cons (pv 3) (pa_cons (pe_lst pa_nil) (pa_cons pe_non pa_nil)))))) pss_nil)
      (pss_cons (ps_set (i := 4) scEmptied.nd rfl (.inl rfl) (pe_call GW hr1 rfl T.gSwept T.FSwept.kp T.bSwept .nil pass0 (pa_cons (pv 1) (pa_cons (pe_fld (pv 0) rfl) pa_nil))))
      (pss_cons (ps_set (i := 5) scEmptied.nd rfl (.inl rfl) (pe_ix ix_tup (pv 4) pe_int (fun _ _ => rfl)))
      (pss_cons (ps_fld (pv 0) (pe_op op_mod (pe_op op_add (pv 5) pe_int) (pe_callB call_len_seq (by rfl) T.zlen PySem.boot_len (pa_cons (pe_fld (pv 0) rfl) pa_nil))) rfl)
      (pss_cons (ps_set (i := 6) scEmptied.nd rfl (.inl rfl) (pe_meth (pv 0) T.clS T.mGoal GG hr T.bGoal .nil pass0 (pa_cons (pv 5) (pa_cons (pv 2) pa_nil))))
      (pss_cons (ps_set (i := 7) scEmptied.nd rfl (.inl rfl) (pe_ix ix_list (pe_fld (pv 0) rfl) (pv 5) (fun _ _ => rfl)))
      (pss_cons (ps_fldaug (pv 0) pe_int in_add)
      (C8.pss_cut (ps_if (pt_cmpR op_isN (pe_fld (pv 7) rfl) pe_non (nomark _)) (pss_one (ps_fldaug (pv 0) pe_int in_add)) pss_nil)
      (C8.pss_cut (ps_if (pt_cmpR op_notN (pe_ix ix_tup (pv 6) pe_int (fun _ _ => rfl)) pe_non (nomark _)) (pss_one (ps_fld (pe_ix ix_list (pe_fld (pv 0) rfl) (pe_ix ix_tup (pv 6) pe_int (fun _ _ => rfl)) (fun _ _ => rfl)) pe_non rfl)) pss_nil)
      (pss_cons (ps_asg (pe_make (T.mkC true) GI hr rfl T.mgT T.bLyInit .nil pass0 (pa_cons (pe_fld (pv 7) rfl) (pa_cons (pe_fld (pv 7) rfl) (pa_cons pe_non pa_nil)))) (pg_sub (pe_fld (pv 0) rfl) (pe_ix ix_tup (pv 6) pe_int (fun _ _ => rfl)) set_list))
      (pss_cons (ps_asg pe_non (pg_sub (pe_fld (pv 0) rfl) (pv 5) set_list))
      (pss_one (ps_ret (pe_tup (pa_cons (pv 5) (pa_cons (pe_ix ix_tup (pv 4) pe_int (fun _ _ => rfl)) (pa_cons (pe_tup (pa_cons (pe_ix ix_tup (pv 6) pe_int (fun _ _ => rfl)) (pa_cons (pe_meth0 (pv 7) T.clL T.mLyRowL GR hr1 T.bLyRow .nil pass0) pa_nil))) pa_nil))))))))))))))))), ?_⟩
    have two : 2 ≤ sizeLine := by decide
    have three : 3 ≤ sizeLine := by decide
    refine ⟨_, rfl, S.p, _, S.dx, _, _, rfl, hS.p, T.clS, T.nS_in_frames, shF_frames, S.lf, S.m, false, S.F, rfl, hS.lf, fun H1 s1 => ?_⟩
    refine ⟨_, rfl, rfl, _, rfl, ?_⟩
    rw [bdV_non]
    cases he : fstE S.m false S.F with
    | some f =>
      refine iteT ⟨_, rfl, Nat.zero_le _, fun p np => ?_⟩
      have s2 : Same H (upd H1 p (.lst [])) := fun b o e => by rw [upd_ne (ne_of_none (s1 b o e) np)]; exact s1 b o e
      refine ⟨three, fun t nt => ?_⟩
      exact kA _ t f he (fun b o e => by rw [upd_ne (ne_of_none (s2 b o e) nt)]; exact s2 b o e) ⟨p, _, upd_same, rfl⟩
    | none =>
      refine iteF ?_
      have hfull := fstE_none he
      have A1 : ShAt a H1 S := hS.same fun u o _ e => s1 u o e
      refine ⟨_, rfl, _, rfl, S.p, _, S.dx, _, _, rfl, A1.p, T.clS, T.nS_stand, shF_stand, l, bs, S.st, rfl, s1 _ _ hl, by omega, by omega, fun H2 tc lc f s2 hf htc => ?_⟩
      rw [hlen] at hf
      have A2 : ShAt a H2 S := A1.same fun u o _ e => s2 u o e
      have s02 : Same H H2 := s1.trans s2
      obtain ⟨c, hm⟩ := hfull f hf
      refine ⟨_, rfl, tc, _, _, _, rfl, rfl, SqT.of htc, atI_nat (j := 0) rfl, ?_⟩
      refine ⟨_, rfl, _, _, rfl, rfl, _, rfl, S.p, _, S.dx, _, _, rfl, A2.p, T.clS, T.nS_in_frames, shF_frames, S.lf, _, rfl, .inl (SqL.of A2.lf), _, _, rfl, rfl, (by rw [row_length]; omega), _, rfl, S.p, _, S.dx, _, rfl, A2.p, T.clS, T.nS_stand, shF_len, ?_⟩
      rw [row_length, shF_put_stand]
      have e1 : ((f : Int) + 1) % ((S.F : Nat) : Int) = (((f + 1) % S.F : Nat) : Int) := by
        rw [Int.natCast_emod]; rfl
      rw [e1]
      have hst' : (f + 1) % S.F < S.F := Nat.mod_lt _ (by omega)
      generalize (f + 1) % S.F = st' at hst'
      have A3 := A2.obj hL st' S.n1 S.n2 S.n3
      have L3 := hL.obj st' S.n1 S.n2 S.n3
      have k3 : ∀ u o, H u = some o → u ≠ S.p → upd H2 S.p (.ins a.CS S.dx (shF S.lf S.ls (st' : Int) S.n1 S.n2 S.n3)) u = some o := fun u o e h => by rw [upd_ne h]; exact s02 u o e
      have htc3 : upd H2 S.p (.ins a.CS S.dx (shF S.lf S.ls (st' : Int) S.n1 S.n2 S.n3)) tc = some (.tup [.int (f : Int), .ref lc]) := by
        rw [upd_ne (ne_of htc A2.p (by intro z; cases z))]; exact htc
      generalize upd H2 S.p (.ins a.CS S.dx (shF S.lf S.ls (st' : Int) S.n1 S.n2 S.n3)) = H3 at A3 k3 htc3
      refine ⟨_, rfl, S.p, S.dx, _, rfl, A3.p, shF_no (by decide +kernel), _, rfl, _, rfl, { S with st := st', n1 := S.n1, n2 := S.n2, n3 := S.n3 }, f, c, sl, rfl, A3, L3, hT, hm, hfull, hroom he, fun H4 tg g k s4 htg hgoal => ?_⟩
      have hgoal : GoalOk S c sl g k := hgoal
      have A4 : ShAt a H4 _ := A3.same fun u o _ e => s4 u o e
      have k4 : ∀ u o, H u = some o → u ≠ S.p → H4 u = some o := fun u o e h => s4 u o (k3 u o e h)
      have htc4 := s4 _ _ htc3
      refine ⟨_, rfl, S.p, _, S.dx, _, _, rfl, A4.p, T.clS, T.nS_in_frames, shF_frames, _, rfl, S.lf, _, _, _, rfl, rfl, SqL.of A4.lf, atI_nat (row_get hf), ?_⟩
      have er : optV cV (S.m (false, f)) = V.ref c.q := by rw [hm]; rfl
      rw [show optV cV (Sh.m { S with st := st', n1 := S.n1, n2 := S.n2, n3 := S.n3 } (false, f)) = V.ref c.q from er]
      refine ⟨_, rfl, S.p, _, S.dx, _, _, rfl, A4.p, T.clS, T.nS_gone_out, shF_out, _, _, rfl, rfl, S.dx, _, A4.p, shF_len, ?_⟩
      rw [shF_put_out]
      have A5 := A4.obj L3 st' (S.n1 + 1) S.n2 S.n3
      have L5 := L3.obj st' (S.n1 + 1) S.n2 S.n3
      have k5 : ∀ u o, H u = some o → u ≠ S.p → upd H4 S.p (.ins a.CS S.dx (shF S.lf S.ls (st' : Int) (S.n1 + 1) S.n2 S.n3)) u = some o := fun u o e h => by rw [upd_ne h]; exact k4 u o e h
      have htc5 : upd H4 S.p (.ins a.CS S.dx (shF S.lf S.ls (st' : Int) (S.n1 + 1) S.n2 S.n3)) tc = some (.tup [.int (f : Int), .ref lc]) := by
        rw [upd_ne (ne_of htc4 A4.p (by intro z; cases z))]; exact htc4
      have htg5 : upd H4 S.p (.ins a.CS S.dx (shF S.lf S.ls (st' : Int) (S.n1 + 1) S.n2 S.n3)) tg = some (.tup [.int (g : Int), bdV k]) := by
        rw [upd_ne (ne_of htg A4.p (by intro z; cases z))]; exact htg
      generalize upd H4 S.p (.ins a.CS S.dx (shF S.lf S.ls (st' : Int) (S.n1 + 1) S.n2 S.n3)) = H5 at A5 k5 htc5 htg5
      have hc5 : CellAt a.CL H5 c := A5.cs (false, f) c hm
      -- if leaving.bound is None: self.gone_elsewhere += 1
      refine ⟨fun σ H' => σ = [some (.ref S.p), some (.ref l), some sl, some .non, some (.ref tc), some (.int (f : Int)), some (.ref tg), some (.ref c.q)] ∧ ∃ n2 : Int, ShAt a H' { S with st := st', n1 := S.n1 + 1, n2 := n2, n3 := S.n3 } ∧ (∀ u o, H u = some o → u ≠ S.p → H' u = some o) ∧ H' tc = some (.tup [.int (f : Int), .ref lc]) ∧ H' tg = some (.tup [.int (g : Int), bdV k]), ?_, ?_⟩
      · refine ⟨_, rfl, c.q, _, c.dx, _, _, rfl, hc5.q, T.clL, T.nL_bound, lyF_bound, rfl, _, rfl, ?_⟩
        rw [bdV_non]
        cases c.bd.isNone with
        | false => exact iteF ⟨rfl, S.n2, A5, k5, htc5, htg5⟩
        | true =>
          refine iteT ⟨_, rfl, S.p, _, S.dx, _, _, rfl, A5.p, T.clS, T.nS_gone_elsewhere, shF_else, _, _, rfl, rfl, S.dx, _, A5.p, shF_len, ?_⟩
          rw [shF_put_else]
          refine ⟨rfl, S.n2 + 1, A5.obj L5 st' (S.n1 + 1) (S.n2 + 1) S.n3, fun u o e h => by rw [upd_ne h]; exact k5 u o e h, ?_, ?_⟩
          · rw [upd_ne (ne_of htc5 A5.p (by intro z; cases z))]; exact htc5
          · rw [upd_ne (ne_of htg5 A5.p (by intro z; cases z))]; exact htg5
      · rintro σ H6 ⟨rfl, n2, A6, k6, htc6, htg6⟩
        have L6 : Lay { S with st := st', n1 := S.n1 + 1, n2 := n2, n3 := S.n3 } := hL.obj st' (S.n1 + 1) n2 S.n3
        -- if goal[1] is not None: self.in_frames[goal[1]].bound = None
        refine ⟨fun σ H' => σ = [some (.ref S.p), some (.ref l), some sl, some .non, some (.ref tc), some (.int (f : Int)), some (.ref tg), some (.ref c.q)] ∧ ShAt a H' { S with m := goalM S.m k, st := st', n1 := S.n1 + 1, n2 := n2, n3 := S.n3 } ∧
          (∀ u o, H u = some o → u ≠ S.p → (∀ i c, S.m (false, i) = some c → u ≠ c.q) → H' u = some o) ∧ H' tc = some (.tup [.int (f : Int), .ref lc]) ∧ H' tg = some (.tup [.int (g : Int), bdV k]), ?_, ?_⟩
        · refine ⟨_, rfl, tg, _, _, _, rfl, rfl, SqT.of htg6, atI_nat (j := 1) rfl, rfl, _, rfl, ?_⟩
          rw [bdV_non]
          cases hk : k with
          | none => exact iteF ⟨rfl, A6, fun u o e h _ => k6 u o e h, htc6, by rw [hk] at htg6; exact htg6⟩
          | some k0 =>
            obtain ⟨ck, hck, hbk⟩ : ∃ ck, S.m (false, k0) = some ck ∧ ck.bd = some g := by
              rcases hgoal.2 with ⟨z, _⟩ | ⟨_, ⟨z, _⟩ | ⟨k1, ck, z, h1, h2⟩ | ⟨z, _⟩⟩
              · rw [hk] at z; cases z
              · rw [hk] at z; cases z
              · rw [hk] at z; cases z; exact ⟨ck, h1, h2⟩
              · rw [hk] at z; cases z
            have hk0 : k0 < S.F := hL.inb _ _ hck
            have hck6 : CellAt a.CL H6 ck := A6.cs (false, k0) ck hck
            rw [hk] at htg6
            refine iteT ⟨_, rfl, S.p, _, S.dx, _, _, rfl, A6.p, T.clS, T.nS_in_frames, shF_frames, _, rfl, tg, _, _, _, rfl, rfl, SqT.of htg6, atI_nat (j := 1) rfl, S.lf, _, _, _, rfl, rfl, SqL.of A6.lf, atI_nat (row_get hk0), ?_⟩
            rw [show optV cV (Sh.m { S with st := st', n1 := S.n1 + 1, n2 := n2, n3 := S.n3 } (false, k0)) = V.ref ck.q from by show optV cV (S.m (false, k0)) = _; rw [hck]; rfl]
            refine ⟨ck.q, _, ck.dx, _, rfl, hck6.q, T.clL, T.nL_bound, (by show 3 < 1000; decide), ?_⟩
            rw [lyF_put]
            refine ⟨rfl, ?_, fun u o e h1 h2 => by rw [upd_ne (h2 _ _ hck)]; exact k6 u o e h1, by rw [upd_ne (ne_of htc6 hck6.q (by intro z; cases z))]; exact htc6, by rw [upd_ne (ne_of htg6 hck6.q (by intro z; cases z))]; exact htg6⟩
            rw [goalM_some hck]
            refine A6.cell L6 (x := (false, k0)) (c := ck) hck (mem_adr.mpr (.inl rfl)) rfl ⟨upd_same, ?_, ?_⟩
            · rw [upd_ne (Ne.symm (hL.cn _ _ hck).1)]; exact hck6.b
            · rw [upd_ne (Ne.symm (hL.cn _ _ hck).2.1)]; exact hck6.d
        · rintro σ H7 ⟨rfl, A7, k7, htc7, htg7⟩
          have gsub : Sub (goalM S.m k) S.m := goalM_sub S.m
          have L7 : Lay { S with m := goalM S.m k, st := st', n1 := S.n1 + 1, n2 := n2, n3 := S.n3 } := (hL.sub gsub).obj st' (S.n1 + 1) n2 S.n3
          obtain ⟨cb, hcm, eq1, eq2, eq3, eq4, eq5, eq6⟩ : ∃ cb : Cell, goalM S.m k (false, f) = some cb ∧ cb.q = c.q ∧ cb.b = c.b ∧ cb.d = c.d ∧ cb.xs = c.xs ∧ cb.hs = c.hs ∧ cb.dx = c.dx := by
            cases k with
            | none => exact ⟨c, hm, rfl, rfl, rfl, rfl, rfl, rfl⟩
            | some k0 =>
              cases hck : S.m (false, k0) with
              | none => unfold goalM; simp only [hck]; exact ⟨c, hm, rfl, rfl, rfl, rfl, rfl, rfl⟩
              | some ck =>
                rw [goalM_some hck]
                by_cases e : f = k0
                · subst e
                  rw [hm] at hck
                  cases hck
                  exact ⟨_, up_same, rfl, rfl, rfl, rfl, rfl, rfl⟩
                · exact ⟨c, by rw [up_ix e]; exact hm, rfl, rfl, rfl, rfl, rfl, rfl⟩
          have hc7 : CellAt a.CL H7 cb := A7.cs (false, f) cb hcm
          have hg : g < S.G := hgoal.1
          rw [← eq1]
          -- self.in_slots[goal[0]] = Stored(leaving.boxes, leaving.held, None)
          refine ⟨_, rfl, cb.q, _, cb.dx, _, _, rfl, hc7.q, T.clL, T.nL_boxes, lyF_boxes, _, rfl, cb.q, _, cb.dx, _, _, rfl, hc7.q, T.clL, T.nL_held, lyF_held, ?_⟩
          intro x dx nx ndx nex
          refine ⟨true, x, dx, cb.b, cb.d, .non, rfl, upd_same, rfl, ?_⟩
          rw [upd_upd]
          have s8 : ∀ u o, H7 u = some o → upd (upd H7 dx (.own x)) x (.ins (clsOf a true) dx (lyF cb.b cb.d .non)) u = some o := fun u o e => by
            rw [upd_ne (ne_of_none e nx), upd_ne (ne_of_none e ndx)]; exact e
          have hx8 : upd (upd H7 dx (.own x)) x (.ins (clsOf a true) dx (lyF cb.b cb.d .non)) x = some (.ins (clsOf a true) dx (lyF cb.b cb.d .non)) := upd_same
          generalize upd (upd H7 dx (.own x)) x (.ins (clsOf a true) dx (lyF cb.b cb.d .non)) = H8 at s8 hx8
          have A8 : ShAt a H8 { S with m := goalM S.m k, st := st', n1 := S.n1 + 1, n2 := n2, n3 := S.n3 } := A7.same fun u o _ e => s8 u o e
          have hc8 := hc7.keep fun u o _ e => s8 u o e
          refine ⟨_, rfl, S.p, _, S.dx, _, _, rfl, A8.p, T.clS, T.nS_in_slots, shF_slots, _, rfl, tg, _, _, _, rfl, rfl, SqT.of (s8 _ _ htg7), atI_nat (j := 0) rfl, S.ls, _, _, g, rfl, rfl, A8.ls, (by rw [row_length]; exact ixN_nat hg), ?_⟩
          have e9 : (row cV (goalM S.m k) true S.G).set g (V.ref x) = row cV (up (goalM S.m k) (true, g) (some ({ q := x, dx := dx, b := cb.b, d := cb.d, xs := cb.xs, hs := cb.hs, bd := none } : Cell))) true S.G := row_set (f := cV) (m := goalM S.m k) (s := true) (v := some ({ q := x, dx := dx, b := cb.b, d := cb.d, xs := cb.xs, hs := cb.hs, bd := none } : Cell)) hg
          rw [show (row cV (Sh.m { S with m := goalM S.m k, st := st', n1 := S.n1 + 1, n2 := n2, n3 := S.n3 }) true (Sh.G { S with m := goalM S.m k, st := st', n1 := S.n1 + 1, n2 := n2, n3 := S.n3 })).set g (V.ref x) = _ from e9]
          have bo := L7.bs (false, f) cb hcm
          have xl : x ≠ S.p ∧ x ≠ S.lf ∧ x ≠ S.ls := ⟨Ne.symm (ne_of_none A7.p nx), Ne.symm (ne_of_none A7.lf nx), Ne.symm (ne_of_none A7.ls nx)⟩
          have A9 := A8.put' L7.off (s := true) (i := g) (some { q := x, dx := dx, b := cb.b, d := cb.d, xs := cb.xs, hs := cb.hs, bd := none }) (fun c' e => by
            cases e
            refine ⟨⟨hx8, hc8.b, hc8.d⟩, fun hu => ?_⟩
            rcases mem_adr.mp hu with z | z | z
            · exact xl.2.2 z.symm
            · exact (bo cb.b (mem_adr.mpr (.inr (.inl rfl)))).2.2 z.symm
            · exact (bo cb.d (mem_adr.mpr (.inr (.inr rfl)))).2.2 z.symm)
          have O9 : Off (({ S with m := goalM S.m k, st := st', n1 := S.n1 + 1, n2 := n2, n3 := S.n3 } : Sh).wm (up (goalM S.m k) (true, g) (some { q := x, dx := dx, b := cb.b, d := cb.d, xs := cb.xs, hs := cb.hs, bd := none }))) := by
            refine ⟨hL.pf, hL.ps, hL.fs, fun y c' e u hu => ?_⟩
            by_cases q : y = (true, g)
            · have e' : some _ = some c' := (up_same.symm.trans (by rw [q] at e; exact e))
              cases e'
              rcases mem_adr.mp hu with z | z | z
              · rw [z]; exact xl
              · rw [z]; exact bo cb.b (mem_adr.mpr (.inr (.inl rfl)))
              · rw [z]; exact bo cb.d (mem_adr.mpr (.inr (.inr rfl)))
            · exact L7.bs y c' ((up_ne q).symm.trans e) u hu
          have k9 : ∀ u o, H7 u = some o → u ≠ S.ls → upd H8 S.ls (.lst (row cV (up (goalM S.m k) (true, g) (some { q := x, dx := dx, b := cb.b, d := cb.d, xs := cb.xs, hs := cb.hs, bd := none })) true S.G)) u = some o := fun u o e h => by rw [upd_ne h]; exact s8 u o e
          have A9' : ShAt a (upd H8 S.ls (.lst (row cV (up (goalM S.m k) (true, g) (some { q := x, dx := dx, b := cb.b, d := cb.d, xs := cb.xs, hs := cb.hs, bd := none })) true S.G))) _ := A9
          generalize upd H8 S.ls (.lst (row cV (up (goalM S.m k) (true, g) (some { q := x, dx := dx, b := cb.b, d := cb.d, xs := cb.xs, hs := cb.hs, bd := none })) true S.G)) = H9 at A9' k9
          -- self.in_frames[frame] = None
          refine ⟨_, rfl, S.p, _, S.dx, _, _, rfl, A9'.p, T.clS, T.nS_in_frames, shF_frames, _, rfl, S.lf, _, _, f, rfl, rfl, A9'.lf, (by rw [row_length]; exact ixN_nat hf), ?_⟩
          have e10 : (row cV (up (goalM S.m k) (true, g) (some { q := x, dx := dx, b := cb.b, d := cb.d, xs := cb.xs, hs := cb.hs, bd := none })) false S.F).set f V.non = row cV (outM S.m f g k { q := x, dx := dx, b := cb.b, d := cb.d, xs := cb.xs, hs := cb.hs, bd := none }) false S.F := row_set (v := none) hf
          rw [show (row cV (Sh.m (({ S with m := goalM S.m k, st := st', n1 := S.n1 + 1, n2 := n2, n3 := S.n3 } : Sh).wm (up (goalM S.m k) (true, g) (some { q := x, dx := dx, b := cb.b, d := cb.d, xs := cb.xs, hs := cb.hs, bd := none })))) false (Sh.F (({ S with m := goalM S.m k, st := st', n1 := S.n1 + 1, n2 := n2, n3 := S.n3 } : Sh).wm (up (goalM S.m k) (true, g) (some { q := x, dx := dx, b := cb.b, d := cb.d, xs := cb.xs, hs := cb.hs, bd := none }))))).set f V.non = _ from e10]
          have A10 := A9'.put' O9 (s := false) (i := f) none (fun c h => nomatch h)
          have k10 : ∀ u o, H7 u = some o → u ≠ S.ls → u ≠ S.lf → upd H9 S.lf (.lst (row cV (outM S.m f g k { q := x, dx := dx, b := cb.b, d := cb.d, xs := cb.xs, hs := cb.hs, bd := none }) false S.F)) u = some o := fun u o e h1 h2 => by rw [upd_ne h2]; exact k9 u o e h1
          have A10' : ShAt a (upd H9 S.lf (.lst (row cV (outM S.m f g k { q := x, dx := dx, b := cb.b, d := cb.d, xs := cb.xs, hs := cb.hs, bd := none }) false S.F))) { S with m := outM S.m f g k { q := x, dx := dx, b := cb.b, d := cb.d, xs := cb.xs, hs := cb.hs, bd := none }, st := st', n1 := S.n1 + 1, n2 := n2 } := A10
          generalize upd H9 S.lf (.lst (row cV (outM S.m f g k { q := x, dx := dx, b := cb.b, d := cb.d, xs := cb.xs, hs := cb.hs, bd := none }) false S.F)) = H10 at A10' k10
          have nq : ∀ u, u ∈ adr cb → u ≠ S.ls ∧ u ≠ S.lf := fun u hu => ⟨(bo u hu).2.2, (bo u hu).2.1⟩
          have q10 := k10 _ _ hc7.q (nq _ (mem_adr.mpr (.inl rfl))).1 (nq _ (mem_adr.mpr (.inl rfl))).2
          have d10 := k10 _ _ hc7.d (nq _ (mem_adr.mpr (.inr (.inr rfl)))).1 (nq _ (mem_adr.mpr (.inr (.inr rfl)))).2
          have tcl : tc ≠ S.ls ∧ tc ≠ S.lf := ⟨ne_of htc7 A7.ls (by intro z; cases z), ne_of htc7 A7.lf (by intro z; cases z)⟩
          have tgl : tg ≠ S.ls ∧ tg ≠ S.lf := ⟨ne_of htg7 A7.ls (by intro z; cases z), ne_of htg7 A7.lf (by intro z; cases z)⟩
          have hf' : Few cb.hs := by rw [eq5]; exact hfew _ _ hm
          -- return (frame, choice[1], (goal[0], leaving.holder_row()))
          refine ⟨_, rfl, _, rfl, tc, _, _, _, rfl, rfl, SqT.of (k10 _ _ htc7 tcl.1 tcl.2), atI_nat (j := 1) rfl, _, rfl, tg, _, _, _, rfl, rfl, SqT.of (k10 _ _ htg7 tgl.1 tgl.2), atI_nat (j := 0) rfl, ?_⟩
          refine ⟨_, rfl, cb.q, cb.dx, _, rfl, q10, lyF_no (by decide +kernel) (by decide +kernel) (by decide +kernel), false, cb.q, cb.dx, cb.b, cb.d, _, cb.hs, rfl, q10, d10, hf', fun H11 r us s11 nr eu at11 hr11 => ?_⟩
          refine ⟨two, fun o no => ⟨three, fun t nt => ?_⟩⟩
          have s13 : Same H10 (upd (upd H11 o (.tup [.int (g : Int), .ref r])) t (.tup [.int (f : Int), .ref lc, .ref o])) := fun b oo e => by
            have e' := s11 b oo e
            have e'' : upd H11 o (.tup [.int (g : Int), .ref r]) b = some oo := by rw [upd_ne (ne_of_none e' no)]; exact e'
            rw [upd_ne (ne_of_none e'' nt)]
            exact e''
          have nto : o ≠ t := fun z => by rw [← z, upd_same] at nt; cases nt
          have nxH : H x = none := by
            cases z : H x with
            | none => rfl
            | some oo =>
              by_cases hxp : x = S.p
              · exact absurd hxp xl.1
              · by_cases hall : ∀ i c, S.m (false, i) = some c → x ≠ c.q
                · rw [k7 x oo z hxp hall] at nx; cases nx
                · exfalso
                  apply hall
                  intro i ci hci exq
                  obtain ⟨c', h', e', _⟩ : ∃ c', goalM S.m k (false, i) = some c' ∧ c'.q = ci.q ∧ True := by
                    cases k with
                    | none => exact ⟨ci, hci, rfl, trivial⟩
                    | some k0 =>
                      cases hck : S.m (false, k0) with
                      | none => unfold goalM; simp only [hck]; exact ⟨ci, hci, rfl, trivial⟩
                      | some ck =>
                        rw [goalM_some hck]
                        by_cases e : i = k0
                        · subst e
                          rw [hci] at hck
                          cases hck
                          exact ⟨_, up_same, rfl, trivial⟩
                        · exact ⟨ci, by rw [up_ix e]; exact hci, rfl, trivial⟩
                  have := (A7.cs (false, i) c' h').q
                  rw [e', ← exq, nx] at this
                  cases this
          refine kB _ t f g k c { q := x, dx := dx, b := cb.b, d := cb.d, xs := cb.xs, hs := cb.hs, bd := none } st' (S.n1 + 1) n2 he hf hm hgoal eq2 eq3 eq4 eq5 rfl nxH hst' (A10'.same fun u oo _ e => s13 u oo e) (fun u oo e h1 h2 h3 h4 => s13 u oo (k10 u oo (k7 u oo e h1 h4) h3 h2)) ⟨lc, .ref o, upd_same, o, r, rfl, ?_⟩
          rw [upd_ne nto, upd_same]
end
end Fl

set_option Elab.async false
set_option linter.all false
set_option maxRecDepth 100000
set_option maxHeartbeats 4000000
/-! What emptied, fresh, back do to the map: layout, twins, the sheets alone. -/
namespace Fl
open PySem L2
section
variable {α : Type} {m : Mp α} {x y : Spot} {v w : Option α}
theorem up_up : up (up m x v) x w = up m x w := by
  funext z
  by_cases e : z = x
  · subst e; rw [up_same, up_same]
  · rw [up_ne e, up_ne e, up_ne e]
theorem up_comm (h : x ≠ y) : up (up m x v) y w = up (up m y w) x v := by
  funext z
  by_cases e : z = x
  · subst e; rw [up_same, up_ne h, up_same]
  · by_cases e2 : z = y
    · subst e2; rw [up_same, up_ne e, up_same]
    · rw [up_ne e2, up_ne e, up_ne e, up_ne e2]
theorem up_self : up m x (m x) = m := by
  funext z
  by_cases e : z = x
  · subst e; rw [up_same]
  · rw [up_ne e]
end
theorem fs_ne {i j : Nat} : ((false, i) : Spot) ≠ (true, j) := fun e => by injection e with e _; cases e
theorem sf_ne {i j : Nat} : ((true, j) : Spot) ≠ (false, i) := fun e => by injection e with e _; cases e
theorem ix_ne {s : Bool} {i j : Nat} (h : i ≠ j) : ((s, i) : Spot) ≠ (s, j) := fun e => by injection e with _ e; exact h e
/-- the sheets alone, behind a store -/
theorem vw_up (m : Mp Cell) (x : Spot) (v : Option Cell) : vw (up m x v) = up (vw m) x (match v with | none => none | some c => if isSh x c = true then some (c.xs, c.hs) else none) := by
  funext z
  by_cases e : z = x
  · subst e
    rw [up_same]
    unfold vw
    rw [up_same]
    all_goals (cases v <;> rfl)
  · rw [up_ne e]
    unfold vw
    rw [up_ne e]
theorem vw_up_none (m : Mp Cell) (x : Spot) : vw (up m x none) = up (vw m) x none := vw_up m x none
theorem vw_up_sh (m : Mp Cell) {x : Spot} {c : Cell} (h : isSh x c = true) : vw (up m x (some c)) = up (vw m) x (some (c.xs, c.hs)) := by
  rw [vw_up]
  show up (vw m) x (if isSh x c = true then some (c.xs, c.hs) else none) = _
  rw [if_pos h]
theorem vw_up_tw (m : Mp Cell) {x : Spot} {c : Cell} (h : isSh x c = false) : vw (up m x (some c)) = up (vw m) x none := by
  rw [vw_up]
  show up (vw m) x (if isSh x c = true then some (c.xs, c.hs) else none) = _
  rw [if_neg (by rw [h]; exact Bool.false_ne_true)]
section
variable {m : Mp Cell} {S : Sh} {c c2 ck : Cell} {k : Option Nat} {f g : Nat} {sl : V}
theorem vw_goal : vw (goalM m k) = vw m := by
  cases k with
  | none => rfl
  | some k0 =>
    cases h : m (false, k0) with
    | none => unfold goalM; simp only [h]
    | some ck =>
      rw [goalM_some h, vw_up_sh m isSh_frame]
      have e : vw m (false, k0) = some (ck.xs, ck.hs) := vw_sh h isSh_frame
      show up (vw m) (false, k0) (some (ck.xs, ck.hs)) = vw m
      rw [← e, up_self]
theorem vw_out (hm : m (false, f) = some c) (ex : c2.xs = c.xs) (eh : c2.hs = c.hs) (eb : c2.bd = none) : vw (outM m f g k c2) = up (up (vw m) (true, g) (vw m (false, f))) (false, f) none := by
  unfold outM
  rw [vw_up_none, vw_up_sh _ (by rw [isSh_slot, eb]; rfl), vw_goal, vw_sh hm isSh_frame, ex, eh]
theorem out_lay (L : Lay S) (hm : S.m (false, f) = some c) (eb : c2.b = c.b) (ed : c2.d = c.d) (hq : ¬ Reg S c2.q) (hg : g < S.G) : Lay (S.wm (outM S.m f g k c2)) := by
  have sub : Sub (up (up (goalM S.m k) (false, f) none) (true, g) none) S.m := Sub.trans Sub.none (Sub.trans Sub.none (goalM_sub S.m))
  have L3 := L.sub sub
  have hb : c2.b ∈ adr c := mem_adr.mpr (.inr (.inl eb))
  have hd : c2.d ∈ adr c := mem_adr.mpr (.inr (.inr ed))
  have rb : Reg S c2.b := Reg.cell hm hb
  have rd : Reg S c2.d := Reg.cell hm hd
  have fin := L3.add (c := c2) (x := (true, g)) up_same hg ⟨fun e => hq (by rw [e]; exact rb), fun e => hq (by rw [e]; exact rd), by rw [eb, ed]; exact (L.cn _ _ hm).2.2⟩ (fun u hu => by
    rcases mem_adr.mp hu with z | z | z
    · subst z
      exact ⟨fun e => hq (.inl e), fun e => hq (.inr (.inl e)), fun e => hq (.inr (.inr (.inl e)))⟩
    · subst z; exact L.bs _ _ hm _ hb
    · subst z; exact L.bs _ _ hm _ hd) (fun y c' h u hu hu' => by
    have h : up (up (goalM S.m k) (false, f) none) (true, g) none y = some c' := h
    have n1 : y ≠ (true, g) := fun e => by rw [e, up_same] at h; cases h
    rw [up_ne n1] at h
    have n2 : y ≠ (false, f) := fun e => by rw [e, up_same] at h; cases h
    rw [up_ne n2] at h
    obtain ⟨c0, h0, z0⟩ := goalM_sub S.m y c' h
    rw [adr_eq z0] at hu'
    rcases mem_adr.mp hu with z | z | z
    · subst z; exact hq (Reg.cell h0 hu')
    · subst z; exact L.dj _ _ _ _ hm h0 (Ne.symm n2) _ hb hu'
    · subst z; exact L.dj _ _ _ _ hm h0 (Ne.symm n2) _ hd hu')
  have e : up (up (up (goalM S.m k) (false, f) none) (true, g) none) (true, g) (some c2) = outM S.m f g k c2 := by
    unfold outM
    rw [up_up, up_comm fs_ne]
  have fin' : Lay (S.wm (up (up (up (goalM S.m k) (false, f) none) (true, g) none) (true, g) (some c2))) := fin
  rw [e] at fin'
  exact fin'
theorem goal_frame (hk : ∀ k0, k = some k0 → ∃ ck, m (false, k0) = some ck) {i : Nat} {ci : Cell} (h : goalM m k (false, i) = some ci) : (k = some i ∧ ci.bd = none) ∨ (k ≠ some i ∧ m (false, i) = some ci) := by
  cases k with
  | none => exact .inr ⟨(fun e => nomatch e), h⟩
  | some k0 =>
    obtain ⟨ck, hck⟩ := hk k0 rfl
    rw [goalM_some hck] at h
    by_cases e : i = k0
    · subst e
      rw [up_same] at h
      cases h
      exact .inl ⟨rfl, rfl⟩
    · rw [up_ix e] at h
      exact .inr ⟨fun q => e (Option.some.inj q).symm, h⟩
theorem goal_slot {j : Nat} : goalM m k (true, j) = m (true, j) := by
  cases k with
  | none => rfl
  | some k0 =>
    cases h : m (false, k0) with
    | none => unfold goalM; simp only [h]
    | some ck => rw [goalM_some h, up_side (by decide)]
theorem out_twin (W : Twin S.m) (hm : S.m (false, f) = some c) (hg : GoalOk S c sl g k) (eb : c2.bd = none) : Twin (outM S.m f g k c2) := by
  have hk : ∀ k0, k = some k0 → ∃ ck, S.m (false, k0) = some ck ∧ ck.bd = some g := by
    intro k0 e
    rcases hg.2 with ⟨z, _⟩ | ⟨_, ⟨z, _⟩ | ⟨k1, ck, z, h1, h2⟩ | ⟨z, _⟩⟩
    · rw [e] at z; cases z
    · rw [e] at z; cases z
    · rw [e] at z; cases z; exact ⟨ck, h1, h2⟩
    · rw [e] at z; cases z
  have hk' : ∀ k0, k = some k0 → ∃ ck, S.m (false, k0) = some ck := fun k0 e => let ⟨ck, h, _⟩ := hk k0 e; ⟨ck, h⟩
  refine ⟨fun i ci j h e => ?_, fun j c' i h e => ?_⟩
  · unfold outM at h
    have nf : i ≠ f := fun q => by subst q; rw [up_same] at h; cases h
    rw [up_ix nf, up_side (by decide)] at h
    rcases goal_frame hk' h with ⟨_, z⟩ | ⟨nk, h0⟩
    · rw [z] at e; cases e
    · obtain ⟨c', h1, h2, h3, h4⟩ := W.tw1 i ci j h0 e
      have njg : j ≠ g := fun q => by
        subst q
        rcases hg.2 with ⟨_, z⟩ | ⟨_, ⟨_, z⟩ | ⟨k1, ck, z, hck, hbk⟩ | ⟨_, _, z⟩⟩
        · obtain ⟨c0, q1, q2, _⟩ := W.tw1 f c j hm z
          rw [h1] at q1
          cases q1
          rw [h2] at q2
          exact nf (Option.some.inj q2)
        · rw [h1] at z; cases z
        · obtain ⟨c0, q1, q2, _⟩ := W.tw1 k1 ck j hck hbk
          rw [h1] at q1
          cases q1
          rw [h2] at q2
          have := Option.some.inj q2
          subst this
          exact nk z
        · rw [z i ci h0] at e; cases e
      refine ⟨c', ?_, h2, h3, h4⟩
      unfold outM
      rw [up_side (by decide), up_ix njg, goal_slot]
      exact h1
  · unfold outM at h
    rw [up_side (by decide)] at h
    by_cases q : j = g
    · subst q
      rw [up_same] at h
      cases h
      rw [eb] at e
      cases e
    · rw [up_ix q, goal_slot] at h
      obtain ⟨c0, h0, e0⟩ := W.tw2 j c' i h e
      have nif : i ≠ f := fun z => by
        subst z
        rw [hm] at h0
        cases h0
        rcases hg.2 with ⟨_, z⟩ | ⟨z, _⟩
        · rw [z] at e0; exact q (Option.some.inj e0).symm
        · rw [z] at e0; cases e0
      have nik : k ≠ some i := fun z => by
        obtain ⟨ck, h1, h2⟩ := hk i z
        rw [h0] at h1
        cases h1
        rw [e0] at h2
        exact q (Option.some.inj h2)
      refine ⟨c0, ?_, e0⟩
      unfold outM
      rw [up_ix nif, up_side (by decide)]
      cases k with
      | none => exact h0
      | some k0 =>
        obtain ⟨ck, hck⟩ := hk' k0 rfl
        rw [goalM_some hck, up_ix (fun z => nik (by rw [z]))]
        exact h0
theorem twin_add (W : Twin m) (hf : m (false, f) = none) (eb : c.bd = none) : Twin (up m (false, f) (some c)) := by
  refine ⟨fun i ci j h e => ?_, fun j c' i h e => ?_⟩
  · by_cases q : i = f
    · subst q; rw [up_same] at h; cases h; rw [eb] at e; cases e
    · rw [up_ix q] at h
      obtain ⟨c', h1, r⟩ := W.tw1 i ci j h e
      exact ⟨c', by rw [up_side (by decide)]; exact h1, r⟩
  · rw [up_side (by decide)] at h
    obtain ⟨c0, h0, e0⟩ := W.tw2 j c' i h e
    refine ⟨c0, ?_, e0⟩
    rw [up_ix (fun z => by subst z; rw [hf] at h0; cases h0)]
    exact h0
/-- a sheet is brought back: the slot s is its frame's twin -/
theorem twin_back {s : Nat} {cc : Cell} (W : Twin m) (hf : m (false, f) = none) (hs : m (true, s) = some cc) (hb : cc.bd = none) (e1 : c.bd = some s) (e2 : c2.bd = some f) (ex : c2.xs = c.xs) (eh : c2.hs = []) :
    Twin (up (up m (true, s) (some c2)) (false, f) (some c)) := by
  refine ⟨fun i ci j h e => ?_, fun j c' i h e => ?_⟩
  · by_cases q : i = f
    · subst q
      rw [up_same] at h
      cases h
      rw [e1] at e
      have := Option.some.inj e
      subst this
      exact ⟨c2, by rw [up_side (by decide), up_same], e2, ex, eh⟩
    · rw [up_ix q, up_side (by decide)] at h
      obtain ⟨c', h1, h2, r⟩ := W.tw1 i ci j h e
      have nj : j ≠ s := fun z => by subst z; rw [hs] at h1; cases h1; rw [hb] at h2; cases h2
      exact ⟨c', by rw [up_side (by decide), up_ix nj]; exact h1, h2, r⟩
  · rw [up_side (by decide)] at h
    by_cases q : j = s
    · subst q
      rw [up_same] at h
      cases h
      rw [e2] at e
      have := Option.some.inj e
      subst this
      exact ⟨c, up_same, e1⟩
    · rw [up_ix q] at h
      obtain ⟨c0, h0, e0⟩ := W.tw2 j c' i h e
      refine ⟨c0, ?_, e0⟩
      rw [up_ix (fun z => by subst z; rw [hf] at h0; cases h0), up_side (by decide)]
      exact h0
theorem untw_twin (W : Twin m) {i : Nat} (hm : m (false, i) = some c) : Twin (untwM m i) := by
  cases e : c.bd with
  | none => rw [untw_none hm e]; exact W
  | some j =>
    rw [untw_some hm e]
    obtain ⟨c0, h0, b0, _⟩ := W.tw1 i c j hm e
    refine ⟨fun i' ci j' h e' => ?_, fun j' c' i' h e' => ?_⟩
    · by_cases q : i' = i
      · subst q; rw [up_same] at h; cases h; cases e'
      · rw [up_ix q, up_side (by decide)] at h
        obtain ⟨c', h1, h2, r⟩ := W.tw1 i' ci j' h e'
        have nj : j' ≠ j := fun z => by subst z; rw [h0] at h1; cases h1; rw [b0] at h2; exact q (Option.some.inj h2).symm
        exact ⟨c', by rw [up_side (by decide), up_ix nj]; exact h1, h2, r⟩
    · rw [up_side (by decide)] at h
      have nj : j' ≠ j := fun z => by subst z; rw [up_same] at h; cases h
      rw [up_ix nj] at h
      obtain ⟨c1, h1, e1⟩ := W.tw2 j' c' i' h e'
      have ni : i' ≠ i := fun z => by subst z; rw [hm] at h1; cases h1; rw [e] at e1; exact nj (Option.some.inj e1).symm
      exact ⟨c1, by rw [up_ix ni, up_side (by decide)]; exact h1, e1⟩
theorem untw_vw (W : Twin m) {i : Nat} (hm : m (false, i) = some c) : vw (untwM m i) = vw m := by
  cases e : c.bd with
  | none => rw [untw_none hm e]
  | some j =>
    rw [untw_some hm e, vw_up_sh _ isSh_frame, vw_up_none]
    obtain ⟨c0, h0, b0, _⟩ := W.tw1 i c j hm e
    have e1 : vw m (true, j) = none := vw_tw h0 (by rw [isSh_slot, b0]; rfl)
    have e2 : vw m (false, i) = some (c.xs, c.hs) := vw_sh hm isSh_frame
    show up (up (vw m) (true, j) none) (false, i) (some (c.xs, c.hs)) = vw m
    have e3 : up (vw m) (true, j) none = vw m := by rw [← e1, up_self]
    rw [e3, ← e2, up_self]
theorem untw_at (W : Twin m) {i : Nat} (hm : m (false, i) = some c) : untwM m i (false, i) = some { c with bd := none } := by
  cases e : c.bd with
  | none =>
    rw [untw_none hm e, hm]
    congr 1
    cases c
    simp only at e
    subst e
    rfl
  | some j => rw [untw_some hm e, up_same]
theorem clr_twin (W : Twin m) {x : Spot} (hm : m x = some c) (hs : isSh x c = true) : Twin (clrM m x) := by
  obtain ⟨s, i⟩ := x
  unfold clrM
  cases s with
  | true =>
    have eb : c.bd = none := by rw [isSh_slot] at hs; simpa using hs
    show Twin (up m (true, i) none)
    refine ⟨fun i' ci j' h e' => ?_, fun j' c' i' h e' => ?_⟩
    · rw [up_side (by decide)] at h
      obtain ⟨c', h1, h2, r⟩ := W.tw1 i' ci j' h e'
      have nj : j' ≠ i := fun z => by subst z; rw [hm] at h1; cases h1; rw [eb] at h2; cases h2
      exact ⟨c', by rw [up_ix nj]; exact h1, h2, r⟩
    · have nj : j' ≠ i := fun z => by subst z; rw [up_same] at h; cases h
      rw [up_ix nj] at h
      obtain ⟨c1, h1, e1⟩ := W.tw2 j' c' i' h e'
      exact ⟨c1, by rw [up_side (by decide)]; exact h1, e1⟩
  | false =>
    show Twin (up (untwM m i) (false, i) none)
    have W1 := untw_twin W hm
    have ha := untw_at W hm
    generalize untwM m i = m1 at W1 ha
    refine ⟨fun i' ci j' h e' => ?_, fun j' c' i' h e' => ?_⟩
    · have ni : i' ≠ i := fun z => by subst z; rw [up_same] at h; cases h
      rw [up_ix ni] at h
      obtain ⟨c', h1, h2, r⟩ := W1.tw1 i' ci j' h e'
      exact ⟨c', by rw [up_side (by decide)]; exact h1, h2, r⟩
    · rw [up_side (by decide)] at h
      obtain ⟨c1, h1, e1⟩ := W1.tw2 j' c' i' h e'
      have ni : i' ≠ i := fun z => by subst z; rw [ha] at h1; cases h1; cases e1
      exact ⟨c1, by rw [up_ix ni]; exact h1, e1⟩
theorem clr_vw (W : Twin m) {x : Spot} (hm : m x = some c) : vw (clrM m x) = up (vw m) x none := by
  obtain ⟨s, i⟩ := x
  unfold clrM
  rw [vw_up_none]
  cases s with
  | true => rfl
  | false =>
    show up (vw (untwM m i)) (false, i) none = up (vw m) (false, i) none
    rw [untw_vw W hm]
/-- the same cell with other holders -/
theorem twin_hs (W : Twin m) {x : Spot} (hm : m x = some c) (hs : isSh x c = true) (hh : List Hd) : Twin (up m x (some { c with hs := hh })) := by
  obtain ⟨s, i⟩ := x
  refine ⟨fun i' ci j' h e' => ?_, fun j' c' i' h e' => ?_⟩
  · obtain ⟨c0, h0, b0, x0⟩ : ∃ c0, m (false, i') = some c0 ∧ c0.bd = ci.bd ∧ c0.xs = ci.xs := by
      by_cases q : ((false, i') : Spot) = (s, i)
      · rw [q] at h ⊢; rw [up_same] at h; cases h; exact ⟨c, hm, rfl, rfl⟩
      · rw [up_ne q] at h; exact ⟨ci, h, rfl, rfl⟩
    obtain ⟨c', h1, h2, h3, h4⟩ := W.tw1 i' c0 j' h0 (by rw [b0]; exact e')
    refine ⟨c', ?_, h2, by rw [h3, x0], h4⟩
    rw [up_ne (fun q => ?_)]
    · exact h1
    · rw [q, hm] at h1
      cases h1
      cases s with
      | true => rw [isSh_slot, h2] at hs; cases hs
      | false => injection q with q _; cases q
  · obtain ⟨h0, ns⟩ : m (true, j') = some c' ∧ ((true, j') : Spot) ≠ (s, i) := by
      by_cases q : ((true, j') : Spot) = (s, i)
      · exfalso
        rw [q, up_same] at h
        cases h
        injection q with q1 q2
        subst q1
        rw [isSh_slot] at hs
        have e2 : c.bd = some i' := e'
        rw [e2] at hs
        cases hs
      · rw [up_ne q] at h; exact ⟨h, q⟩
    obtain ⟨c1, h1, e1⟩ := W.tw2 j' c' i' h0 e'
    by_cases q : ((false, i') : Spot) = (s, i)
    · rw [q, hm] at h1
      cases h1
      exact ⟨{ c with hs := hh }, by rw [q, up_same], e1⟩
    · exact ⟨c1, by rw [up_ne q]; exact h1, e1⟩
end
end Fl

set_option Elab.async false
set_option linter.all false
set_option maxRecDepth 100000
set_option maxHeartbeats 4000000
/-! emptied once more; fresh. -/
namespace Fl
open PySem L2
structure Like (S S' : Sh) : Prop where
  p : S'.p = S.p
  lf : S'.lf = S.lf
  ls : S'.ls = S.ls
  F : S'.F = S.F
  G : S'.G = S.G
  st : S.st < S.F → S'.st < S'.F
theorem Like.trans {S S1 S2 : Sh} (a : Like S S1) (b : Like S1 S2) : Like S S2 := ⟨b.p.trans a.p, b.lf.trans a.lf, b.ls.trans a.ls, b.F.trans a.F, b.G.trans a.G, fun h => b.st (a.st h)⟩
theorem Like.refl {S : Sh} : Like S S := ⟨rfl, rfl, rfl, rfl, rfl, fun h => h⟩
theorem Like.sz {S S' : Sh} (l : Like S S') (s : Bool) : sz S' s = sz S s := by cases s; exact l.F; exact l.G
def outV {β : Type} (v : Mp β) (f : Nat) : Option Nat → Mp β
  | none => v
  | some g => up (up v (true, g) (v (false, f))) (false, f) none
/-- the law's own move -/
def lawMv {β : Type} (v : Mp β) (f : Nat) (out : Option Nat) (one : β) : Mp β := up (match out with | none => v | some g => up v (true, g) (v (false, f))) (false, f) (some one)
theorem lawMv_out {β : Type} (v : Mp β) (f : Nat) (out : Option Nat) (one : β) : up (outV v f out) (false, f) (some one) = lawMv v f out one := by
  cases out with
  | none => rfl
  | some g => show up (up (up v (true, g) (v (false, f))) (false, f) none) (false, f) (some one) = _; rw [up_up]; rfl
structure Emp (a : Ad) (S S1 : Sh) (H H1 : Hp) (t : Addr) (f : Nat) (out : Option Nat) : Prop where
  like : Like S S1
  at_ : ShAt a H1 S1
  lay : Lay S1
  tw : Twin S1.m
  ff : f < S.F
  fn : S1.m (false, f) = none
  vw : vw S1.m = outV (vw S.m) f out
  fr : Fr S S1 H H1
  fo : FoundAt H1 t f out
  gg : ∀ g, out = some g → g < S.G
  sl : ∀ s cc, S.m (true, s) = some cc → CellAt a.CT H1 cc ∧ (out ≠ some s → S1.m (true, s) = some cc) ∧ (out = some s → ∀ y c', S1.m y = some c' → ∀ u, u ∈ adr cc → u ∉ adr c')
def spEmp2 (a : Ad) : Sp := fun vs H Q _ => ∃ (S : Sh) (l : Addr) (bs : List Bool) (sl : V), vs = [.ref S.p, .ref l, sl] ∧ ShAt a H S ∧ Lay S ∧ Twin S.m ∧ H l = some (.lst (bs.map V.bl)) ∧ bs.length = S.F ∧ S.F ≤ 64 ∧ S.st < S.F ∧ ¬ Reg S l ∧ (∀ x c, S.m x = some c → Few c.hs) ∧
  (fstE S.m false S.F = none → Roomy S sl) ∧ ∀ (H1 : Hp) (S1 : Sh) (t f : Nat) (out : Option Nat), Emp a S S1 H H1 t f out → Q (.ref t) H1
theorem out_adr {m : Mp Cell} {k : Option Nat} {f g : Nat} {c2 : Cell} {y : Spot} {c' : Cell} (h : outM m f g k c2 y = some c') : (y = (true, g) ∧ c' = c2) ∨ (y ≠ (true, g) ∧ y ≠ (false, f) ∧ ∃ c0, m y = some c0 ∧ adr c' = adr c0) := by
  unfold outM at h
  have n2 : y ≠ (false, f) := fun e => by rw [e, up_same] at h; cases h
  rw [up_ne n2] at h
  by_cases e : y = (true, g)
  · subst e
    rw [up_same] at h
    cases h
    exact .inl ⟨rfl, rfl⟩
  · rw [up_ne e] at h
    obtain ⟨c0, h0, z⟩ := goalM_sub m y c' h
    exact .inr ⟨e, n2, c0, h0, adr_eq z⟩
theorem emp2_imp {a : Ad} (vs : List V) (H : Hp) (Q : VK) (E : XK) (h : spEmp2 a vs H Q E) : spEmptied a vs H Q E := by
  obtain ⟨S, l, bs, sl, rfl, hS, hL, hT, hl, hlen, h64, hst, hnl, hfew, hroom, k⟩ := h
  refine ⟨S, l, bs, sl, rfl, hS, hL, hT, hl, hlen, h64, hst, hnl, hfew, hroom, fun H' t f he s1 fo => ?_, fun H' t f g kk c c2 st' n1 n2 he hf hm hgoal eb ed ex eh ebd nq hst' A keep fo => ?_⟩
  · obtain ⟨hf, hn⟩ := fstE_some he
    refine k H' S t f none ⟨Like.refl, hS.same fun u o _ e => s1 u o e, hL, hT, hf, hn, rfl, Fr.same s1 fun _ r => r, fo, fun g z => (nomatch z), fun s cc hcc => ⟨(hS.cs _ _ hcc).keep fun u o _ e => s1 u o e, fun _ => hcc, fun z => (nomatch z)⟩⟩
  · have nR : ¬ Reg S c2.q := fun r => by
      obtain ⟨o, ho⟩ := hS.there r
      rw [nq] at ho
      cases ho
    have hg : g < S.G := hgoal.1
    have L1 := (out_lay (k := kk) hL hm eb ed nR hg).obj st' n1 n2 S.n3
    have notq : ∀ u o, H u = some o → ¬ Reg S u → H' u = some o := fun u o e n => keep u o e (fun z => n (.inl z)) (fun z => n (.inr (.inl z))) (fun z => n (.inr (.inr (.inl z)))) fun i ci hci z => n (Reg.cell hci (mem_adr.mpr (.inl z)))
    refine k H' { S with m := outM S.m f g kk c2, st := st', n1 := n1, n2 := n2 } t f (some g) ⟨⟨rfl, rfl, rfl, rfl, rfl, fun _ => hst'⟩, A, L1, out_twin hT hm hgoal ebd, hf, up_same, vw_out hm ex eh ebd, ⟨notq, fun u r => ?_⟩, fo, fun g' z => by cases z; exact hg, fun s cc hcc => ⟨?_, fun hs => ?_, fun hs y c' h u hu => ?_⟩⟩
    · rcases r with e | e | e | ⟨y, c', h, hu⟩
      · exact .inl (.inl e)
      · exact .inl (.inr (.inl e))
      · exact .inl (.inr (.inr (.inl e)))
      · rcases out_adr h with ⟨_, e⟩ | ⟨_, _, c0, h0, e⟩
        · subst e
          rcases mem_adr.mp hu with z | z | z
          · exact .inr (by rw [z]; exact nq)
          · exact .inl (Reg.cell hm (mem_adr.mpr (.inr (.inl (z.trans eb)))))
          · exact .inl (Reg.cell hm (mem_adr.mpr (.inr (.inr (z.trans ed)))))
        · rw [e] at hu
          exact .inl (Reg.cell h0 hu)
    · refine (hS.cs _ _ hcc).keep fun u o hu e => ?_
      have b := hL.bs _ _ hcc u hu
      exact keep u o e b.1 b.2.1 b.2.2 fun i ci hci z => hL.dj _ _ _ _ hcc hci sf_ne u hu (by rw [z]; exact mem_adr.mpr (.inl rfl))
    · have ng : s ≠ g := fun z => hs (by rw [z])
      show outM S.m f g kk c2 (true, s) = some cc
      unfold outM
      rw [up_side (by decide), up_ix ng, goal_slot]
      exact hcc
    · cases hs
      rcases out_adr h with ⟨_, e⟩ | ⟨n1, _, c0, h0, e⟩
      · subst e
        intro hu'
        rcases mem_adr.mp hu' with z | z | z
        · subst z; exact nR (Reg.cell hcc hu)
        · rw [z, eb] at hu
          exact hL.dj _ _ _ _ hm hcc fs_ne _ (mem_adr.mpr (.inr (.inl rfl))) hu
        · rw [z, ed] at hu
          exact hL.dj _ _ _ _ hm hcc fs_ne _ (mem_adr.mpr (.inr (.inr rfl))) hu
      · rw [e]
        exact hL.dj _ _ _ _ hcc h0 (Ne.symm n1) u hu
theorem cnt_all {β : Type} {v : Mp β} {s : Bool} : ∀ {n : Nat}, (∀ i, i < n → (v (s, i)).isSome = true) → cnt v s n = n
  | 0, _ => rfl
  | n + 1, h => by rw [cnt_succ, cnt_all fun i hi => h i (by omega), if_pos (h n (by omega))]
theorem cnt_less {β : Type} {v : Mp β} {s : Bool} : ∀ {n : Nat}, cnt v s n < n → ∃ i, i < n ∧ v (s, i) = none
  | 0, h => absurd h (Nat.not_lt_zero _)
  | n + 1, h => by
    rw [cnt_succ] at h
    cases e : v (s, n) with
    | none => exact ⟨n, by omega, e⟩
    | some p =>
      rw [e, if_pos (show (some p).isSome = true from rfl)] at h
      obtain ⟨i, hi, h'⟩ := cnt_less (v := v) (s := s) (n := n) (by omega)
      exact ⟨i, by omega, h'⟩
theorem roomy_of {S : Sh} (h : cnt (vw S.m) false S.F + cnt (vw S.m) true S.G < S.F + S.G) (sl : V) : fstE S.m false S.F = none → Roomy S sl := fun he => by
  have full := fstE_none he
  have e : cnt (vw S.m) false S.F = S.F := cnt_all fun i hi => by
    obtain ⟨c, hc⟩ := full i hi
    rw [vw_sh hc isSh_frame]
    rfl
  exact .inr (cnt_less (by omega))
def spFresh (a : Ad) : Sp := fun vs H Q E => ∃ (S : Sh) (lx g l : Addr) (xs : List Int) (h : Hd) (bs : List Bool), vs = [.ref S.p, .ref lx, .ref g, .ref l] ∧ ShAt a H S ∧ Lay S ∧ Twin S.m ∧ H l = some (.lst (bs.map V.bl)) ∧ bs.length = S.F ∧ S.F ≤ 64 ∧ S.st < S.F ∧ ¬ Reg S l ∧ (∀ x c, S.m x = some c → Few c.hs) ∧
  H lx = some (.lst (xs.map V.int)) ∧ ¬ Reg S lx ∧ xs.length ≤ 64 ∧ AtHd H (g, h) ∧
  (S.F + S.G ≤ cnt (vw S.m) false S.F + cnt (vw S.m) true S.G → E (.ref a.CN) none H) ∧
  (cnt (vw S.m) false S.F + cnt (vw S.m) true S.G < S.F + S.G → ∀ (H' : Hp) (S' : Sh) (t f : Nat) (out : Option Nat), Like S S' → ShAt a H' S' → Lay S' → Twin S'.m → f < S.F → (∀ g, out = some g → g < S.G) → vw S'.m = lawMv (vw S.m) f out (xs, [h]) → Fr S S' H H' → FoundAt H' t f out → Q (.ref t) H')
section
variable {P : Program} {w : World} {K : PySem.W.Frag} {mg : Str → Option Value} {base : Heap} {a : Ad}
theorem ok_emp2 (T : Top K mg a) : FnOk P w K mg base CX0 3 a.fEmptied a.dEmptied ["self", "marks", "slot"] (spEmp2 a) := (ok_emptied T).imp emp2_imp
/-- a new cell goes into the empty frame f -/
theorem into_frame {S S1 : Sh} {H H1 H2 : Hp} {f : Nat} {c : Cell} (A : ShAt a H1 S1) (L : Lay S1) (hf : f < S1.F) (hn : S1.m (false, f) = none) (fr : Fr S S1 H H1) (k : ∀ u o, H1 u = some o → H2 u = some o) (hc : CellAt a.CL H2 c) (cn : c.q ≠ c.b ∧ c.q ≠ c.d ∧ c.b ≠ c.d)
    (cb : ∀ u, u ∈ adr c → (H1 u = none ∨ ((Reg S u ∨ H u = none) ∧ ¬ Reg S1 u))) :
    ShAt a (upd H2 S1.lf (.lst (row cV (up S1.m (false, f) (some c)) false S1.F))) (S1.wm (up S1.m (false, f) (some c))) ∧ Lay (S1.wm (up S1.m (false, f) (some c))) ∧ Fr S (S1.wm (up S1.m (false, f) (some c))) H (upd H2 S1.lf (.lst (row cV (up S1.m (false, f) (some c)) false S1.F))) := by
  have A2 : ShAt a H2 S1 := A.same fun u o _ e => k u o e
  have nR : ∀ u, u ∈ adr c → ¬ Reg S1 u := fun u hu r => by
    rcases cb u hu with z | z
    · obtain ⟨o, ho⟩ := A.there r
      rw [z] at ho
      cases ho
    · exact z.2 r
  have nS : ∀ u o, H u = some o → ¬ Reg S u → ¬ Reg S1 u := fun u o e n r => by
    rcases fr.new u r with z | z
    · exact n z
    · rw [e] at z; cases z
  refine ⟨A2.put L (s := false) (some c) (fun c' e => by cases e; exact ⟨hc, fun hu => nR _ hu (.inr (.inl rfl))⟩), L.add hn hf cn (fun u hu => ⟨fun e => nR u hu (.inl e), fun e => nR u hu (.inr (.inl e)), fun e => nR u hu (.inr (.inr (.inl e)))⟩) (fun y c' h u hu hu' => nR u hu (Reg.cell h hu')), fun u o e n => ?_, fun u r => ?_⟩
  · rw [upd_ne (fun z => nS u o e n (.inr (.inl z)))]
    exact k u o (fr.keep u o e n)
  · rcases r with e | e | e | ⟨y, c', h, hu⟩
    · exact fr.new u (.inl e)
    · exact fr.new u (.inr (.inl e))
    · exact fr.new u (.inr (.inr (.inl e)))
    · have h : up S1.m (false, f) (some c) y = some c' := h
      by_cases q : y = (false, f)
      · rw [q, up_same] at h
        cases h
        rcases cb u hu with z | z
        · by_cases n : Reg S u
          · exact .inl n
          · cases e : H u with
            | none => exact .inr rfl
            | some o => rw [fr.keep u o e n] at z; cases z
        · exact z.1
      · rw [up_ne q] at h
        exact fr.new u (Reg.cell h hu)
theorem ok_fresh (T : Top K mg a) : FnOk P w K mg base (L2.CX P w) 4 a.fFresh a.dFresh ["self", "sheet", "holder", "marks"] (spFresh a) := by
  have GL : FnOk P w K mg base CX0 3 a.fLive a.dLive ["self"] (spLive a) := ok_live T
  have GE : FnOk P w K mg base CX0 3 a.fEmptied a.dEmptied ["self", "marks", "slot"] (spEmp2 a) := ok_emp2 T
  have GI : FnOk P w K mg base CX0 1 a.fLyInit a.dLyInit ["self", "boxes", "held", "bound"] (spLyInit a) := ok_lyInit T
  refine T.FFresh.okX scFresh (fun vs H Q E h => ?_) (fun cdv A outer s H vs Q E hr h => ?_)
  · obtain ⟨S, lx, g, l, xs, h, bs, rfl, _⟩ := h
    rfl
  · obtain ⟨S, lx, g, l, xs, h, bs, rfl, hS, hL, hT, hl, hlen, h64, hst, hnl, hfew, hx, hnx, hx64, hg, kE, kQ⟩ := h
    have hr2 : Room 2 _ := hr.mono (by decide)
    refine ⟨_, pss_cons (ps_if (pt_cmpR op_ge (pe_meth0 (pv 0) T.clS T.mLive GL hr T.bLive .nil pass0) (pe_op op_add (pe_callB call_len_seq (by rfl) T.zlen PySem.boot_len (pa_cons (pe_fld (pv 0) rfl) pa_nil)) (pe_callB call_len_seq (by rfl) T.zlen PySem.boot_len (pa_cons (pe_fld (pv 0) rfl) pa_nil))) (nomark _))
        (pss_one (ps_raise rfl (takes_of rfl rfl rfl rfl) (pmk_own PySem.F.excBase_ValueError T.xN T.gN T.kN (raises_own T.bN T.tN) rfl))) pss_nil)
      (pss_cons (ps_set (i := 4) scFresh.nd rfl (.inl rfl) (pe_meth (pv 0) T.clS T.mEmptied GE hr T.bEmptied .nil pass0 (pa_cons (pv 3) (pa_cons pe_non pa_nil))))
      (pss_cons (ps_asg (pe_make (T.mkC false) GI hr2 rfl T.mgL T.bLyInit .nil pass0 (pa_cons (pe_callTy call_list_of (by rfl) T.zlist (by decide +kernel) (pa_cons (pv 1) pa_nil)) (pa_cons (pe_disp1T (hu_of hr) (pv 2) pe_bl) (pa_cons pe_non pa_nil)))) (pg_sub (pe_fld (pv 0) rfl) (pe_ix ix_tup (pv 4) pe_int (fun _ _ => rfl)) set_list))
      (pss_one (ps_ret (pv 4))))), ?_⟩
    refine ⟨_, rfl, S.p, S.dx, _, rfl, hS.p, shF_no (by decide +kernel), S, rfl, hS, ?_⟩
    refine ⟨_, rfl, S.p, _, S.dx, _, _, rfl, hS.p, T.clS, T.nS_in_frames, shF_frames, S.lf, _, rfl, .inl (SqL.of hS.lf), _, rfl, S.p, _, S.dx, _, _, rfl, hS.p, T.clS, T.nS_in_slots, shF_slots, S.ls, _, rfl, .inl (SqL.of hS.ls), _, _, rfl, rfl, _, _, rfl, rfl, _, rfl, ?_⟩
    rw [row_length, row_length]
    by_cases hc : S.F + S.G ≤ cnt (vw S.m) false S.F + cnt (vw S.m) true S.G
    · rw [decide_eq_true (by omega : ((S.F : Nat) : Int) + ((S.G : Nat) : Int) ≤ ((cnt (vw S.m) false S.F + cnt (vw S.m) true S.G : Nat) : Int))]
      exact iteT (kE hc)
    · rw [decide_eq_false (by omega : ¬ ((S.F : Nat) : Int) + ((S.G : Nat) : Int) ≤ ((cnt (vw S.m) false S.F + cnt (vw S.m) true S.G : Nat) : Int))]
      refine iteF ?_
      have hc' : cnt (vw S.m) false S.F + cnt (vw S.m) true S.G < S.F + S.G := by omega
      refine ⟨_, rfl, S.p, S.dx, _, rfl, hS.p, shF_no (by decide +kernel), _, rfl, S, l, bs, .non, rfl, hS, hL, hT, hl, hlen, h64, hst, hnl, hfew, roomy_of hc' _, fun H1 S1 t f out M => ?_⟩
      have hx1 := M.fr.keep _ _ hx hnx
      have hg1 := M.fr.keep _ _ hg (hS.notup hg)
      obtain ⟨lp, z, hfo, hz⟩ := id M.fo
      have p1 : S1.p = S.p := M.like.p
      refine ⟨_, rfl, lx, _, rfl, .inl (SqL.of hx1), fun b nb => ?_⟩
      have k2 : ∀ u o, H1 u = some o → upd H1 b (.lst (xs.map V.int)) u = some o := fun u o e => by rw [upd_ne (ne_of_none e nb)]; exact e
      intro d nd
      have k3 : ∀ u o, upd H1 b (.lst (xs.map V.int)) u = some o → upd (upd H1 b (.lst (xs.map V.int))) d (.dT []) u = some o := fun u o e => by rw [upd_ne (ne_of_none e nd)]; exact e
      refine ⟨_, rfl, upd_same, h.key, g, rfl, k3 _ _ (k2 _ _ hg1), ?_⟩
      intro q dx nq ndx nedx
      refine ⟨false, q, dx, b, d, .non, rfl, upd_same, rfl, ?_⟩
      have nbd : b ≠ d := fun e => by rw [← e, upd_same] at nd; cases nd
      have k4 : ∀ u o, H1 u = some o → upd (upd (upd H1 b (.lst (xs.map V.int))) d (.dT [])) d (.dT [(h.key, V.bl true)]) u = some o := fun u o e => by
        have e2 := k2 u o e
        rw [upd_ne (ne_of_none e2 nd)]
        exact k3 u o e2
      have hb4 : upd (upd (upd H1 b (.lst (xs.map V.int))) d (.dT [])) d (.dT [(h.key, V.bl true)]) b = some (.lst (xs.map V.int)) := by rw [upd_ne nbd, upd_ne nbd, upd_same]
      have hd4 : upd (upd (upd H1 b (.lst (xs.map V.int))) d (.dT [])) d (.dT [(h.key, V.bl true)]) d = some (hdT [h]) := upd_same
      have fb : ∀ u, H1 u = none ∨ ∃ o, H1 u = some o := fun u => by cases H1 u with | none => exact .inl rfl | some o => exact .inr ⟨o, rfl⟩
      have nd1 : H1 d = none := by
        rcases fb d with z | ⟨o, z⟩
        · exact z
        · rw [k2 _ _ z] at nd; cases nd
      generalize upd (upd (upd H1 b (.lst (xs.map V.int))) d (.dT [])) d (.dT [(h.key, V.bl true)]) = H4 at k4 hb4 hd4 nq ndx
      have nq1 : H1 q = none := by
        rcases fb q with z | ⟨o, z⟩
        · exact z
        · rw [k4 _ _ z] at nq; cases nq
      have k5 : ∀ u o, H4 u = some o → upd (upd (upd H4 dx (.own q)) q (.ins (clsOf a false) dx [])) q (.ins (clsOf a false) dx (lyF b d .non)) u = some o := fun u o e => by
        rw [upd_ne (ne_of_none e nq), upd_ne (ne_of_none e nq), upd_ne (ne_of_none e ndx)]; exact e
      have hq5 : upd (upd (upd H4 dx (.own q)) q (.ins (clsOf a false) dx [])) q (.ins (clsOf a false) dx (lyF b d .non)) q = some (.ins (clsOf a false) dx (lyF b d .non)) := upd_same
      have hc5 : CellAt a.CL (upd (upd (upd H4 dx (.own q)) q (.ins (clsOf a false) dx [])) q (.ins (clsOf a false) dx (lyF b d .non))) { q := q, dx := dx, b := b, d := d, xs := xs, hs := [h], bd := none } := ⟨hq5, k5 _ _ hb4, k5 _ _ hd4⟩
      have hp5 := k5 _ _ (k4 _ _ M.at_.p)
      have hl5 := k5 _ _ (k4 _ _ M.at_.lf)
      have ht5 := k5 _ _ (k4 _ _ hfo)
      have k15 : ∀ u o, H1 u = some o → upd (upd (upd H4 dx (.own q)) q (.ins (clsOf a false) dx [])) q (.ins (clsOf a false) dx (lyF b d .non)) u = some o := fun u o e => k5 u o (k4 u o e)
      generalize upd (upd (upd H4 dx (.own q)) q (.ins (clsOf a false) dx [])) q (.ins (clsOf a false) dx (lyF b d .non)) = H5 at k15 hc5 hp5 hl5 ht5
      rw [p1] at hp5
      have hf1 : f < S1.F := by rw [M.like.F]; exact M.ff
      refine ⟨_, rfl, S.p, _, S1.dx, _, _, rfl, hp5, T.clS, T.nS_in_frames, shF_frames, _, rfl, t, _, _, _, rfl, rfl, SqT.of ht5, atI_nat (j := 0) rfl, S1.lf, _, _, f, rfl, rfl, hl5, (by rw [row_length]; exact ixN_nat hf1), ?_⟩
      have e6 : (row cV S1.m false S1.F).set f (V.ref q) = row cV (up S1.m (false, f) (some { q := q, dx := dx, b := b, d := d, xs := xs, hs := [h], bd := none })) false S1.F := row_set (f := cV) (v := some ({ q := q, dx := dx, b := b, d := d, xs := xs, hs := [h], bd := none } : Cell)) hf1
      rw [e6]
      obtain ⟨A6, L6, F6⟩ := into_frame (H := H) (S := S) (c := { q := q, dx := dx, b := b, d := d, xs := xs, hs := [h], bd := none }) M.at_ M.lay hf1 M.fn M.fr k15 hc5 ⟨Ne.symm (ne_of_none hb4 nq), Ne.symm (ne_of_none hd4 nq), nbd⟩ (fun u hu => by
        rcases mem_adr.mp hu with z | z | z
        · subst z; exact .inl nq1
        · subst z; exact .inl nb
        · subst z; exact .inl nd1)
      refine ⟨_, rfl, kQ hc' _ (S1.wm (up S1.m (false, f) (some ({ q := q, dx := dx, b := b, d := d, xs := xs, hs := [h], bd := none } : Cell)))) t f out (M.like.trans ⟨rfl, rfl, rfl, rfl, rfl, fun h => h⟩) A6 L6 (twin_add (c := ({ q := q, dx := dx, b := b, d := d, xs := xs, hs := [h], bd := none } : Cell)) M.tw M.fn rfl) M.ff M.gg ?_ F6 ?_⟩
      · show vw (up S1.m (false, f) (some _)) = _
        rw [vw_up_sh _ isSh_frame, M.vw, lawMv_out]
      · exact (M.fo.keep fun u vs e => k15 u _ e).keep fun u vs e => by rw [upd_ne (ne_of e hl5 (by intro z; cases z))]; exact e
end
end Fl

set_option Elab.async false
set_option linter.all false
set_option maxRecDepth 100000
set_option maxHeartbeats 4000000
/-! back. -/
namespace Fl
open PySem L2
def spBack (a : Ad) : Sp := fun vs H Q E => ∃ (S : Sh) (sl : Nat) (l : Addr) (bs : List Bool) (cc : Cell), vs = [.ref S.p, .int (sl : Int), .ref l] ∧ ShAt a H S ∧ Lay S ∧ Twin S.m ∧ H l = some (.lst (bs.map V.bl)) ∧ bs.length = S.F ∧ S.F ≤ 64 ∧ S.st < S.F ∧ ¬ Reg S l ∧ (∀ x c, S.m x = some c → Few c.hs) ∧
  S.m (true, sl) = some cc ∧ cc.bd = none ∧ cc.xs.length ≤ 64 ∧
  ∀ (H' : Hp) (S' : Sh) (t f : Nat) (out : Option Nat), Like S S' → ShAt a H' S' → Lay S' → Twin S'.m → f < S.F → (∀ g, out = some g → g < S.G) → vw S'.m = lawMv (up (vw S.m) (true, sl) none) f out (cc.xs, cc.hs) → Fr S S' H H' → FoundAt H' t f out → Q (.ref t) H'
theorem back_here {β : Type} (v : Mp β) (f s : Nat) (one : β) : up (outV v f (some s)) (false, f) (some one) = lawMv (up v (true, s) none) f (some s) one := by
  show up (up (up v (true, s) (v (false, f))) (false, f) none) (false, f) (some one) = up (up (up v (true, s) none) (true, s) (up v (true, s) none (false, f))) (false, f) (some one)
  rw [up_up, up_up, up_ne fs_ne]
theorem back_away {β : Type} (v : Mp β) (f s : Nat) (out : Option Nat) (one : β) (h : out ≠ some s) : up (up (outV v f out) (true, s) none) (false, f) (some one) = lawMv (up v (true, s) none) f out one := by
  cases out with
  | none => rfl
  | some g =>
    have ng : g ≠ s := fun e => h (by rw [e])
    show up (up (up (up v (true, g) (v (false, f))) (false, f) none) (true, s) none) (false, f) (some one) = up (up (up v (true, s) none) (true, g) (up v (true, s) none (false, f))) (false, f) (some one)
    rw [up_comm (x := (false, f)) (y := (true, s)) fs_ne, up_up, up_ne fs_ne, up_comm (x := (true, g)) (y := (true, s)) (ix_ne ng)]
theorem pt_imp {X : Cx} {e : Expr} {t t' : TT} (h : PT X e t) (i : ∀ σ H Q, t' σ H Q → t σ H Q) : PT X e t' := ⟨fun pins s σ H Q I q => h.run pins s σ H Q I (i σ H Q q)⟩
/-- what emptied answered tells of the slot asked for -/
def tHere : TT := fun σ H Q => ∃ (t : Addr) (f s : Nat) (out : Option Nat), σ[4]? = some (some (.ref t)) ∧ σ[1]? = some (some (.int (s : Int))) ∧ FoundAt H t f out ∧ Q (decide (out = some s)) H
/-- between the two stores -/
structure Mid (a : Ad) (S S2 : Sh) (H H2 : Hp) (t f s : Nat) (out : Option Nat) (cc : Cell) (tw : Option Nat) : Prop where
  like : Like S S2
  at_ : ShAt a H2 S2
  lay : Lay S2
  ca : CellAt a.CT H2 cc
  ff : f < S.F
  fn : S2.m (false, f) = none
  ap : ¬ Reg S2 cc.d
  fr : Fr S S2 H H2
  fo : FoundAt H2 t f out
  tw : ∀ c : Cell, c.xs = cc.xs → c.hs = cc.hs → c.bd = tw → Twin (up S2.m (false, f) (some c))
  vw : up (vw S2.m) (false, f) (some (cc.xs, cc.hs)) = lawMv (up (vw S.m) (true, s) none) f out (cc.xs, cc.hs)
section
variable {P : Program} {w : World} {K : PySem.W.Frag} {mg : Str → Option Value} {base : Heap} {a : Ad}
theorem ok_back (T : Top K mg a) : FnOk P w K mg base CX0 4 a.fBack a.dBack ["self", "slot", "marks"] (spBack a) := by
  have GE : FnOk P w K mg base CX0 3 a.fEmptied a.dEmptied ["self", "marks", "slot"] (spEmp2 a) := ok_emp2 T
  have GI : FnOk P w K mg base CX0 1 a.fLyInit a.dLyInit ["self", "boxes", "held", "bound"] (spLyInit a) := ok_lyInit T
  refine T.FBack.ok scBack (fun vs H Q E h => ?_) (fun cdv A outer s H vs Q E hr h => ?_)
  · obtain ⟨S, sl, l, bs, cc, rfl, _⟩ := h
    rfl
  · obtain ⟨S, sl, l, bs, cc, rfl, hS, hL, hT, hl, hlen, h64, hst, hnl, hfew, hm, hb, hx64, kQ⟩ := h
    have hr2 : Room 2 _ := hr.mono (by decide)
    have hsl : sl < S.G := hL.inb _ _ hm
    refine ⟨_, pss_cons (ps_set (i := 3) scBack.nd rfl (.inl rfl) (pe_ix ix_list (pe_fld (pv 0) rfl) (pv 1) (fun _ _ => rfl)))
      (pss_cons (ps_set (i := 4) scBack.nd rfl (.inl rfl) (pe_meth (pv 0) T.clS T.mEmptied GE hr T.bEmptied .nil pass0 (pa_cons (pv 2) (pa_cons (pv 1) pa_nil))))
      (pss_cons (ps_set (i := 5) scBack.nd rfl (.inl rfl) (pv 1))
      (C8.pss_cut (ps_if (pt_imp (t' := tHere) (PW.pt (pw_and (pt_cmpR op_notN (pe_ix ix_tup (pv 4) pe_int (fun _ _ => rfl)) pe_non (nomark _)) (pw_and1 (pt_cmpR op_eq (pe_ix ix_tup (pe_ix ix_tup (pv 4) pe_int (fun _ _ => rfl)) pe_int (fun _ _ => rfl)) (pv 1) (nomark _))))) (by
          rintro σ H Q ⟨t, f, s, out, e4, e1, ⟨lp, z, hfo, hz⟩, q⟩
          refine ⟨_, e4, t, _, _, _, rfl, rfl, SqT.of hfo, atI_nat (j := 2) rfl, rfl, _, rfl, ?_⟩
          cases out with
          | none =>
            have hz : z = V.non := hz
            subst hz
            exact iteF q
          | some g =>
            obtain ⟨o, r, hz, ho⟩ := hz
            subst hz
            refine iteT ⟨_, e4, t, _, _, _, rfl, rfl, SqT.of hfo, atI_nat (j := 2) rfl, o, _, _, _, rfl, rfl, SqT.of ho, atI_nat (j := 0) rfl, _, e1, rfl, _, rfl, ?_⟩
            by_cases e : g = s
            · subst e
              rw [decide_eq_true rfl] at q ⊢
              exact q
            · rw [decide_eq_false (fun z => e (by injection z with z; omega))]
              rw [decide_eq_false (fun z => e (Option.some.inj z))] at q
              exact q))
        (pss_one (ps_set (i := 5) scBack.nd rfl (.inl rfl) pe_non))
        (pss_one (ps_asg (pe_make (T.mkC true) GI hr2 rfl T.mgT T.bLyInit .nil pass0 (pa_cons (pe_callTy call_list_of (by rfl) T.zlist (by decide +kernel) (pa_cons (pe_fld (pv 3) rfl) pa_nil)) (pa_cons pe_dnewT (pa_cons (pe_ix ix_tup (pv 4) pe_int (fun _ _ => rfl)) pa_nil)))) (pg_sub (pe_fld (pv 0) rfl) (pv 1) set_list))))
      (pss_cons (ps_asg (pe_make (T.mkC false) GI hr2 rfl T.mgL T.bLyInit .nil pass0 (pa_cons (pe_callTy call_list_of (by rfl) T.zlist (by decide +kernel) (pa_cons (pe_fld (pv 3) rfl) pa_nil)) (pa_cons (pe_fld (pv 3) rfl) (pa_cons (pv 5) pa_nil)))) (pg_sub (pe_fld (pv 0) rfl) (pe_ix ix_tup (pv 4) pe_int (fun _ _ => rfl)) set_list))
      (pss_cons (ps_fldaug (pv 0) pe_int in_add)
      (pss_one (ps_ret (pv 4)))))))), ?_⟩
    refine ⟨_, rfl, S.p, _, S.dx, _, _, rfl, hS.p, T.clS, T.nS_in_slots, shF_slots, _, rfl, S.ls, _, _, _, rfl, rfl, SqL.of hS.ls, atI_nat (row_get hsl), ?_⟩
    rw [hm]
    refine ⟨_, rfl, S.p, S.dx, _, rfl, hS.p, shF_no (by decide +kernel), _, rfl, _, rfl, S, l, bs, .int (sl : Int), rfl, hS, hL, hT, hl, hlen, h64, hst, hnl, hfew, fun _ => .inl ⟨sl, rfl, hsl⟩, fun H1 S1 t f out M => ?_⟩
    obtain ⟨hcc1, hkeep, hgone⟩ := M.sl sl cc hm
    obtain ⟨lp, z, hfo, hz⟩ := id M.fo
    have p1 : S1.p = S.p := M.like.p
    have fb : ∀ (H : Hp) u, H u = none ∨ ∃ o, H u = some o := fun H u => by cases H u with | none => exact .inl rfl | some o => exact .inr ⟨o, rfl⟩
    have hccB : ∀ u, u ∈ adr cc → Reg S u := fun u hu => Reg.cell hm hu
    refine ⟨_, rfl, fun σ H' => ∃ (S2 : Sh) (tw : Option Nat), σ = [some (.ref S.p), some (.int (sl : Int)), some (.ref l), some (.ref cc.q), some (.ref t), some (bdV tw)] ∧ Mid a S S2 H H' t f sl out cc tw, ?_, ?_⟩
    · -- the test
      have here : out = some sl → Mid a S S1 H H1 t f sl out cc none := fun e => by
        refine ⟨M.like, M.at_, M.lay, hcc1, M.ff, M.fn, fun r => ?_, M.fr, M.fo, fun c ex eh eb => twin_add (c := c) M.tw M.fn eb, ?_⟩
        · have b := hL.bs _ _ hm cc.d (mem_adr.mpr (.inr (.inr rfl)))
          rcases r with r | r | r | ⟨y, c', h, hu⟩
          · exact b.1 (r.trans M.like.p)
          · exact b.2.1 (r.trans M.like.lf)
          · exact b.2.2 (r.trans M.like.ls)
          · exact hgone e y c' h _ (mem_adr.mpr (.inr (.inr rfl))) hu
        · rw [M.vw, e]
          exact back_here _ _ _ _
      have away : ∀ (H4 : Hp) (b d q dx : Addr), (∀ u o, H1 u = some o → H4 u = some o) → CellAt a.CT H4 { q := q, dx := dx, b := b, d := d, xs := cc.xs, hs := [], bd := some f } → H1 q = none → H1 b = none → H1 d = none → q ≠ b → q ≠ d → b ≠ d → out ≠ some sl →
          Mid a S (S1.wm (up S1.m (true, sl) (some { q := q, dx := dx, b := b, d := d, xs := cc.xs, hs := [], bd := some f }))) H (upd H4 S1.ls (.lst (row cV (up S1.m (true, sl) (some { q := q, dx := dx, b := b, d := d, xs := cc.xs, hs := [], bd := some f })) true S1.G))) t f sl out cc (some sl) := by
        intro H4 b d q dx k4 hc4 nq nb nd qb qd bd ne
        have hm1 := hkeep ne
        have hG1 : sl < S1.G := by rw [M.like.G]; exact hsl
        have nR : ∀ u, u ∈ adr { q := q, dx := dx, b := b, d := d, xs := cc.xs, hs := [], bd := some f } → ¬ Reg S1 u := fun u hu r => by
          obtain ⟨o, ho⟩ := M.at_.there r
          rcases mem_adr.mp hu with e | e | e
          · rw [e] at ho; rw [show H1 q = some o from ho] at nq; cases nq
          · rw [e] at ho; rw [show H1 b = some o from ho] at nb; cases nb
          · rw [e] at ho; rw [show H1 d = some o from ho] at nd; cases nd
        have A4 : ShAt a H4 S1 := M.at_.same fun u o _ e => k4 u o e
        have L2' := (M.lay.sub (Sub.none (x := (true, sl)))).add (x := (true, sl)) (c := { q := q, dx := dx, b := b, d := d, xs := cc.xs, hs := [], bd := some f }) up_same hG1 ⟨qb, qd, bd⟩
          (fun u hu => ⟨fun e => nR u hu (.inl e), fun e => nR u hu (.inr (.inl e)), fun e => nR u hu (.inr (.inr (.inl e)))⟩)
          (fun y c' h u hu hu' => by
            obtain ⟨c0, h0, z0⟩ := Sub.none y c' h
            rw [adr_eq z0] at hu'
            exact nR u hu (Reg.cell h0 hu'))
        have e2 : up (up S1.m (true, sl) none) (true, sl) (some ({ q := q, dx := dx, b := b, d := d, xs := cc.xs, hs := [], bd := some f } : Cell)) = up S1.m (true, sl) (some { q := q, dx := dx, b := b, d := d, xs := cc.xs, hs := [], bd := some f }) := up_up
        have L2 : Lay (S1.wm (up (up S1.m (true, sl) none) (true, sl) (some { q := q, dx := dx, b := b, d := d, xs := cc.xs, hs := [], bd := some f }))) := L2'
        rw [e2] at L2
        have ls1 : ¬ cc.q = S1.ls ∧ ¬ cc.b = S1.ls ∧ ¬ cc.d = S1.ls := by
          rw [M.like.ls]
          exact ⟨(hL.bs _ _ hm _ (mem_adr.mpr (.inl rfl))).2.2, (hL.bs _ _ hm _ (mem_adr.mpr (.inr (.inl rfl)))).2.2, (hL.bs _ _ hm _ (mem_adr.mpr (.inr (.inr rfl)))).2.2⟩
        refine ⟨M.like.trans ⟨rfl, rfl, rfl, rfl, rfl, fun h => h⟩, A4.put M.lay (i := sl) (s := true) (some ({ q := q, dx := dx, b := b, d := d, xs := cc.xs, hs := [], bd := some f } : Cell)) (fun c' e => by cases e; exact ⟨hc4, fun hu => nR _ hu (.inr (.inr (.inl rfl)))⟩), L2, ?_, M.ff, ?_, ?_, M.fr.trans ⟨fun u o e n => ?_, fun u r => ?_⟩, ?_, fun c ex eh eb => ?_, ?_⟩
        · exact ⟨by rw [upd_ne ls1.1]; exact k4 _ _ hcc1.q, by rw [upd_ne ls1.2.1]; exact k4 _ _ hcc1.b, by rw [upd_ne ls1.2.2]; exact k4 _ _ hcc1.d⟩
        · exact (up_ne (m := S1.m) (x := (true, sl)) (v := some ({ q := q, dx := dx, b := b, d := d, xs := cc.xs, hs := [], bd := some f } : Cell)) fs_ne).trans M.fn
        · intro r
          have b' := hL.bs _ _ hm cc.d (mem_adr.mpr (.inr (.inr rfl)))
          rcases r with r | r | r | ⟨y, c', h, hu⟩
          · exact b'.1 (r.trans M.like.p)
          · exact b'.2.1 (r.trans M.like.lf)
          · exact b'.2.2 (r.trans M.like.ls)
          · have h : up S1.m (true, sl) _ y = some c' := h
            by_cases e : y = (true, sl)
            · rw [e, up_same] at h
              cases h
              exact nR _ hu (Reg.cell hm1 (mem_adr.mpr (.inr (.inr rfl))))
            · rw [up_ne e] at h
              exact M.lay.dj _ _ _ _ hm1 h (Ne.symm e) _ (mem_adr.mpr (.inr (.inr rfl))) hu
        · rw [upd_ne (fun z => n (.inr (.inr (.inl z))))]; exact k4 u o e
        · rcases r with r | r | r | ⟨y, c', h, hu⟩
          · exact .inl (.inl r)
          · exact .inl (.inr (.inl r))
          · exact .inl (.inr (.inr (.inl r)))
          · have h : up S1.m (true, sl) _ y = some c' := h
            by_cases e : y = (true, sl)
            · rw [e, up_same] at h
              cases h
              rcases mem_adr.mp hu with z | z | z
              · exact .inr (by rw [z]; exact nq)
              · exact .inr (by rw [z]; exact nb)
              · exact .inr (by rw [z]; exact nd)
            · rw [up_ne e] at h
              exact .inl (Reg.cell h hu)
        · refine M.fo.keep fun u vs e => ?_
          have := k4 u _ e
          rw [upd_ne (ne_of e M.at_.ls (by intro z; cases z))]
          exact this
        · exact twin_back (cc := cc) M.tw M.fn hm1 hb eb rfl ex.symm rfl
        · show up (vw (up S1.m (true, sl) (some ({ q := q, dx := dx, b := b, d := d, xs := cc.xs, hs := [], bd := some f } : Cell)))) (false, f) (some (cc.xs, cc.hs)) = _
          rw [vw_up_tw S1.m (x := (true, sl)) (by rw [isSh_slot]; rfl), M.vw]
          exact back_away _ _ _ _ _ ne
      -- the way with a twin
      refine ⟨t, f, sl, out, rfl, rfl, M.fo, ?_⟩
      by_cases ne : out = some sl
      · rw [decide_eq_true ne]
        exact iteT ⟨S1, none, rfl, here ne⟩
      · rw [decide_eq_false ne]
        refine iteF ⟨_, rfl, cc.q, _, cc.dx, _, _, rfl, hcc1.q, T.clT, T.nBoxes true, lyF_boxes, cc.b, _, rfl, .inl (SqL.of hcc1.b), fun b nb d nd => ?_⟩
        have hG1 : sl < S1.G := by rw [M.like.G]; exact hsl
        have k2 : ∀ u o, H1 u = some o → upd H1 b (.lst (cc.xs.map V.int)) u = some o := fun u o e => by rw [upd_ne (ne_of_none e nb)]; exact e
        have k3 : ∀ u o, H1 u = some o → upd (upd H1 b (.lst (cc.xs.map V.int))) d (.dT []) u = some o := fun u o e => by rw [upd_ne (ne_of_none (k2 u o e) nd)]; exact k2 u o e
        refine ⟨_, rfl, t, _, _, _, rfl, rfl, SqT.of (k3 _ _ hfo), atI_nat (j := 0) rfl, ?_⟩
        intro q dx nq ndx nedx
        refine ⟨true, q, dx, b, d, .int (f : Int), rfl, upd_same, rfl, ?_⟩
        have nbd : b ≠ d := fun e => by rw [← e, upd_same] at nd; cases nd
        have hb3 : upd (upd H1 b (.lst (cc.xs.map V.int))) d (.dT []) b = some (.lst (cc.xs.map V.int)) := by rw [upd_ne nbd, upd_same]
        have hd3 : upd (upd H1 b (.lst (cc.xs.map V.int))) d (.dT []) d = some (hdT []) := upd_same
        have nd1 : H1 d = none := by
          rcases fb H1 d with z | ⟨o, z⟩
          · exact z
          · rw [k2 _ _ z] at nd; cases nd
        generalize upd (upd H1 b (.lst (cc.xs.map V.int))) d (.dT []) = H4 at k3 hb3 hd3 nq ndx
        have nq1 : H1 q = none := by
          rcases fb H1 q with z | ⟨o, z⟩
          · exact z
          · rw [k3 _ _ z] at nq; cases nq
        have k5 : ∀ u o, H4 u = some o → upd (upd (upd H4 dx (.own q)) q (.ins (clsOf a true) dx [])) q (.ins (clsOf a true) dx (lyF b d (.int (f : Int)))) u = some o := fun u o e => by
          rw [upd_ne (ne_of_none e nq), upd_ne (ne_of_none e nq), upd_ne (ne_of_none e ndx)]; exact e
        have hq5 : upd (upd (upd H4 dx (.own q)) q (.ins (clsOf a true) dx [])) q (.ins (clsOf a true) dx (lyF b d (.int (f : Int)))) q = some (.ins (clsOf a true) dx (lyF b d (.int (f : Int)))) := upd_same
        have hc5 : CellAt a.CT (upd (upd (upd H4 dx (.own q)) q (.ins (clsOf a true) dx [])) q (.ins (clsOf a true) dx (lyF b d (.int (f : Int))))) ({ q := q, dx := dx, b := b, d := d, xs := cc.xs, hs := [], bd := some f } : Cell) := ⟨hq5, k5 _ _ hb3, k5 _ _ hd3⟩
        have hp5 := k5 _ _ (k3 _ _ M.at_.p)
        have hl5 := k5 _ _ (k3 _ _ M.at_.ls)
        have k15 : ∀ u o, H1 u = some o → upd (upd (upd H4 dx (.own q)) q (.ins (clsOf a true) dx [])) q (.ins (clsOf a true) dx (lyF b d (.int (f : Int)))) u = some o := fun u o e => k5 u o (k3 u o e)
        generalize upd (upd (upd H4 dx (.own q)) q (.ins (clsOf a true) dx [])) q (.ins (clsOf a true) dx (lyF b d (.int (f : Int)))) = H5 at k15 hc5 hp5 hl5
        rw [p1] at hp5
        refine ⟨_, rfl, S.p, _, S1.dx, _, _, rfl, hp5, T.clS, T.nS_in_slots, shF_slots, _, rfl, S1.ls, _, _, sl, rfl, rfl, hl5, (by rw [row_length]; exact ixN_nat hG1), ?_⟩
        have e6 : (row cV S1.m true S1.G).set sl (V.ref q) = row cV (up S1.m (true, sl) (some ({ q := q, dx := dx, b := b, d := d, xs := cc.xs, hs := [], bd := some f } : Cell))) true S1.G := row_set (f := cV) (v := some ({ q := q, dx := dx, b := b, d := d, xs := cc.xs, hs := [], bd := some f } : Cell)) hG1
        rw [e6]
        exact ⟨_, some sl, rfl, away H5 b d q dx k15 hc5 nq1 nb nd1 (Ne.symm (ne_of_none hb3 nq)) (Ne.symm (ne_of_none hd3 nq)) nbd ne⟩
    · rintro σ H2 ⟨S2, tw, rfl, M2⟩
      have hc2 := M2.ca
      have p2 : S2.p = S.p := M2.like.p
      obtain ⟨lp2, z2, hfo2, _⟩ := id M2.fo
      refine ⟨_, rfl, cc.q, _, cc.dx, _, _, rfl, hc2.q, T.clT, T.nBoxes true, lyF_boxes, cc.b, _, rfl, .inl (SqL.of hc2.b), fun b nb => ?_⟩
      have k2 : ∀ u o, H2 u = some o → upd H2 b (.lst (cc.xs.map V.int)) u = some o := fun u o e => by rw [upd_ne (ne_of_none e nb)]; exact e
      refine ⟨_, rfl, cc.q, _, cc.dx, _, _, rfl, k2 _ _ hc2.q, T.clT, T.nHeld true, lyF_held, _, rfl, ?_⟩
      intro q dx nq ndx nedx
      refine ⟨false, q, dx, b, cc.d, bdV tw, rfl, upd_same, rfl, ?_⟩
      have hb3 : upd H2 b (.lst (cc.xs.map V.int)) b = some (.lst (cc.xs.map V.int)) := upd_same
      have nbd : b ≠ cc.d := Ne.symm (ne_of_none hc2.d nb)
      generalize upd H2 b (.lst (cc.xs.map V.int)) = H4 at k2 hb3 nq ndx
      have nq1 : H2 q = none := by
        rcases fb H2 q with z | ⟨o, z⟩
        · exact z
        · rw [k2 _ _ z] at nq; cases nq
      have k5 : ∀ u o, H4 u = some o → upd (upd (upd H4 dx (.own q)) q (.ins (clsOf a false) dx [])) q (.ins (clsOf a false) dx (lyF b cc.d (bdV tw))) u = some o := fun u o e => by
        rw [upd_ne (ne_of_none e nq), upd_ne (ne_of_none e nq), upd_ne (ne_of_none e ndx)]; exact e
      have hq5 : upd (upd (upd H4 dx (.own q)) q (.ins (clsOf a false) dx [])) q (.ins (clsOf a false) dx (lyF b cc.d (bdV tw))) q = some (.ins (clsOf a false) dx (lyF b cc.d (bdV tw))) := upd_same
      have hc5 : CellAt a.CL (upd (upd (upd H4 dx (.own q)) q (.ins (clsOf a false) dx [])) q (.ins (clsOf a false) dx (lyF b cc.d (bdV tw)))) ({ q := q, dx := dx, b := b, d := cc.d, xs := cc.xs, hs := cc.hs, bd := tw } : Cell) := ⟨hq5, k5 _ _ hb3, k5 _ _ (k2 _ _ hc2.d)⟩
      have hp5 := k5 _ _ (k2 _ _ M2.at_.p)
      have hl5 := k5 _ _ (k2 _ _ M2.at_.lf)
      have k15 : ∀ u o, H2 u = some o → upd (upd (upd H4 dx (.own q)) q (.ins (clsOf a false) dx [])) q (.ins (clsOf a false) dx (lyF b cc.d (bdV tw))) u = some o := fun u o e => k5 u o (k2 u o e)
      have ht5 := k15 _ _ hfo2
      have nqd : q ≠ cc.d := Ne.symm (ne_of_none (k2 _ _ hc2.d) nq)
      have nqb : q ≠ b := Ne.symm (ne_of_none hb3 nq)
      generalize upd (upd (upd H4 dx (.own q)) q (.ins (clsOf a false) dx [])) q (.ins (clsOf a false) dx (lyF b cc.d (bdV tw))) = H5 at k15 hc5 hp5 hl5 ht5
      rw [p2] at hp5
      have hf1 : f < S2.F := by rw [M2.like.F]; exact M2.ff
      refine ⟨_, rfl, S.p, _, S2.dx, _, _, rfl, hp5, T.clS, T.nS_in_frames, shF_frames, _, rfl, t, _, _, _, rfl, rfl, SqT.of ht5, atI_nat (j := 0) rfl, S2.lf, _, _, f, rfl, rfl, hl5, (by rw [row_length]; exact ixN_nat hf1), ?_⟩
      have e6 : (row cV S2.m false S2.F).set f (V.ref q) = row cV (up S2.m (false, f) (some ({ q := q, dx := dx, b := b, d := cc.d, xs := cc.xs, hs := cc.hs, bd := tw } : Cell))) false S2.F := row_set (f := cV) (v := some ({ q := q, dx := dx, b := b, d := cc.d, xs := cc.xs, hs := cc.hs, bd := tw } : Cell)) hf1
      rw [e6]
      obtain ⟨A6, L6, F6⟩ := into_frame (H := H) (S := S) (c := ({ q := q, dx := dx, b := b, d := cc.d, xs := cc.xs, hs := cc.hs, bd := tw } : Cell)) M2.at_ M2.lay hf1 M2.fn M2.fr k15 hc5 ⟨nqb, nqd, nbd⟩ (fun u hu => by
        rcases mem_adr.mp hu with z | z | z
        · subst z; exact .inl nq1
        · subst z; exact .inl nb
        · subst z; exact .inr ⟨.inl (Reg.cell hm (mem_adr.mpr (.inr (.inr rfl)))), M2.ap⟩)
      have fo6 : FoundAt (upd H5 S2.lf (.lst (row cV (up S2.m (false, f) (some ({ q := q, dx := dx, b := b, d := cc.d, xs := cc.xs, hs := cc.hs, bd := tw } : Cell))) false S2.F))) t f out := (M2.fo.keep fun u vs e => k15 u _ e).keep fun u vs e => by rw [upd_ne (ne_of e hl5 (by intro z; cases z))]; exact e
      have tw6 := M2.tw ({ q := q, dx := dx, b := b, d := cc.d, xs := cc.xs, hs := cc.hs, bd := tw } : Cell) rfl rfl rfl
      have vw6 : vw (up S2.m (false, f) (some ({ q := q, dx := dx, b := b, d := cc.d, xs := cc.xs, hs := cc.hs, bd := tw } : Cell))) = lawMv (up (vw S.m) (true, sl) none) f out (cc.xs, cc.hs) := by
        rw [vw_up_sh _ isSh_frame]; exact M2.vw
      generalize upd H5 S2.lf (.lst (row cV (up S2.m (false, f) (some ({ q := q, dx := dx, b := b, d := cc.d, xs := cc.xs, hs := cc.hs, bd := tw } : Cell))) false S2.F)) = H6 at A6 F6 fo6
      have hp6 := A6.p
      have hp6 : H6 S2.p = _ := hp6
      rw [p2] at hp6
      refine ⟨_, rfl, S.p, _, S2.dx, _, _, rfl, hp6, T.clS, T.nS_come_back, shF_back, _, _, rfl, rfl, S2.dx, _, hp6, shF_len, ?_⟩
      rw [shF_put_back, ← p2]
      have A7 := A6.obj L6 S2.st S2.n1 S2.n2 (S2.n3 + 1)
      have L7 := L6.obj S2.st S2.n1 S2.n2 (S2.n3 + 1)
      refine ⟨_, rfl, kQ _ { S2.wm (up S2.m (false, f) (some ({ q := q, dx := dx, b := b, d := cc.d, xs := cc.xs, hs := cc.hs, bd := tw } : Cell))) with st := S2.st, n1 := S2.n1, n2 := S2.n2, n3 := S2.n3 + 1 } t f out (M2.like.trans ⟨rfl, rfl, rfl, rfl, rfl, fun h => h⟩) A7 L7 tw6 M2.ff M.gg vw6 (F6.trans ⟨fun u o e n => ?_, fun u r => .inl r⟩) (fo6.keep fun u vs e => by rw [upd_ne (ne_of e A6.p (by intro z; cases z))]; exact e)⟩
      rw [upd_ne (fun z => n (.inl z))]
      exact e
end
end Fl

set_option Elab.async false
set_option linter.all false
set_option maxRecDepth 100000
set_option maxHeartbeats 4000000
/-! Sheets.__init__. -/
namespace Fl
open PySem L2
theorem put_new {ns : List Str} {f : Str} {v : V} : ∀ {r : List (Str × V)}, r.map Prod.fst = ns → ns.all (fun g => !decide (g = f)) = true → putF f v r = r ++ [(f, v)]
  | [], _, _ => rfl
  | (g, x) :: r, h, a => by
    subst h
    simp only [List.map_cons, List.all_cons, Bool.and_eq_true, Bool.not_eq_true', decide_eq_false_iff_not] at a
    rw [put_past a.1, put_new rfl a.2]
    rfl
def spShInit (a : Ad) : Sp := fun vs H Q _ => ∃ (p dx : Addr) (F G : Nat), vs = [.ref p, .int (F : Int), .int (G : Int), .int 2] ∧ F ≤ 64 ∧ G ≤ 64 ∧ H p = some (.ins a.CS dx []) ∧
  ∀ (H' : Hp) (lf ls : Addr), (∀ u o, H u = some o → u ≠ p → H' u = some o) → H lf = none → H ls = none → ShAt a H' ⟨p, dx, lf, ls, F, G, fun _ => none, 0, 0, 0, 0⟩ → Lay ⟨p, dx, lf, ls, F, G, fun _ => none, 0, 0, 0, 0⟩ → Q .non H'
section
variable {P : Program} {w : World} {K : PySem.W.Frag} {mg : Str → Option Value} {base : Heap} {a : Ad}
theorem ok_shInit (T : Top K mg a) : FnOk P w K mg base CX0 1 a.fShInit a.dShInit ["self", "frames", "slots", "size"] (spShInit a) := by
  refine T.FShInit.ok scShInit (fun vs H Q E h => ?_) (fun cdv A outer s H vs Q E hr h => ?_)
  · obtain ⟨p, dx, F, G, rfl, _⟩ := h
    rfl
  · obtain ⟨p, dx, F, G, rfl, hF, hG, hp, k⟩ := h
    refine ⟨_, pss_cons (ps_fld (pv 0) (pv 3) rfl)
      (pss_cons (ps_fld (pv 0) (pe_lc (own := [("k", 4)]) (g := gName 4) (tt := tYes) rfl scShInit.nd (pi_range1 rfl T.zrange (pa_cons (pv 1) pa_nil)) (blkOk_by (N := NShInit) (sc := defScope sShInit) (by decide +kernel)) (fun _ _ _ _ _ => pg_name (i := 4) scShInit.nd rfl (Or.inl rfl)) (fun _ _ _ _ _ => pts_nil) (fun _ _ _ _ _ => pe_non)) rfl)
      (pss_cons (ps_fld (pv 0) (pe_lc (own := [("k", 4)]) (g := gName 4) (tt := tYes) rfl scShInit.nd (pi_range1 rfl T.zrange (pa_cons (pv 2) pa_nil)) (blkOk_by (N := NShInit) (sc := defScope sShInit) (by decide +kernel)) (fun _ _ _ _ _ => pg_name (i := 4) scShInit.nd rfl (Or.inl rfl)) (fun _ _ _ _ _ => pts_nil) (fun _ _ _ _ _ => pe_non)) rfl)
      (pss_cons (ps_fld (pv 0) pe_int rfl) (pss_cons (ps_fld (pv 0) pe_int rfl) (pss_cons (ps_fld (pv 0) pe_int rfl) (pss_one (ps_fld (pv 0) pe_int rfl))))))), ?_⟩
    refine ⟨_, rfl, _, rfl, p, _, dx, [], rfl, hp, T.clS, T.nS_size, (by show 0 < 1000; decide), ?_⟩
    have hp1 : upd H p (.ins a.CS dx (putF "size" (.int 2) [])) p = some (.ins a.CS dx [("size", .int 2)]) := upd_same
    have k1 : ∀ u o, H u = some o → u ≠ p → upd H p (.ins a.CS dx (putF "size" (.int 2) [])) u = some o := fun u o e h => by rw [upd_ne h]; exact e
    have b1 : ∀ u, upd H p (.ins a.CS dx (putF "size" (.int 2) [])) u = none → H u = none := fun u h => by
      cases e : H u with
      | none => rfl
      | some o =>
        by_cases z : u = p
        · subst z; rw [upd_same] at h; cases h
        · rw [k1 u o e z] at h; cases h
    generalize upd H p (.ins a.CS dx (putF "size" (.int 2) [])) = H1 at hp1 k1 b1
    refine ⟨_, rfl, (F : Int), rfl, by omega, by omega, fun D hD => ?_⟩
    refine lc_range (n := F) (fun i H' => H' D = some (.lst (List.replicate i V.non)) ∧ ∀ u o, H1 u = some o → H' u = some o) ⟨upd_same, fun u o e => by rw [upd_ne (ne_of_none e hD)]; exact e⟩ ?_ ?_
    · rintro i H' hi ⟨h1, h2⟩
      refine ⟨rfl, _, h1, by rw [List.length_replicate]; exact Nat.lt_of_lt_of_le hi (Nat.le_trans hF (by decide)), by rw [upd_same, List.replicate_succ'], fun u o e => ?_⟩
      rw [upd_ne (ne_of_none e hD)]
      exact h2 u o e
    · rintro H2 ⟨hD2, k2⟩
      refine ⟨_, rfl, p, _, dx, _, rfl, k2 _ _ hp1, T.clS, T.nS_in_frames, (by show 1 < 1000; decide), ?_⟩
      rw [put_new (ns := ["size"]) rfl (by decide +kernel)]
      have nDp : D ≠ p := Ne.symm (ne_of_none hp1 hD)
      have hp3 : upd H2 p (.ins a.CS dx (([("size", V.int 2)] : List (Str × V)) ++ [(("in_frames" : Str), V.ref D)])) p = some (.ins a.CS dx [("size", V.int 2), ("in_frames", V.ref D)]) := upd_same
      have hD3 : upd H2 p (.ins a.CS dx (([("size", V.int 2)] : List (Str × V)) ++ [(("in_frames" : Str), V.ref D)])) D = some (.lst (List.replicate F V.non)) := by rw [upd_ne nDp]; exact hD2
      have k3 : ∀ u o, H u = some o → u ≠ p → upd H2 p (.ins a.CS dx (([("size", V.int 2)] : List (Str × V)) ++ [(("in_frames" : Str), V.ref D)])) u = some o := fun u o e h => by rw [upd_ne h]; exact k2 u o (k1 u o e h)
      generalize upd H2 p (.ins a.CS dx (([("size", V.int 2)] : List (Str × V)) ++ [(("in_frames" : Str), V.ref D)])) = H3 at hp3 hD3 k3
      have b3 : ∀ u, H3 u = none → H u = none := fun u h => by
        cases e : H u with
        | none => rfl
        | some o =>
          by_cases z : u = p
          · subst z; rw [hp3] at h; cases h
          · rw [k3 u o e z] at h; cases h
      refine ⟨_, rfl, (G : Int), rfl, by omega, by omega, fun E hE => ?_⟩
      refine lc_range (n := G) (fun i H' => H' E = some (.lst (List.replicate i V.non)) ∧ ∀ u o, H3 u = some o → H' u = some o) ⟨upd_same, fun u o e => by rw [upd_ne (ne_of_none e hE)]; exact e⟩ ?_ ?_
      · rintro i H' hi ⟨h1, h2⟩
        refine ⟨rfl, _, h1, by rw [List.length_replicate]; exact Nat.lt_of_lt_of_le hi (Nat.le_trans hG (by decide)), by rw [upd_same, List.replicate_succ'], fun u o e => ?_⟩
        rw [upd_ne (ne_of_none e hE)]
        exact h2 u o e
      · rintro H4 ⟨hE4, k4⟩
        have nEp : E ≠ p := Ne.symm (ne_of_none hp3 hE)
        have nED : D ≠ E := ne_of_none hD3 hE
        refine ⟨_, rfl, p, _, dx, _, rfl, k4 _ _ hp3, T.clS, T.nS_in_slots, (by show 2 < 1000; decide), ?_⟩
        rw [put_new (ns := ["size", "in_frames"]) rfl (by decide +kernel)]
        refine ⟨_, rfl, p, _, dx, _, rfl, upd_same, T.clS, T.nS_stand, (by show 3 < 1000; decide), ?_⟩
        rw [put_new (ns := ["size", "in_frames", "in_slots"]) rfl (by decide +kernel)]
        refine ⟨_, rfl, p, _, dx, _, rfl, upd_same, T.clS, T.nS_gone_out, (by show 4 < 1000; decide), ?_⟩
        rw [put_new (ns := ["size", "in_frames", "in_slots", "stand"]) rfl (by decide +kernel)]
        refine ⟨_, rfl, p, _, dx, _, rfl, upd_same, T.clS, T.nS_gone_elsewhere, (by show 5 < 1000; decide), ?_⟩
        rw [put_new (ns := ["size", "in_frames", "in_slots", "stand", "gone_out"]) rfl (by decide +kernel)]
        refine ⟨_, rfl, p, _, dx, _, rfl, upd_same, T.clS, T.nS_come_back, (by show 6 < 1000; decide), ?_⟩
        rw [put_new (ns := ["size", "in_frames", "in_slots", "stand", "gone_out", "gone_elsewhere"]) rfl (by decide +kernel)]
        refine k _ D E (fun u o e h => ?_) (b1 D hD) (b3 E hE) ⟨upd_same, ?_, ?_, fun x c h => (nomatch h)⟩ ⟨Ne.symm nDp, Ne.symm nEp, nED, fun x c h => (nomatch h), fun x y c c' h => (nomatch h), fun x c h => (nomatch h), fun x c h => (nomatch h)⟩
        · rw [upd_ne h, upd_ne h, upd_ne h, upd_ne h, upd_ne h]
          exact k4 u o (k3 u o e h)
        · show upd _ p _ D = some (.lst (row cV (fun _ => none) false F))
          rw [upd_ne nDp, upd_ne nDp, upd_ne nDp, upd_ne nDp, upd_ne nDp, row_none]
          exact k4 _ _ hD3
        · show upd _ p _ E = some (.lst (row cV (fun _ => none) true G))
          rw [upd_ne nEp, upd_ne nEp, upd_ne nEp, upd_ne nEp, upd_ne nEp, row_none]
          exact hE4
end
end Fl

set_option Elab.async false
set_option linter.all false
set_option maxRecDepth 100000
set_option maxHeartbeats 4000000
/-! The sheets alone: what is true of them through every deed; folding in plain words. -/
namespace Fl
open PySem L2
abbrev Sheet := List Int × List Hd
abbrev Vw := Mp Sheet
structure One (p : Sheet) (n : Nat) : Prop where
  two : p.1.length = 2
  ne : p.2 ≠ []
  nd : (p.2.map Hd.k).Nodup
  lt : ∀ h ∈ p.2, h.k < n ∧ h.n < 5
def Apart (p q : Sheet) : Prop := ∀ h ∈ p.2, ∀ g ∈ q.2, h.k ≠ g.k
structure VOk (v : Vw) (n : Nat) : Prop where
  one : ∀ x p, v x = some p → One p n
  ap : ∀ x y p q, x ≠ y → v x = some p → v y = some q → Apart p q
theorem Apart.symm {p q : Sheet} (h : Apart p q) : Apart q p := fun a ha b hb e => h b hb a ha e.symm
section
variable {v : Vw} {n m : Nat} {x y : Spot} {p q : Sheet}
theorem One.mono (o : One p n) (h : n ≤ m) : One p m := ⟨o.two, o.ne, o.nd, fun a ha => ⟨Nat.lt_of_lt_of_le (o.lt a ha).1 h, (o.lt a ha).2⟩⟩
theorem VOk.mono (o : VOk v n) (h : n ≤ m) : VOk v m := ⟨fun x p e => (o.one x p e).mono h, o.ap⟩
theorem One.few (o : One p n) (h : n ≤ 63) : Few p.2 := by
  refine ⟨?_, fun a ha => ?_⟩
  · have := nat_nodup_len (p.2.map Hd.k) (List.range n) o.nd fun k hk => by
      obtain ⟨a, ha, rfl⟩ := List.mem_map.mp hk
      exact List.mem_range.mpr (o.lt a ha).1
    rw [List.length_map, List.length_range] at this
    omega
  · have := o.lt a ha
    exact ⟨by omega, by omega⟩
theorem vok_del (o : VOk v n) : VOk (up v x none) n := by
  have k : ∀ y p, up v x none y = some p → v y = some p := fun y p e => by
    by_cases h : y = x
    · rw [h, up_same] at e; cases e
    · rwa [up_ne h] at e
  exact ⟨fun y p e => o.one y p (k y p e), fun y z p q ne e f => o.ap y z p q ne (k y p e) (k z q f)⟩
theorem vok_put (o : VOk v n) (hp : One p n) (ha : ∀ y q, y ≠ x → v y = some q → Apart p q) : VOk (up v x (some p)) n := by
  refine ⟨fun y r e => ?_, fun y z r s ne e f => ?_⟩
  · by_cases h : y = x
    · rw [h, up_same] at e; cases e; exact hp
    · rw [up_ne h] at e; exact o.one y r e
  · by_cases h : y = x
    · rw [h, up_same] at e
      cases e
      have hz : z ≠ x := fun e => ne (h.trans e.symm)
      rw [up_ne hz] at f
      exact ha z s hz f
    · rw [up_ne h] at e
      by_cases hz : z = x
      · rw [hz, up_same] at f; cases f; exact (ha y r h e).symm
      · rw [up_ne hz] at f; exact o.ap y z r s ne e f
theorem vok_at (o : VOk v n) (h : v x = some p) : VOk (up v x none) n ∧ One p n ∧ ∀ y q, y ≠ x → v y = some q → Apart p q := ⟨vok_del o, o.one x p h, fun y q ne e => o.ap x y p q (Ne.symm ne) h e⟩
/-- new items with the same or new numbers -/
theorem vok_set (o : VOk v n) (h : v x = some p) (hq : One q n) (hs : ∀ b ∈ q.2, (∃ a ∈ p.2, a.k = b.k) ∨ ∀ y r, y ≠ x → v y = some r → ∀ g ∈ r.2, b.k ≠ g.k) : VOk (up v x (some q)) n :=
  vok_put o hq fun y r ne e b hb g hg => by
    rcases hs b hb with ⟨a, ha, z⟩ | z
    · rw [← z]; exact o.ap x y p r (Ne.symm ne) h e a ha g hg
    · exact z y r ne e g hg
/-- a sheet moves -/
theorem vok_move (o : VOk v n) (ne : x ≠ y) : VOk (up (up v y (v x)) x none) n := by
  cases h : v x with
  | none => exact vok_del (vok_del o)
  | some p =>
    rw [up_comm (Ne.symm ne)]
    exact vok_put (vok_del o) (o.one x p h) fun z q nz e => by
      by_cases hz : z = x
      · rw [hz, up_same] at e; cases e
      · rw [up_ne hz] at e; exact o.ap x z p q (Ne.symm hz) h e
/-- the law's move -/
theorem vok_mv {f : Nat} {out : Option Nat} (o : VOk v n) (hp : One p n) (ha : ∀ y q, v y = some q → Apart p q) : VOk (lawMv v f out p) n := by
  rw [← lawMv_out]
  have oo : VOk (outV v f out) n ∧ ∀ y q, outV v f out y = some q → Apart p q := by
    cases out with
    | none => exact ⟨o, ha⟩
    | some g =>
      refine ⟨vok_move o fs_ne, fun y q e => ?_⟩
      have e : up (up v (true, g) (v (false, f))) (false, f) none y = some q := e
      by_cases h1 : y = (false, f)
      · rw [h1, up_same] at e; cases e
      · rw [up_ne h1] at e
        by_cases h2 : y = (true, g)
        · rw [h2, up_same] at e; exact ha _ _ e
        · rw [up_ne h2] at e; exact ha _ _ e
  exact vok_put oo.1 hp fun y q _ e => oo.2 y q e
/-- a new holder's number is new -/
theorem apart_new {h : Hd} {xs : List Int} (o : VOk v n) (e : h.k = n) : ∀ y q, v y = some q → Apart (xs, [h]) q := fun y q hy a ha g hg => by
  rw [List.mem_singleton.mp ha, e]
  exact Nat.ne_of_gt ((o.one y q hy).lt g hg).1
theorem one_new {h : Hd} {xs : List Int} (e : h.k = n) (h5 : h.n < 5) (h2 : xs.length = 2) : One (xs, [h]) (n + 1) := ⟨h2, (fun z => nomatch z), by simp, fun a ha => by rw [List.mem_singleton.mp ha]; exact ⟨by omega, h5⟩⟩
theorem vok_fresh {f : Nat} {out : Option Nat} {h : Hd} {xs : List Int} (o : VOk v n) (e : h.k = n) (h5 : h.n < 5) (h2 : xs.length = 2) : VOk (lawMv v f out (xs, [h])) (n + 1) :=
  vok_mv (o.mono (Nat.le_succ n)) (one_new e h5 h2) (apart_new o e)
theorem vok_back {f s : Nat} {out : Option Nat} (o : VOk v n) (h : v (true, s) = some p) : VOk (lawMv (up v (true, s) none) f out p) n :=
  vok_mv (vok_del o) (o.one _ _ h) fun y q e => by
    by_cases z : y = (true, s)
    · rw [z, up_same] at e; cases e
    · rw [up_ne z] at e; exact o.ap _ y p q (Ne.symm z) h e
/-- one holder more -/
theorem vok_hold {h : Hd} (o : VOk v n) (hx : v x = some p) (e : h.k = n) (h5 : h.n < 5) : VOk (up v x (some (p.1, p.2 ++ [h]))) (n + 1) := by
  have o1 := (o.one x p hx)
  have o' := o.mono (Nat.le_succ n)
  refine vok_set o' hx ⟨o1.two, by simp, ?_, fun a ha => ?_⟩ fun b hb => ?_
  · show ((p.2 ++ [h]).map Hd.k).Nodup
    rw [List.map_append]
    refine List.nodup_append.mpr ⟨o1.nd, by simp, fun a ha b hb => ?_⟩
    obtain ⟨g, hg, rfl⟩ := List.mem_map.mp ha
    have hb : b = h.k := by simpa using hb
    rw [hb, e]
    exact Nat.ne_of_lt (o1.lt g hg).1
  · rcases List.mem_append.mp ha with z | z
    · exact ⟨Nat.lt_succ_of_lt (o1.lt a z).1, (o1.lt a z).2⟩
    · rw [List.mem_singleton.mp z]; exact ⟨by omega, h5⟩
  · rcases List.mem_append.mp hb with z | z
    · exact .inl ⟨b, z, rfl⟩
    · refine .inr fun y r _ er g hg => ?_
      rw [List.mem_singleton.mp z, e]
      exact Nat.ne_of_gt ((o.one y r er).lt g hg).1
theorem vok_less {hs : List Hd} (o : VOk v n) (hx : v x = some p) (hn : hs ≠ []) (hs' : hs.Sublist p.2) : VOk (up v x (some (p.1, hs))) n := by
  have o1 := (o.one x p hx)
  exact vok_set o hx ⟨o1.two, hn, o1.nd.sublist (hs'.map _), fun a ha => o1.lt a (hs'.subset ha)⟩ fun b hb => .inl ⟨b, hs'.subset hb, rfl⟩
theorem vok_box {xs : List Int} (o : VOk v n) (hx : v x = some p) (h2 : xs.length = 2) : VOk (up v x (some (xs, p.2))) n := by
  have o1 := (o.one x p hx)
  exact vok_set o hx ⟨h2, o1.ne, o1.nd, o1.lt⟩ fun b hb => .inl ⟨b, hb, rfl⟩
/-- two sheets become one -/
theorem vok_merge (o : VOk v n) (hx : v x = some p) (hy : v y = some q) (ne : x ≠ y) : VOk (up (up v y (some (q.1, q.2 ++ p.2))) x none) n := by
  have o1 := o.one x p hx
  have o2 := o.one y q hy
  rw [up_comm (Ne.symm ne)]
  have hy' : up v x none y = some q := by rw [up_ne (Ne.symm ne)]; exact hy
  refine vok_set (vok_del o) hy' ⟨o2.two, ?_, ?_, fun a ha => ?_⟩ fun b hb => ?_
  · intro e
    exact o2.ne (List.append_eq_nil_iff.mp e).1
  · show ((q.2 ++ p.2).map Hd.k).Nodup
    rw [List.map_append]
    refine List.nodup_append.mpr ⟨o2.nd, o1.nd, fun a ha b hb => ?_⟩
    obtain ⟨g, hg, rfl⟩ := List.mem_map.mp ha
    obtain ⟨f, hf, rfl⟩ := List.mem_map.mp hb
    exact o.ap y x q p (Ne.symm ne) hy hx g hg f hf
  · rcases List.mem_append.mp ha with z | z
    · exact o2.lt a z
    · exact o1.lt a z
  · rcases List.mem_append.mp hb with z | z
    · exact .inl ⟨b, z, rfl⟩
    · refine .inr fun w r nw er g hg => ?_
      by_cases h : w = x
      · rw [h, up_same] at er; cases er
      · rw [up_ne h] at er
        exact o.ap x w p r (Ne.symm h) hx er b z g hg
end
/-! ### the cells' holders are few -/
theorem few_all {m : Mp Cell} {n : Nat} (W : Twin m) (o : VOk (vw m) n) (h : n ≤ 63) : ∀ x c, m x = some c → Few c.hs := fun x c hm => by
  cases e : isSh x c with
  | true => exact (o.one x _ (vw_sh hm e)).few h
  | false =>
    obtain ⟨s, j⟩ := x
    cases s with
    | false => rw [isSh_frame] at e; cases e
    | true =>
      rw [isSh_slot] at e
      cases eb : c.bd with
      | none => rw [eb] at e; cases e
      | some i =>
        obtain ⟨c1, h1, b1⟩ := W.tw2 j c i hm eb
        obtain ⟨c2, h2, _, _, z⟩ := W.tw1 i c1 j h1 b1
        rw [hm] at h2
        cases h2
        rw [z]
        exact ⟨by decide, fun a ha => nomatch ha⟩
/-! ### folding -/
def spotAt (F i : Nat) : Spot := if i < F then (false, i) else (true, i - F)
def rankOf (F : Nat) (x : Spot) : Nat := if x.1 = true then F + x.2 else x.2
theorem rank_spot (F i : Nat) : rankOf F (spotAt F i) = i := by
  unfold rankOf spotAt
  by_cases h : i < F
  · rw [if_pos h]; exact if_neg (by simp)
  · rw [if_neg h]; exact (if_pos rfl).trans (by show F + (i - F) = i; omega)
theorem spot_rank {F : Nat} {x : Spot} (h : x.1 = false → x.2 < F) : spotAt F (rankOf F x) = x := by
  obtain ⟨s, j⟩ := x
  unfold rankOf spotAt
  cases s with
  | false =>
    have hj : j < F := h rfl
    have e : (if ((false, j) : Spot).1 = true then F + ((false, j) : Spot).2 else ((false, j) : Spot).2) = j := rfl
    rw [e, if_pos hj]
  | true =>
    have e : (if ((true, j) : Spot).1 = true then F + ((true, j) : Spot).2 else ((true, j) : Spot).2) = F + j := rfl
    rw [e, if_neg (by omega), show F + j - F = j by omega]
theorem spotAt_inj {F i j : Nat} (h : spotAt F i = spotAt F j) : i = j := by rw [← rank_spot F i, h, rank_spot]
abbrev noBk (hs : List Hd) : Prop := hs.any (·.bk) = false
/-- the law's replay of the moves -/
inductive Replay (F : Nat) : Vw → List (Spot × Spot) → Vw → Prop
  | nil (v : Vw) : Replay F v [] v
  | cons {v v' : Vw} {x y : Spot} {xs : List Int} {h1 h2 : List Hd} {r : List (Spot × Spot)} : v x = some (xs, h1) → v y = some (xs, h2) → noBk h1 → noBk h2 → rankOf F y < rankOf F x → Replay F (up (up v y (some (xs, h2 ++ h1))) x none) r v' → Replay F v ((x, y) :: r) v'
theorem Replay.snoc {F : Nat} {v v1 : Vw} {l : List (Spot × Spot)} (h : Replay F v l v1) {x y : Spot} {xs : List Int} {h1 h2 : List Hd} (a : v1 x = some (xs, h1)) (b : v1 y = some (xs, h2)) (c : noBk h1) (d : noBk h2) (e : rankOf F y < rankOf F x) :
    Replay F v (l ++ [(x, y)]) (up (up v1 y (some (xs, h2 ++ h1))) x none) := by
  induction h with
  | nil v => exact .cons a b c d e (.nil _)
  | cons p q r s t _ ih => exact .cons p q r s t (ih a b)
def look : List (List Int × Nat) → List Int → Option Nat
  | [], _ => none
  | (ys, j) :: r, xs => if ys = xs then some j else look r xs
theorem look_mem : ∀ {fs : List (List Int × Nat)} {xs : List Int} {j : Nat}, look fs xs = some j → (xs, j) ∈ fs
  | (ys, j') :: r, xs, j, h => by
    unfold look at h
    by_cases e : ys = xs
    · rw [if_pos e] at h; cases h; subst e; exact List.mem_cons_self
    · rw [if_neg e] at h; exact List.mem_cons_of_mem _ (look_mem h)
theorem look_snoc {fs : List (List Int × Nat)} {xs ys : List Int} {j : Nat} (h : look fs ys = none) : look (fs ++ [(ys, j)]) xs = if ys = xs then some j else look fs xs := by
  induction fs with
  | nil => rfl
  | cons p r ih =>
    obtain ⟨zs, i⟩ := p
    unfold look at h
    by_cases e : zs = ys
    · rw [if_pos e] at h; cases h
    · rw [if_neg e] at h
      show (if zs = xs then some i else look (r ++ [(ys, j)]) xs) = if ys = xs then some j else (if zs = xs then some i else look r xs)
      rw [ih h]
      by_cases e2 : ys = xs
      · subst e2; rw [if_neg e, if_pos rfl, if_pos rfl]
      · rw [if_neg e2, if_neg e2]
/-- through the turns -/
structure FoldI (F : Nat) (v0 v : Vw) (fs : List (List Int × Nat)) (mv : List (Spot × Spot)) (i : Nat) : Prop where
  rp : Replay F v0 mv v
  fst : ∀ xs j, (xs, j) ∈ fs → j < i ∧ ∃ hs, v (spotAt F j) = some (xs, hs) ∧ noBk hs
  all : ∀ j, j < i → ∀ xs hs, v (spotAt F j) = some (xs, hs) → noBk hs → look fs xs = some j
section
variable {F i j : Nat} {v0 v : Vw} {fs : List (List Int × Nat)} {mv : List (Spot × Spot)} {xs : List Int} {hs h2 : List Hd}
theorem FoldI.start (F : Nat) (v : Vw) : FoldI F v v [] [] 0 := ⟨.nil v, fun xs j h => (nomatch h), fun j h => absurd h (Nat.not_lt_zero j)⟩
/-- no sheet there, or one with a bank -/
theorem FoldI.skip (I : FoldI F v0 v fs mv i) (h : ∀ xs hs, v (spotAt F i) = some (xs, hs) → ¬ noBk hs) : FoldI F v0 v fs mv (i + 1) :=
  ⟨I.rp, fun xs j m => ⟨Nat.lt_succ_of_lt (I.fst xs j m).1, (I.fst xs j m).2⟩, fun j hj xs hs e b => by
    by_cases q : j = i
    · subst q; exact absurd b (h xs hs e)
    · exact I.all j (by omega) xs hs e b⟩
/-- the first with these values -/
theorem FoldI.first (I : FoldI F v0 v fs mv i) (hv : v (spotAt F i) = some (xs, hs)) (hb : noBk hs) (hl : look fs xs = none) : FoldI F v0 v (fs ++ [(xs, i)]) mv (i + 1) :=
  ⟨I.rp, fun ys j m => by
    rcases List.mem_append.mp m with z | z
    · exact ⟨Nat.lt_succ_of_lt (I.fst ys j z).1, (I.fst ys j z).2⟩
    · have z : (ys, j) = (xs, i) := List.mem_singleton.mp z
      cases z
      exact ⟨Nat.lt_succ_self i, hs, hv, hb⟩, fun j hj ys gs e b => by
    rw [look_snoc hl]
    by_cases q : j = i
    · subst q
      rw [hv] at e
      cases e
      rw [if_pos rfl]
    · have := I.all j (by omega) ys gs e b
      by_cases e2 : xs = ys
      · subst e2; rw [hl] at this; cases this
      · rw [if_neg e2]; exact this⟩
theorem any_app {h1 h2 : List Hd} (a : noBk h1) (b : noBk h2) : noBk (h1 ++ h2) := by
  unfold noBk at *
  rw [List.any_append, a, b]; rfl
/-- another with these values -/
theorem FoldI.again (I : FoldI F v0 v fs mv i) (hv : v (spotAt F i) = some (xs, hs)) (hb : noBk hs) (hl : look fs xs = some j) (hj : v (spotAt F j) = some (xs, h2)) : FoldI F v0 (up (up v (spotAt F j) (some (xs, h2 ++ hs))) (spotAt F i) none) fs (mv ++ [(spotAt F i, spotAt F j)]) (i + 1) := by
  have m := look_mem hl
  obtain ⟨lt, h2', e2, b2⟩ := I.fst _ _ m
  rw [hj] at e2
  cases e2
  have nij : spotAt F j ≠ spotAt F i := fun e => Nat.ne_of_lt lt (spotAt_inj e)
  refine ⟨I.rp.snoc hv hj hb b2 (by rw [rank_spot, rank_spot]; exact lt), fun ys k mk => ?_, fun k hk ys gs e b => ?_⟩
  · obtain ⟨lk, gs, eg, bg⟩ := I.fst ys k mk
    refine ⟨Nat.lt_succ_of_lt lk, ?_⟩
    have nki : spotAt F k ≠ spotAt F i := fun e => Nat.ne_of_lt lk (spotAt_inj e)
    rw [up_ne nki]
    by_cases q : k = j
    · subst q
      rw [hj] at eg
      cases eg
      exact ⟨h2 ++ hs, by rw [up_same], any_app b2 hb⟩
    · exact ⟨gs, by rw [up_ne (fun e => q (spotAt_inj e))]; exact eg, bg⟩
  · by_cases q : k = i
    · subst q; rw [up_same] at e; cases e
    · rw [up_ne (fun e => q (spotAt_inj e))] at e
      by_cases q2 : k = j
      · subst q2
        rw [up_same] at e
        cases e
        exact hl
      · rw [up_ne (fun e => q2 (spotAt_inj e))] at e
        exact I.all k (by omega) ys gs e b
/-- no two sheets without a bank are alike -/
def NoTwo (v : Vw) : Prop := ∀ x y xs h1 h2, v x = some (xs, h1) → v y = some (xs, h2) → noBk h1 → noBk h2 → x = y
theorem FoldI.done {G : Nat} (I : FoldI F v0 v fs mv (F + G)) (hb : ∀ x p, v x = some p → rankOf F x < F + G ∧ (x.1 = false → x.2 < F)) : NoTwo v := fun x y xs h1 h2 e1 e2 b1 b2 => by
  obtain ⟨r1, i1⟩ := hb x _ e1
  obtain ⟨r2, i2⟩ := hb y _ e2
  have s1 := spot_rank i1
  have s2 := spot_rank i2
  have a1 := I.all _ r1 xs h1 (by rw [s1]; exact e1) b1
  have a2 := I.all _ r2 xs h2 (by rw [s2]; exact e2) b2
  rw [a1] at a2
  rw [← s1, ← s2, Option.some.inj a2]
end
end Fl

set_option Elab.async false
set_option linter.all false
set_option maxRecDepth 100000
set_option maxHeartbeats 4000000
/-! fold. -/
namespace Fl
open PySem L2
/-- a move at t -/
def MvT (H : Hp) (t : Addr) (x y : Spot) : Prop := ∃ tx ty, H t = some (.tup [.ref tx, .ref ty]) ∧ H tx = some (.tup (spV x)) ∧ H ty = some (.tup (spV y))
theorem MvT.keep {H H' : Hp} {t : Addr} {x y : Spot} (h : MvT H t x y) (k : ∀ u vs, H u = some (.tup vs) → H' u = some (.tup vs)) : MvT H' t x y := by
  obtain ⟨tx, ty, h1, h2, h3⟩ := h
  exact ⟨tx, ty, k _ _ h1, k _ _ h2, k _ _ h3⟩
structure MovesAt (H : Hp) (l : Addr) (mv : List (Spot × Spot)) (ms : List Addr) : Prop where
  lst : H l = some (.lst (ms.map V.ref))
  len : ms.length = mv.length
  at_ : ∀ (k : Nat) t x y, ms[k]? = some t → mv[k]? = some (x, y) → MvT H t x y
theorem MovesAt.keep {H H' : Hp} {l : Addr} {mv : List (Spot × Spot)} {ms : List Addr} (h : MovesAt H l mv ms) (k : ∀ u vs, H u = some (.tup vs) → H' u = some (.tup vs)) (kl : ∀ vs, H l = some (.lst vs) → H' l = some (.lst vs)) : MovesAt H' l mv ms :=
  ⟨kl _ h.lst, h.len, fun i t x y e f => (h.at_ i t x y e f).keep k⟩
theorem MovesAt.snoc {H H' : Hp} {l t : Addr} {mv : List (Spot × Spot)} {ms : List Addr} {x y : Spot} (h : MovesAt H l mv ms) (k : ∀ u vs, H u = some (.tup vs) → H' u = some (.tup vs)) (kl : H' l = some (.lst ((ms ++ [t]).map V.ref))) (ht : MvT H' t x y) : MovesAt H' l (mv ++ [(x, y)]) (ms ++ [t]) := by
  refine ⟨kl, by rw [List.length_append, List.length_append, h.len]; rfl, fun i t' x' y' e f => ?_⟩
  by_cases hi : i < ms.length
  · rw [List.getElem?_append_left hi] at e
    rw [List.getElem?_append_left (by rw [← h.len]; exact hi)] at f
    exact (h.at_ i t' x' y' e f).keep k
  · rw [List.getElem?_append_right (by omega)] at e
    rw [List.getElem?_append_right (by rw [← h.len]; omega), ← h.len] at f
    cases q : i - ms.length with
    | zero => rw [q] at e f; cases e; cases f; exact ht
    | succ n => rw [q] at e; cases e
/-- the firsts' entries -/
def fsE (us : List Addr) (p : List Int × Nat) : List L2.Key × V := (p.1.map Sum.inl, V.ref ((us[p.2]?).getD 0))
theorem inl_inj : ∀ {xs ys : List Int}, (xs.map Sum.inl : List L2.Key) = ys.map Sum.inl → xs = ys
  | [], [], _ => rfl
  | [], y :: ys, h => by simp at h
  | x :: xs, [], h => by simp at h
  | x :: xs, y :: ys, h => by
    rw [List.map_cons, List.map_cons] at h
    injection h with h1 h2
    rw [Sum.inl.inj h1, inl_inj h2]
theorem nil_lst {H : Hp} {D : Addr} : upd H D (.lst []) D = some (.lst (([] : List Addr).map V.ref)) := upd_same
theorem fs_val {us : List Addr} {xs : List Int} : ∀ {fs : List (List Int × Nat)}, valV (fs.map (fsE us)) (xs.map Sum.inl) = (look fs xs).map fun j => V.ref ((us[j]?).getD 0)
  | [] => rfl
  | (ys, j) :: r => by
    by_cases e : ys = xs
    · subst e
      rw [List.map_cons, valV_pos (p := fsE us (ys, j)) (k := ys.map Sum.inl) rfl]
      unfold look
      rw [if_pos rfl]
      rfl
    · rw [List.map_cons, valV_neg (fun z => e (inl_inj z)), fs_val]
      show _ = (if ys = xs then some j else look r xs).map _
      rw [if_neg e]
abbrev spD (x : Spot) : PyData := .tuple [.str (sn x.1), .int (x.2 : Int)]
theorem sn_inj {a b : Bool} (h : sn a = sn b) : a = b := by
  cases a <;> cases b
  · rfl
  · exact absurd h (by decide +kernel)
  · exact absurd h (by decide +kernel)
  · rfl
theorem sp_eqv (x y : Spot) : PyData.eqv (spD x) (spD y) = decide (x = y) := by
  have e : PyData.eqv (spD x) (spD y) = ((sn x.1 == sn y.1) && (((x.2 : Int) == (y.2 : Int)) && true)) := by
    simp only [spD, PyData.eqv, PyData.eqvAll]
  rw [e]
  obtain ⟨s, i⟩ := x
  obtain ⟨t, j⟩ := y
  by_cases h : ((s, i) : Spot) = (t, j)
  · cases h
    rw [decide_eq_true rfl]
    simp
  · rw [decide_eq_false h]
    by_cases h1 : sn s = sn t
    · have h2 : ¬ ((i : Int) = (j : Int)) := fun z => h (by rw [sn_inj h1, Int.ofNat.inj z])
      simp [h2]
    · simp [h1]
theorem sp_dp {K : PySem.W.Frag} {H : Hp} {t : Addr} {x : Spot} (h : H t = some (.tup (spV x))) : Dp K H (.ref t) (spD x) := .tup (SqT.of h) (.cons (.str _) (.cons (.int _) .nil))
theorem sp_shaped (x : Spot) : PySem.SeqAt.shaped (spD x) = true := by
  have e : PyData.strOk (sn x.1) = true := by cases x.1 <;> decide +kernel
  unfold PySem.SeqAt.shaped
  simp [PyData.canLay0, PyData.canLayAll0, PyData.depth, PyData.depthAll, e]
theorem take_no {α : Type} {l : List α} (h : l.Nodup) {i : Nat} (hi : i < l.length) : l[i] ∉ l.take i := by
  intro m
  have e : l = l.take i ++ l.drop i := (List.take_append_drop i l).symm
  rw [e] at h
  have d : l[i] ∈ l.drop i := by rw [List.drop_eq_getElem_cons hi]; exact List.mem_cons_self
  exact (List.nodup_append.mp h).2.2 _ m _ d rfl
theorem upd_swap {H : Hp} {x y : Addr} {o u : HO} (h : x ≠ y) : upd (upd H x o) y u = upd (upd H y u) x o := by
  funext z
  by_cases e : z = x
  · subst e; rw [upd_same, upd_ne h, upd_same]
  · by_cases e2 : z = y
    · subst e2; rw [upd_same, upd_ne e, upd_same]
    · rw [upd_ne e, upd_ne e2, upd_ne e2, upd_ne e]
theorem pe_imp {X : Cx} {e : Expr} {t t' : TE} (h : PE X e t) (i : ∀ σ H Q, t' σ H Q → t σ H Q) : PE X e t' := ⟨fun pins s σ H Q I q => h.run pins s σ H Q I (i σ H Q q)⟩
/-- a cell of either class at the fifth name: has it a bank -/
def tBanked (a : Ad) : TE := fun σ H Q => ∃ (s : Bool) (c : Cell), σ[5]? = some (some (.ref c.q)) ∧ CellAt (clsOf a s) H c ∧ Q (.bl (c.hs.any (·.bk))) H
def spFold (a : Ad) : Sp := fun vs H Q _ => ∃ (S : Sh) (n : Nat), vs = [.ref S.p] ∧ ShAt a H S ∧ Lay S ∧ Twin S.m ∧ VOk (vw S.m) n ∧ n ≤ 63 ∧ S.F ≤ 64 ∧ S.G ≤ 64 ∧
  ∀ (H' : Hp) (m' : Mp Cell) (l : Addr) (mv : List (Spot × Spot)) (ms : List Addr), ShAt a H' (S.wm m') → Lay (S.wm m') → Twin m' → VOk (vw m') n → Fr S (S.wm m') H H' → MovesAt H' l mv ms → H l = none → mv.length ≤ 128 → Replay S.F (vw S.m) mv (vw m') → NoTwo (vw m') → Q (.ref l) H'
structure FoldAt (a : Ad) (S : Sh) (H0 H' : Hp) (n : Nat) (us : List Addr) (L fd ml : Addr) (i : Nat) (m' : Mp Cell) (fs : List (List Int × Nat)) (mv : List (Spot × Spot)) (ms : List Addr) : Prop where
  at_ : ShAt a H' (S.wm m')
  sub : Sub m' S.m
  tw : Twin m'
  ok : VOk (vw m') n
  keep : ∀ u o, H0 u = some o → ¬ Reg S u → H' u = some o
  lst : H' L = some (.lst (us.map V.ref))
  spots : ∀ (j : Nat) u, us[j]? = some u → H' u = some (.tup (spV (spotAt S.F j)))
  firsts : H' fd = some (.dT (fs.map (fsE us)))
  mvs : MovesAt H' ml mv ms
  mle : ms.length ≤ i
  fle : fs.length ≤ i
  inv : FoldI S.F (vw S.m) (vw m') fs mv i
section
variable {P : Program} {w : World} {K : PySem.W.Frag} {mg : Str → Option Value} {base : Heap} {a : Ad}
theorem inb_spot {S : Sh} (L : Lay S) {m : Mp Cell} (sub : Sub m S.m) {i : Nat} (hi : i < S.F + S.G) : (spotAt S.F i).2 < sz (S.wm m) (spotAt S.F i).1 := by
  unfold spotAt
  by_cases h : i < S.F
  · rw [if_pos h]; exact h
  · rw [if_neg h]; show i - S.F < S.G; omega
theorem ok_fold (T : Top K mg a) : FnOk P w K mg base CX0 3 a.fFold a.dFold ["self"] (spFold a) := by
  have GL : FnOk P w K mg base CX0 2 a.fLyingAt a.dLyingAt ["self", "spot"] (spLyingAt a) := ok_lyingAt T
  have GC : FnOk P w K mg base CX0 2 a.fCleared a.dCleared ["self", "spot"] (spCleared a) := ok_cleared T
  have GB : FnOk P w K mg base CX0 1 a.fLyBank a.dLyBank ["self"] (spBank a) := ok_bank T
  refine T.FFold.ok scFold (fun vs H Q E h => ?_) (fun cdv A outer s H vs Q E hr h => ?_)
  · obtain ⟨S, n, rfl, _⟩ := h
    rfl
  · obtain ⟨S, n, rfl, hS, hL, hT, hV, hn, hF, hG, k⟩ := h
    have hr1 : Room 1 _ := hr.mono (by decide)
    refine ⟨_, pss_cons (ps_setLc (i := 1) (own := [("k", 9)]) (g := gName 9) (tt := tYes) rfl scFold.nd rfl rfl (sw_true rfl rfl rfl (by decide +kernel)) (pi_range1 rfl T.zrange (pa_cons (pe_callB call_len_seq (by rfl) T.zlen PySem.boot_len (pa_cons (pe_fld (pv 0) rfl) pa_nil)) pa_nil)) (blkOk_by (N := NFold) (sc := defScope sFold) (by decide +kernel)) (fun _ _ _ _ _ => pg_name (i := 9) scFold.nd rfl (Or.inl rfl)) (fun _ _ _ _ _ => pts_nil) (fun _ _ _ _ _ => pe_tup (pa_cons pe_str (pa_cons (pv 9) pa_nil))))
      (pss_cons (ps_set (i := 1) scFold.nd rfl (.inl rfl) (pe_op op_cat (pv 1) (pe_lc (own := [("k", 9)]) (g := gName 9) (tt := tYes) rfl scFold.nd (pi_range1 rfl T.zrange (pa_cons (pe_callB call_len_seq (by rfl) T.zlen PySem.boot_len (pa_cons (pe_fld (pv 0) rfl) pa_nil)) pa_nil)) (blkOk_by (N := NFold) (sc := defScope sFold) (by decide +kernel)) (fun _ _ _ _ _ => pg_name (i := 9) scFold.nd rfl (Or.inl rfl)) (fun _ _ _ _ _ => pts_nil) (fun _ _ _ _ _ => pe_tup (pa_cons pe_str (pa_cons (pv 9) pa_nil))))))
      (pss_cons (ps_set (i := 2) scFold.nd rfl (.inl rfl) pe_dnewT)
      (pss_cons (ps_set (i := 3) scFold.nd rfl (.inl rfl) (pe_lst pa_nil))
      (pss_cons (ps_for PassesOwn.never rfl (pi_list (pv 1)) (pg_name (i := 4) scFold.nd rfl (.inl rfl))
        (pss_cons (ps_set (i := 5) scFold.nd rfl (.inl rfl) (pe_meth (pv 0) T.clS T.mLyingAt GL hr T.bLyingAt .nil pass0 (pa_cons (pv 4) pa_nil)))
        (pss_cons (ps_if (PW.pt (pw_or (pt_cmpR op_isN (pv 5) pe_non (nomark _)) (pw_or1 (pt_val (pe_imp (t' := tBanked a) (pe_or (pe_meth0 (pv 5) (T.cls false) (T.mBank false) GB hr1 T.bLyBank .nil pass0) (pe_meth0 (pv 5) (T.cls true) (T.mBank true) GB hr1 T.bLyBank .nil pass0)) (by
          rintro σ H Q ⟨s, c, e, h, q⟩
          cases s with
          | false => exact .inl ⟨_, e, c.q, c.dx, _, rfl, h.q, lyF_no (by decide +kernel) (by decide +kernel) (by decide +kernel), false, c.q, c.dx, c.b, c.d, _, c.hs, rfl, h.q, h.d, q⟩
          | true => exact .inr ⟨_, e, c.q, c.dx, _, rfl, h.q, lyF_no (by decide +kernel) (by decide +kernel) (by decide +kernel), true, c.q, c.dx, c.b, c.d, _, c.hs, rfl, h.q, h.d, q⟩)))))) (pss_one ps_continue) pss_nil)
        (pss_cons (ps_set (i := 6) scFold.nd rfl (.inl rfl) (pe_bm PySem.F.plainAttrs_dict PySem.F.slot_dict_setdefault PySem.F.type_dict_setdefault (mt_setdT (hu_of hr)) (pv 2) (pa_cons (pe_callTy call_tuple_of (by rfl) T.ztuple (by decide +kernel) (pa_cons (pe_fld (pv 5) rfl) pa_nil)) (pa_cons (pv 4) pa_nil))))
        (pss_one (ps_if (pt_cmpR (op_neD hr.units) (pv 6) (pv 4) (nomark _))
          (pss_cons (ps_set (i := 7) scFold.nd rfl (.inl rfl) (pe_meth (pv 0) T.clS T.mLyingAt GL hr T.bLyingAt .nil pass0 (pa_cons (pv 6) pa_nil)))
          (pss_cons (ps_lock (ps_for PassesOwn.never rfl (pi_keys (pe_fld (pv 5) rfl)) (pg_name (i := 8) scFold.nd rfl (.inl rfl)) (pss_one (ps_dput (hu_of hr) (pe_fld (pv 7) rfl) (pv 8) pe_bl rfl))))
          (pss_cons (ps_expr (pe_meth (pv 0) T.clS T.mCleared GC hr T.bCleared .nil pass0 (pa_cons (pv 4) pa_nil)))
          (pss_one (ps_expr (pe_bm PySem.F.plainAttrs_list PySem.F.slot_list_append PySem.F.type_list_append mt_append (pv 3) (pa_cons (pe_tup (pa_cons (pv 4) (pa_cons (pv 6) pa_nil))) pa_nil))))))) pss_nil))))))
      (pss_one (ps_ret (pv 3))))))), ?_⟩
    have two : 2 ≤ sizeLine := by decide
    -- spots
    refine ⟨_, rfl, S.p, _, S.dx, _, _, rfl, hS.p, T.clS, T.nS_in_frames, shF_frames, S.lf, _, rfl, .inl (SqL.of hS.lf), ?_⟩
    rw [row_length]
    refine ⟨_, rfl, by omega, by omega, fun D hD => ?_⟩
    refine lc_range (n := S.F) (fun i H' => (∃ us : List Addr, us.length = i ∧ H' D = some (.lst (us.map V.ref)) ∧ ∀ (j : Nat) u, us[j]? = some u → H' u = some (.tup (spV (false, j)))) ∧ ∀ u o, H u = some o → H' u = some o) ⟨⟨[], rfl, upd_same, fun j u e => nomatch e⟩, fun u o e => by rw [upd_ne (ne_of_none e hD)]; exact e⟩ ?_ ?_
    · rintro i H' hi ⟨⟨us, hlen, h1, h2⟩, h3⟩
      refine ⟨rfl, _, rfl, two, fun t nt => ⟨_, by rw [upd_ne (ne_of_none h1 nt)]; exact h1, by rw [List.length_map, hlen]; exact Nat.lt_of_lt_of_le hi (Nat.le_trans hF (by decide)), ⟨us ++ [t], by rw [List.length_append, hlen]; rfl, ?_, fun j u e => ?_⟩, fun u o e => ?_⟩⟩
      · rw [upd_same, List.map_append]; rfl
      · have nD : ∀ v vs, H' v = some (.tup vs) → v ≠ D := fun v vs e => ne_of e h1 (by intro z; cases z)
        by_cases hj : j < us.length
        · rw [List.getElem?_append_left hj] at e
          have := h2 j u e
          rw [upd_ne (nD _ _ this), upd_ne (ne_of_none this nt)]
          exact this
        · rw [List.getElem?_append_right (by omega)] at e
          cases q : j - us.length with
          | zero =>
            rw [q] at e
            cases e
            have ej : j = i := by omega
            rw [upd_ne (Ne.symm (ne_of_none h1 nt)), upd_same, ej]
            show some (HO.tup [V.str "frame", V.int (0 + (i : Int))]) = _
            rw [Int.zero_add]; rfl
          | succ m => rw [q] at e; cases e
      · have := h3 u o e
        rw [upd_ne (ne_of_none e hD), upd_ne (ne_of_none this nt)]
        exact this
    · rintro H1 ⟨⟨us1, len1, hD1, sp1⟩, k1⟩
      have A1 : ShAt a H1 S := hS.same fun u o _ e => k1 u o e
      refine ⟨_, rfl, _, rfl, S.p, _, S.dx, _, _, rfl, A1.p, T.clS, T.nS_in_slots, shF_slots, S.ls, _, rfl, .inl (SqL.of A1.ls), ?_⟩
      rw [row_length]
      refine ⟨_, rfl, by omega, by omega, fun D2 hD2 => ?_⟩
      refine lc_range (n := S.G) (fun i H' => (∃ us : List Addr, us.length = i ∧ H' D2 = some (.lst (us.map V.ref)) ∧ ∀ (j : Nat) u, us[j]? = some u → H' u = some (.tup (spV (true, j)))) ∧ ∀ u o, H1 u = some o → H' u = some o) ⟨⟨[], rfl, upd_same, fun j u e => nomatch e⟩, fun u o e => by rw [upd_ne (ne_of_none e hD2)]; exact e⟩ ?_ ?_
      · rintro i H' hi ⟨⟨us, hlen, h1, h2⟩, h3⟩
        refine ⟨rfl, _, rfl, two, fun t nt => ⟨_, by rw [upd_ne (ne_of_none h1 nt)]; exact h1, by rw [List.length_map, hlen]; exact Nat.lt_of_lt_of_le hi (Nat.le_trans hG (by decide)), ⟨us ++ [t], by rw [List.length_append, hlen]; rfl, ?_, fun j u e => ?_⟩, fun u o e => ?_⟩⟩
        · rw [upd_same, List.map_append]; rfl
        · have nD : ∀ v vs, H' v = some (.tup vs) → v ≠ D2 := fun v vs e => ne_of e h1 (by intro z; cases z)
          by_cases hj : j < us.length
          · rw [List.getElem?_append_left hj] at e
            have := h2 j u e
            rw [upd_ne (nD _ _ this), upd_ne (ne_of_none this nt)]
            exact this
          · rw [List.getElem?_append_right (by omega)] at e
            cases q : j - us.length with
            | zero =>
              rw [q] at e
              cases e
              have ej : j = i := by omega
              rw [upd_ne (Ne.symm (ne_of_none h1 nt)), upd_same, ej]
              show some (HO.tup [V.str "slot", V.int (0 + (i : Int))]) = _
              rw [Int.zero_add]; rfl
            | succ m => rw [q] at e; cases e
        · have := h3 u o e
          rw [upd_ne (ne_of_none e hD2), upd_ne (ne_of_none this nt)]
          exact this
      · rintro H2 ⟨⟨us2, len2, hD2', sp2⟩, k2⟩
        have hD1' := k2 _ _ hD1
        refine ⟨D, D2, us1.map V.ref, us2.map V.ref, rfl, rfl, hD1', hD2', ?_, fun L hL0 => ?_⟩
        · rw [List.length_map, List.length_map, len1, len2]
          exact Nat.le_trans (Nat.add_le_add hF hG) (by decide)
        -- firsts, moves
        intro fd nfd
        refine ⟨Nat.zero_le _, fun ml nml => ?_⟩
        have k3 : ∀ u o, H2 u = some o → upd (upd (upd H2 L (.lst (us1.map V.ref ++ us2.map V.ref))) fd (.dT [])) ml (.lst []) u = some o := fun u o e => by
          have a1 : upd H2 L (.lst (us1.map V.ref ++ us2.map V.ref)) u = some o := by rw [upd_ne (ne_of_none e hL0)]; exact e
          have a2 : upd (upd H2 L (.lst (us1.map V.ref ++ us2.map V.ref))) fd (.dT []) u = some o := by rw [upd_ne (ne_of_none a1 nfd)]; exact a1
          rw [upd_ne (ne_of_none a2 nml)]; exact a2
        have fL : upd (upd H2 L (.lst (us1.map V.ref ++ us2.map V.ref))) fd (.dT []) L = some (.lst ((us1 ++ us2).map V.ref)) := by
          rw [upd_ne (ne_of_none upd_same nfd), upd_same, List.map_append]
        have nLm : L ≠ ml := ne_of_none fL nml
        have hL3 : upd (upd (upd H2 L (.lst (us1.map V.ref ++ us2.map V.ref))) fd (.dT [])) ml (.lst []) L = some (.lst ((us1 ++ us2).map V.ref)) := by rw [upd_ne nLm]; exact fL
        have hfd3 : upd (upd (upd H2 L (.lst (us1.map V.ref ++ us2.map V.ref))) fd (.dT [])) ml (.lst []) fd = some (.dT (([] : List (List Int × Nat)).map (fsE (us1 ++ us2)))) := by rw [upd_ne (ne_of_none upd_same nml), upd_same]; rfl
        have hml3 : upd (upd (upd H2 L (.lst (us1.map V.ref ++ us2.map V.ref))) fd (.dT [])) ml (.lst []) ml = some (.lst (([] : List Addr).map V.ref)) := upd_same
        have back2 : ∀ u, H2 u = none → H u = none := fun u h => by
          cases e : H u with
          | none => rfl
          | some o => rw [k2 u o (k1 u o e)] at h; cases h
        have nfd2 : H2 fd = none := by
          cases e : H2 fd with
          | none => rfl
          | some o => rw [upd_ne (ne_of_none e hL0), e] at nfd; cases nfd
        have nml2 : H2 ml = none := by
          cases e : H2 ml with
          | none => rfl
          | some o =>
            have a1 : upd H2 L (.lst (us1.map V.ref ++ us2.map V.ref)) ml = some o := by rw [upd_ne (ne_of_none e hL0)]; exact e
            rw [upd_ne (ne_of_none a1 nfd), a1] at nml; cases nml
        have nLH := back2 L hL0
        have nfH := back2 fd nfd2
        have nmH := back2 ml nml2
        generalize upd (upd (upd H2 L (.lst (us1.map V.ref ++ us2.map V.ref))) fd (.dT [])) ml (.lst []) = H3 at k3 hL3 hfd3 hml3
        have lus : (us1 ++ us2).length = S.F + S.G := by rw [List.length_append, len1, len2]
        have sp3 : ∀ (j : Nat) u, (us1 ++ us2)[j]? = some u → H3 u = some (.tup (spV (spotAt S.F j))) := fun j u e => by
          unfold spotAt
          by_cases hj : j < S.F
          · rw [if_pos hj]
            rw [List.getElem?_append_left (by omega)] at e
            exact k3 _ _ (k2 _ _ (sp1 j u e))
          · rw [if_neg hj]
            rw [List.getElem?_append_right (by omega), len1] at e
            exact k3 _ _ (sp2 _ u e)
        have k03 : ∀ u o, H u = some o → H3 u = some o := fun u o e => k3 u o (k2 u o (k1 u o e))
        clear sp1 sp2 hD1' hD2' hD1 k1 k2 k3 nfd nml fL hL0 nfd2 nml2 back2 hD2 hD A1
        generalize us1 ++ us2 = us at hL3 hfd3 lus sp3
        have nR : ∀ u, H u = none → ¬ Reg S u := fun u h r => by
          obtain ⟨o, ho⟩ := hS.there r
          rw [h] at ho; cases ho
        -- the turns
        refine ⟨_, rfl, L, rfl, ⟨_, SqL.of hL3⟩, for_list (xs := us.map V.ref) (fun i σ H' => (∃ z4 z5 z6 z7 z8 : Option V, σ = [some (.ref S.p), some (.ref L), some (.ref fd), some (.ref ml), z4, z5, z6, z7, z8, none]) ∧ ∃ m' fs mv ms, FoldAt a S H H' n us L fd ml i m' fs mv ms) ⟨⟨_, _, _, _, _, rfl⟩, S.m, [], [], [], hS.same (fun u o _ e => k03 u o e), Sub.refl _, hT, hV, fun u o e _ => k03 u o e, hL3, sp3, hfd3, ⟨hml3, rfl, fun k t x y e => nomatch e⟩, Nat.le_refl _, Nat.le_refl _, FoldI.start _ _⟩ ?_ ?_ ?_⟩
        · rintro i σ H' _ ⟨_, m', fs, mv, ms, M⟩
          exact SqL.of M.lst
        · rintro i x σ H' hx ⟨⟨z4, z5, z6, z7, z8, rfl⟩, m', fs, mv, ms, M⟩
          obtain ⟨u, hu, rfl⟩ : ∃ u, us[i]? = some u ∧ V.ref u = x := by
            rw [List.getElem?_map] at hx
            cases e : us[i]? with
            | none => rw [e] at hx; cases hx
            | some u => rw [e] at hx; exact ⟨u, rfl, Option.some.inj hx⟩
          have hi : i < S.F + S.G := by
            have := (List.getElem?_eq_some_iff.mp hu).1
            omega
          have L' := hL.sub M.sub
          have hus := M.spots i u hu
          have hx0 := inb_spot hL M.sub hi
          have nL := nR L nLH
          have nf := nR fd nfH
          have nm := nR ml nmH
          refine ⟨_, rfl, S.p, S.dx, _, rfl, M.at_.p, shF_no (by decide +kernel), _, rfl, S.wm m', u, spotAt S.F i, rfl, M.at_, hus, hx0, ?_⟩
          -- the turn where nothing is done
          have skip : (∀ xs hs, vw m' (spotAt S.F i) = some (xs, hs) → ¬ noBk hs) → ∃ m' fs mv ms, FoldAt a S H H' n us L fd ml (i + 1) m' fs mv ms := fun h =>
            ⟨m', fs, mv, ms, M.at_, M.sub, M.tw, M.ok, M.keep, M.lst, M.spots, M.firsts, M.mvs, Nat.le_succ_of_le M.mle, Nat.le_succ_of_le M.fle, M.inv.skip h⟩
          cases hm : m' (spotAt S.F i) with
          | none =>
            rw [show lyV (S.wm m').m (spotAt S.F i) = .non from lyV_none hm]
            exact ⟨_, rfl, rfl, _, rfl, iteT (iteT ⟨⟨_, _, _, _, _, rfl⟩, skip fun xs hs e => by rw [vw_none hm] at e; cases e⟩)⟩
          | some cx =>
            cases hsh : isSh (spotAt S.F i) cx with
            | false =>
              rw [show lyV (S.wm m').m (spotAt S.F i) = .non from lyV_tw hm hsh]
              exact ⟨_, rfl, rfl, _, rfl, iteT (iteT ⟨⟨_, _, _, _, _, rfl⟩, skip fun xs hs e => by rw [vw_tw hm hsh] at e; cases e⟩)⟩
            | true =>
              rw [show lyV (S.wm m').m (spotAt S.F i) = .ref cx.q from lyV_sh hm hsh]
              have hcx : CellAt (clsOf a (spotAt S.F i).1) H' cx := M.at_.cs _ _ hm
              have hvx := vw_sh hm hsh
              refine ⟨_, rfl, rfl, _, rfl, iteF ⟨(spotAt S.F i).1, cx, rfl, hcx, _, rfl, ?_⟩⟩
              cases hbk : cx.hs.any (·.bk) with
              | true => exact iteT ⟨⟨_, _, _, _, _, rfl⟩, skip fun xs hs e b => by
                  rw [hvx] at e
                  cases e
                  have b : cx.hs.any (·.bk) = false := b
                  rw [hbk] at b; cases b⟩
              | false =>
                refine iteF ?_
                -- firsts.setdefault(tuple(lying.boxes), spot)
                refine ⟨_, rfl, .inr (.inr (.inl ⟨rfl, .inr ⟨_, M.firsts⟩⟩)), _, rfl, cx.q, _, cx.dx, _, _, rfl, hcx.q, T.cls _, T.nBoxes _, lyF_boxes, cx.b, _, rfl, .inl ⟨SqL.of hcx.b, fun b nb => ⟨_, rfl, ?_⟩⟩⟩
                have k1 : ∀ u o, H' u = some o → upd H' b (.tup (cx.xs.map V.int)) u = some o := fun u o e => by rw [upd_ne (ne_of_none e nb)]; exact e
                have hb1 : upd H' b (.tup (cx.xs.map V.int)) b = some (.tup ((cx.xs.map Sum.inl : List L2.Key).map kV)) := by
                  rw [upd_same, List.map_map]; rfl
                generalize upd H' b (.tup (cx.xs.map V.int)) = H1 at k1 hb1
                have A1 : ShAt a H1 (S.wm m') := M.at_.same fun u o _ e => k1 u o e
                have hcx1 : CellAt (clsOf a (spotAt S.F i).1) H1 cx := A1.cs _ _ hm
                have hus1 := k1 _ _ hus
                have hlt : (fs.map (fsE us)).length < sizeLine := by
                  rw [List.length_map]
                  have h1 := M.fle
                  exact Nat.lt_of_lt_of_le (by omega : fs.length < 200) (by decide)
                refine ⟨fd, _, cx.xs.map Sum.inl, b, _, rfl, rfl, k1 _ _ M.firsts, hb1, hlt, fun v hv => ?_, fun hv => ?_⟩
                · -- another sheet has these values
                  rw [fs_val] at hv
                  cases hl : look fs cx.xs with
                  | none => rw [hl] at hv; cases hv
                  | some j =>
                    obtain ⟨hji, h2, hvy, hb2⟩ := M.inv.fst _ _ (look_mem hl)
                    obtain ⟨uj, huj⟩ : ∃ uj, us[j]? = some uj := ⟨us[j]'(by omega), List.getElem?_eq_getElem (by omega)⟩
                    rw [hl] at hv
                    have hv : some (V.ref ((us[j]?).getD 0)) = some v := hv
                    rw [huj] at hv
                    have hv : some (V.ref uj) = some v := hv
                    cases hv
                    obtain ⟨cy, hmy, hshy, epy⟩ := vw_of hvy
                    injection epy with exy ehy
                    subst ehy
                    have nxy : spotAt S.F j ≠ spotAt S.F i := fun e => Nat.ne_of_lt hji (spotAt_inj e)
                    have huj1 := k1 _ _ (M.spots j uj huj)
                    refine ⟨_, rfl, _, rfl, spD (spotAt S.F j), spD (spotAt S.F i), sp_dp huj1, sp_dp hus1, sp_shaped _, sp_shaped _, _, rfl, ?_⟩
                    rw [sp_eqv, decide_eq_false nxy]
                    refine iteT ?_
                    have hcy1 : CellAt (clsOf a (spotAt S.F j).1) H1 cy := A1.cs _ _ hmy
                    refine ⟨_, rfl, S.p, S.dx, _, rfl, A1.p, shF_no (by decide +kernel), _, rfl, S.wm m', uj, spotAt S.F j, rfl, A1, huj1, inb_spot hL M.sub (by omega), ?_⟩
                    rw [show lyV (S.wm m').m (spotAt S.F j) = .ref cy.q from lyV_sh hmy hshy]
                    -- for holder in lying.held: kept.held[holder] = True
                    have fx := (M.ok.one _ _ hvx).few hn
                    have fy := (M.ok.one _ _ hvy).few hn
                    have hap := M.ok.ap _ _ _ _ (Ne.symm nxy) hvx hvy
                    have hnd : cx.hs.Nodup := by
                      have := (M.ok.one _ _ hvx).nd
                      exact List.Pairwise.of_map _ (fun a b h e => h (by rw [e])) this
                    have dxy : ∀ u, u ∈ adr cx → u ∉ adr cy := L'.dj _ _ cx cy hm hmy (Ne.symm nxy)
                    have dyx : ∀ u, u ∈ adr cy → u ∉ adr cx := L'.dj _ _ cy cx hmy hm nxy
                    have ncx := L'.cn _ cx hm
                    have ncy := L'.cn _ cy hmy
                    have inq : ∀ c : Cell, c.q ∈ adr c := fun c => mem_adr.mpr (.inl rfl)
                    have ind : ∀ c : Cell, c.d ∈ adr c := fun c => mem_adr.mpr (.inr (.inr rfl))
                    have q1 : cy.q ≠ cx.d := fun e => dxy _ (ind cx) (by rw [← e]; exact inq cy)
                    have q2 : cy.d ≠ cx.d := fun e => dxy _ (ind cx) (by rw [← e]; exact ind cy)
                    refine ⟨cx.d, _, hcx1.d, trivial, fun od => ?_⟩
                    refine ⟨_, rfl, cx.q, _, cx.dx, _, _, rfl, by rw [upd_ne ncx.2.1]; exact hcx1.q, T.cls _, T.nHeld _, lyF_held, cx.d, od, rfl, .inr ⟨_, upd_same, ?_⟩⟩
                    refine for_it walk_keysT (fun k σ H2 => (∃ z8 : Option V, σ = [some (.ref S.p), some (.ref L), some (.ref fd), some (.ref ml), some (.ref u), some (.ref cx.q), some (.ref uj), some (.ref cy.q), z8, none]) ∧ H2 cx.d = some (.frz od (hdT cx.hs)) ∧ ShAt a (upd H2 cx.d (hdT cx.hs)) (S.wm (up m' (spotAt S.F j) (some { cy with hs := cy.hs ++ cx.hs.take k }))) ∧ ∀ u o, H1 u = some o → u ≠ cx.d → u ≠ cy.d → H2 u = some o) ⟨⟨_, rfl⟩, upd_same, ?_, fun u o e h1 h2 => by rw [upd_ne h1]; exact e⟩ (fun k σ H2 _ hh => hh.2.1) ?_ ?_
                    · rw [upd_back hcx1.d]
                      have e0 : ({ cy with hs := cy.hs ++ cx.hs.take 0 } : Cell) = cy := by
                        show ({ cy with hs := cy.hs ++ [] } : Cell) = cy
                        rw [List.append_nil]
                      rw [e0, ← hmy, up_self]
                      exact A1
                    · rintro k x σ H2' H2 hk ⟨⟨z8, rfl⟩, hf, A2, k2⟩ ⟨rfl, kk, vv, t, hkk, rfl, ht⟩
                      have hk' : k < cx.hs.length := by simpa using hk
                      have ek : kk = cx.hs[k].key := by
                        rw [List.getElem?_map, List.getElem?_eq_getElem hk'] at hkk
                        injection hkk with hkk
                        injection hkk with hkk _
                        exact hkk.symm
                      subst ek
                      have hmy2 : (S.wm (up m' (spotAt S.F j) (some { cy with hs := cy.hs ++ cx.hs.take k }))).m (spotAt S.F j) = some { cy with hs := cy.hs ++ cx.hs.take k } := up_same
                      have hcy2 := A2.cs _ _ hmy2
                      have hq2 : H2 cy.q = some (.ins (clsOf a (spotAt S.F j).1) cy.dx (lyF cy.b cy.d (bdV cy.bd))) := by
                        have := hcy2.q
                        rw [upd_ne q1] at this; exact this
                      have hb2' : H2 cy.b = some (.lst (cy.xs.map V.int)) := by
                        have := hcy2.b
                        rw [upd_ne (fun e => dxy _ (ind cx) (by rw [← e]; exact mem_adr.mpr (.inr (.inl rfl))))] at this; exact this
                      have hd2 : H2 cy.d = some (hdT (cy.hs ++ cx.hs.take k)) := by
                        have := hcy2.d
                        rw [upd_ne q2] at this; exact this
                      have hmem : cx.hs[k] ∈ cx.hs := List.getElem_mem hk'
                      have hno : cx.hs[k] ∉ cy.hs ++ cx.hs.take k := fun h => by
                        rcases List.mem_append.mp h with z | z
                        · exact hap _ hmem _ z rfl
                        · exact take_no hnd hk' z
                      refine ⟨_, rfl, cy.q, _, cy.dx, _, _, rfl, hq2, T.cls _, T.nHeld _, lyF_held, _, rfl, cy.d, _, rfl, DPut.t (k := cx.hs[k].key) hd2 ht ?_, ?_⟩
                      · show ((cy.hs ++ cx.hs.take k).map hdE).length < sizeLine
                        rw [List.length_map, List.length_append, List.length_take]
                        have h1 : cx.hs.length < 64 := fx.1
                        have h2 : cy.hs.length < 64 := fy.1
                        exact Nat.lt_of_lt_of_le (by omega : cy.hs.length + min k cx.hs.length < 200) (by decide)
                      · have e : HO.dT (putK ((cy.hs ++ cx.hs.take k).map hdE) cx.hs[k].key (V.bl true)) = hdT (cy.hs ++ cx.hs.take (k + 1)) := by
                          rw [hd_put hno, List.take_succ_eq_append_getElem hk', List.append_assoc]; rfl
                        have e' : upd H2 cy.d (.dT (putK ((cy.hs ++ cx.hs.take k).map fun h => (h.key, V.bl true)) cx.hs[k].key (V.bl true))) = upd H2 cy.d (hdT (cy.hs ++ cx.hs.take (k + 1))) := congrArg _ e
                        rw [e']
                        refine ⟨⟨_, rfl⟩, by rw [upd_ne (Ne.symm q2)]; exact hf, ?_, fun u o e h1 h2 => by rw [upd_ne h2]; exact k2 u o e h1 h2⟩
                        rw [upd_swap q2]
                        have L2 : Lay (S.wm (up m' (spotAt S.F j) (some { cy with hs := cy.hs ++ cx.hs.take k }))) := L'.sub (Sub.cell hmy ⟨rfl, rfl, rfl⟩)
                        have A3 := A2.cell (u := cy.d) (o := hdT (cy.hs ++ cx.hs.take (k + 1))) (c' := { cy with hs := cy.hs ++ cx.hs.take (k + 1) }) L2 hmy2 (ind cy) rfl ⟨by rw [upd_ne ncy.2.1]; exact hcy2.q, by rw [upd_ne ncy.2.2]; exact hcy2.b, upd_same⟩
                        have A3' : ShAt a _ (S.wm (up (up m' (spotAt S.F j) (some { cy with hs := cy.hs ++ cx.hs.take k })) (spotAt S.F j) (some { cy with hs := cy.hs ++ cx.hs.take (k + 1) }))) := A3
                        rw [up_up] at A3'
                        exact A3'
                    · rintro σ H2 ⟨⟨z8, rfl⟩, hf, A2, k2⟩
                      refine ⟨hf, ?_⟩
                      have et : cx.hs.take (cx.hs.map fun h => (h.key, V.bl true)).length = cx.hs := by rw [List.length_map, List.take_length]
                      rw [et] at A2
                      have k3 : ∀ u o, H1 u = some o → u ≠ cy.d → upd H2 cx.d (hdT cx.hs) u = some o := fun u o e h => by
                        by_cases z : u = cx.d
                        · subst z; rw [upd_same]; rw [hcx1.d] at e; exact e
                        · rw [upd_ne z]; exact k2 u o e z h
                      generalize upd H2 cx.d (hdT cx.hs) = H3 at A2 k3
                      have tcy : ∀ v vs, H1 v = some (.tup vs) → v ≠ cy.d := fun v vs e => ne_of e hcy1.d (by intro z; cases z)
                      have hus3 := k3 _ _ hus1 (tcy _ _ hus1)
                      have L3 : Lay (S.wm (up m' (spotAt S.F j) (some { cy with hs := cy.hs ++ cx.hs }))) := L'.sub (Sub.cell hmy ⟨rfl, rfl, rfl⟩)
                      have W3 : Twin (up m' (spotAt S.F j) (some { cy with hs := cy.hs ++ cx.hs })) := twin_hs M.tw hmy hshy _
                      have hm3 : up m' (spotAt S.F j) (some { cy with hs := cy.hs ++ cx.hs }) (spotAt S.F i) = some cx := by rw [up_ne (Ne.symm nxy)]; exact hm
                      have v3 : vw (up m' (spotAt S.F j) (some { cy with hs := cy.hs ++ cx.hs })) = up (vw m') (spotAt S.F j) (some (cy.xs, cy.hs ++ cx.hs)) := vw_up_sh m' hshy
                      have s3 : Sub (up m' (spotAt S.F j) (some { cy with hs := cy.hs ++ cx.hs })) S.m := Sub.trans (Sub.cell hmy ⟨rfl, rfl, rfl⟩) M.sub
                      generalize hm3' : up m' (spotAt S.F j) (some { cy with hs := cy.hs ++ cx.hs }) = m3 at A2 L3 W3 hm3 v3 s3
                      -- self.cleared(spot)
                      refine ⟨_, rfl, S.p, S.dx, _, rfl, A2.p, shF_no (by decide +kernel), _, rfl, S.wm m3, u, spotAt S.F i, cx, rfl, A2, L3, hus3, hm3, fun e j' ej => ?_, fun H4 A4 k4 => ?_⟩
                      · have hm3 : (S.wm m3).m (spotAt S.F i) = some cx := hm3
                        revert hm3 e
                        generalize spotAt S.F i = x
                        obtain ⟨sx, ix⟩ := x
                        intro e hm3
                        have e : sx = false := e
                        subst e
                        exact Twin.lt (S := S.wm m3) W3 L3 hm3 ej
                      · have hcy0 : ∀ u o, H' u = some o → u ≠ cy.d → u ≠ S.lf → u ≠ S.ls → u ≠ cx.q → H4 u = some o := fun u o e h1 h2 h3 h4 => k4 u o (k3 u o (k1 u o e) h1) h2 h3 h4
                        have ry : ∀ w, w ∈ adr cy → Reg S w := fun w hw => reg_sub M.sub (Reg.cell (S := S.wm m') hmy hw)
                        have rx : ∀ w, w ∈ adr cx → Reg S w := fun w hw => reg_sub M.sub (Reg.cell (S := S.wm m') hm hw)
                        have off : ∀ u o, H' u = some o → ¬ Reg S u → H4 u = some o := fun u o e n => hcy0 u o e (fun z => n (by rw [z]; exact ry _ (ind cy))) (fun z => n (by rw [z]; exact .inr (.inl rfl))) (fun z => n (by rw [z]; exact .inr (.inr (.inl rfl)))) (fun z => n (by rw [z]; exact rx _ (inq cx)))
                        have tup4 : ∀ v vs, H' v = some (.tup vs) → H4 v = some (.tup vs) := fun v vs e => hcy0 v _ e (tcy _ _ (k1 _ _ e)) (ne_of e M.at_.lf (by intro z; cases z)) (ne_of e M.at_.ls (by intro z; cases z)) (ne_of e hcx.q (by intro z; cases z))
                        have hml4 := off _ _ M.mvs.lst nm
                        have hL4 := off _ _ M.lst nL
                        have hf4 := off _ _ M.firsts nf
                        have hus4 := tup4 _ _ hus
                        have huj4 := tup4 _ _ (M.spots j uj huj)
                        refine ⟨_, rfl, .inl ⟨rfl, _, SqL.of hml4⟩, _, rfl, _, rfl, two, fun t nt => ?_⟩
                        have hml5 : upd H4 t (.tup [.ref u, .ref uj]) ml = some (.lst (ms.map V.ref)) := by rw [upd_ne (ne_of_none hml4 nt)]; exact hml4
                        refine ⟨ml, _, _, rfl, rfl, hml5, ?_, ?_⟩
                        · rw [List.length_map]
                          have := M.mle
                          exact Nat.lt_of_lt_of_le (by omega : ms.length < 200) (by decide)
                        have ntm : t ≠ ml := fun z => by rw [z, hml4] at nt; cases nt
                        have k5 : ∀ w o, H4 w = some o → w ≠ ml → upd (upd H4 t (.tup [.ref u, .ref uj])) ml (.lst (ms.map V.ref ++ [.ref t])) w = some o := fun w o e h => by rw [upd_ne h, upd_ne (ne_of_none e nt)]; exact e
                        have vw4 : vw (clrM m3 (spotAt S.F i)) = up (up (vw m') (spotAt S.F j) (some (cx.xs, cy.hs ++ cx.hs))) (spotAt S.F i) none := by
                          rw [clr_vw W3 hm3, v3, exy]
                        have s4 : Sub (clrM m3 (spotAt S.F i)) S.m := Sub.trans (clr_sub hm3) s3
                        have nt0 : ∀ w, Reg S w → w ≠ ml := fun w r z => nm (by rw [← z]; exact r)
                        have tml : ∀ v vs, H4 v = some (.tup vs) → v ≠ ml := fun v vs e => ne_of e hml4 (by intro z; cases z)
                        refine ⟨⟨_, _, _, _, _, rfl⟩, clrM m3 (spotAt S.F i), fs, mv ++ [(spotAt S.F i, spotAt S.F j)], ms ++ [t], ?_, s4, clr_twin W3 hm3 hsh, ?_, fun w o e n => ?_, ?_, fun q w e => ?_, ?_, M.mvs.snoc (fun w vs e => ?_) ?_ ⟨u, uj, ?_, ?_, ?_⟩, ?_, Nat.le_succ_of_le M.fle, ?_⟩
                        · exact A4.same fun w o r e => k5 w o e (nt0 w (reg_sub s4 r))
                        · rw [vw4]
                          have := vok_merge M.ok hvx hvy (Ne.symm nxy)
                          exact this
                        · exact k5 w o (off w o (M.keep w o e n) n) (fun z => by rw [z, nmH] at e; cases e)
                        · refine k5 _ _ hL4 (fun z => ?_)
                          exact nLm z
                        · have h1 := tup4 _ _ (M.spots q w e)
                          exact k5 _ _ h1 (tml _ _ h1)
                        · exact k5 _ _ hf4 (ne_of hf4 hml4 (by intro z; cases z))
                        · have h1 := tup4 _ _ e
                          exact k5 _ _ h1 (tml _ _ h1)
                        · rw [upd_same, List.map_append]; rfl
                        · rw [upd_ne ntm, upd_same]
                        · exact k5 _ _ hus4 (tml _ _ hus4)
                        · exact k5 _ _ huj4 (tml _ _ huj4)
                        · rw [List.length_append]
                          exact Nat.succ_le_succ M.mle
                        · rw [vw4]
                          exact M.inv.again hvx hbk hl hvy
                · -- the first with these values
                  rw [fs_val] at hv
                  have hl : look fs cx.xs = none := by
                    cases e : look fs cx.xs with
                    | none => rfl
                    | some j => rw [e] at hv; cases hv
                  have nufd : ∀ u o, H1 u = some o → u ≠ fd → upd H1 fd (.dT (putK (fs.map (fsE us)) (cx.xs.map Sum.inl) (V.ref u))) u = some o := fun u o e h => by rw [upd_ne h]; exact e
                  have tu : ∀ v vs, H1 v = some (.tup vs) → v ≠ fd := fun v vs e => ne_of e (k1 _ _ M.firsts) (by intro z; cases z)
                  have eput : putK (fs.map (fsE us)) (cx.xs.map Sum.inl) (V.ref u) = (fs ++ [(cx.xs, i)]).map (fsE us) := by
                    rw [putK_new _ (by rw [fs_val, hl]; rfl), List.map_append]
                    show _ ++ [(cx.xs.map Sum.inl, V.ref u)] = _ ++ [(cx.xs.map Sum.inl, V.ref ((us[i]?).getD 0))]
                    rw [hu]; rfl
                  rw [eput]
                  refine ⟨_, rfl, _, rfl, spD (spotAt S.F i), spD (spotAt S.F i), sp_dp (x := spotAt S.F i) (by rw [upd_ne (tu _ _ hus1)]; exact hus1), sp_dp (x := spotAt S.F i) (by rw [upd_ne (tu _ _ hus1)]; exact hus1), sp_shaped _, sp_shaped _, _, rfl, ?_⟩
                  rw [sp_eqv, decide_eq_true rfl]
                  refine iteF ⟨⟨_, _, _, _, _, rfl⟩, m', fs ++ [(cx.xs, i)], mv, ms, A1.same fun u o r e => ?_, M.sub, M.tw, M.ok, fun u o e n => ?_, ?_, fun j u e => ?_, upd_same, M.mvs.keep (fun u vs e => ?_) (fun vs e => ?_), Nat.le_succ_of_le M.mle, ?_, M.inv.first hvx hbk hl⟩
                  · rw [upd_ne (fun z => nf (by rw [← z]; exact reg_sub M.sub r))]; exact e
                  · rw [upd_ne (fun z => by rw [z, nfH] at e; cases e)]; exact k1 _ _ (M.keep u o e n)
                  · rw [upd_ne (ne_of M.lst M.firsts (by intro z; cases z))]; exact k1 _ _ M.lst
                  · have := k1 _ _ (M.spots j u e)
                    rw [upd_ne (tu _ _ this)]; exact this
                  · have := k1 _ _ e
                    rw [upd_ne (tu _ _ this)]; exact this
                  · have := k1 _ _ e
                    rw [upd_ne (ne_of this (k1 _ _ M.firsts) (by intro z; cases z))]; exact this
                  · rw [List.length_append]
                    exact Nat.succ_le_succ M.fle
        · rintro σ H' ⟨⟨z4, z5, z6, z7, z8, rfl⟩, m', fs, mv, ms, M⟩
          have M : FoldAt a S H H' n us L fd ml (us.map V.ref).length m' fs mv ms := M
          rw [List.length_map, lus] at M
          have L' := hL.sub M.sub
          refine ⟨_, rfl, k H' m' ml mv ms M.at_ L' M.tw M.ok ⟨M.keep, fun u r => .inl (reg_sub M.sub r)⟩ M.mvs nmH ?_ M.inv.rp (M.inv.done fun x p e => ?_)⟩
          · rw [← M.mvs.len]
            have := M.mle
            omega
          · obtain ⟨c, hc, _⟩ := vw_of e
            have b := L'.inb x c hc
            obtain ⟨s, j⟩ := x
            cases s with
            | false =>
              have b : j < S.F := b
              exact ⟨by show j < S.F + S.G; omega, fun _ => b⟩
            | true =>
              have b : j < S.G := b
              exact ⟨by show S.F + j < S.F + S.G; omega, fun z => nomatch z⟩
end
end Fl

set_option Elab.async false
set_option linter.all false
set_option maxRecDepth 100000
set_option maxHeartbeats 4000000
/-! The law's small defs: cell, number, rank, like. -/
namespace Fl
open PySem L2
def spCell (K : PySem.W.Frag) : Sp := fun vs H Q _ => ∃ (l : Addr) (ns : List Int) (k : Nat), vs = [.ref l, .int (k : Int)] ∧ SqL K H l (ns.map V.int) ∧ Q (.int (ns.getD k 0)) H
def spNumber : Sp := fun vs H Q _ => ∃ (b : Bool) (c : Int) (k : Nat), vs = [.bl b, .int c, .int (k : Int)] ∧ k < 1000 ∧ ∀ z : Int, Q (.int z) H
def spRank (F : Nat) (w : Addr) : Sp := fun vs H Q _ => ∃ (f s t : Addr) (x : Spot) (zs : List V), vs = [.ref w, .ref t] ∧ H w = some (.lst [.ref f, .ref s]) ∧ H f = some (.lst zs) ∧ zs.length = F ∧ H t = some (.tup (spV x)) ∧ Q (.int (rankOf F x : Int)) H
def Leaf (x : V) : Prop := x = .non ∨ (∃ i, x = .int i) ∨ ∃ s, x = .str s
def LikeD (H : Hp) : Nat → V → V → Prop
  | 0 => fun _ _ => False
  | D + 1 => fun x y => (x = y ∧ Leaf x) ∨ ∃ (a b : Addr) (xs ys : List V), x = .ref a ∧ y = .ref b ∧ ((H a = some (.lst xs) ∧ H b = some (.lst ys)) ∨ (H a = some (.tup xs) ∧ H b = some (.tup ys))) ∧ xs.length = ys.length ∧ xs.length ≤ 1000 ∧
    ∀ (i : Nat) x y, xs[i]? = some x → ys[i]? = some y → LikeD H D x y
def spLike (D : Nat) : Sp := fun vs H Q _ => ∃ x y, vs = [x, y] ∧ LikeD H D x y ∧ Q (.bl true) H
section
variable {P : Program} {w : World} {K : PySem.W.Frag} {mg : Str → Option Value} {base : Heap} {a : Ad}
theorem ok_cell (T : Top K mg a) : FnOk P w K mg base CX0 1 a.fCell a.dCell ["_law_script", "_law_k"] (spCell K) := by
  refine T.FCell.ok scCell (fun vs H Q E h => ?_) (fun cdv A outer s H vs Q E hr h => ?_)
  · obtain ⟨l, ns, k, rfl, _⟩ := h
    rfl
  · obtain ⟨l, ns, k, rfl, hl, q⟩ := h
    refine ⟨_, pss_cons (ps_if (pt_cmpR op_lt (pv 1) (pe_callB call_len_seq (by rfl) T.zlen PySem.boot_len (pa_cons (pv 0) pa_nil)) (nomark _)) (pss_one (ps_ret (pe_ix ix_list (pv 0) (pv 1) (fun _ _ => rfl)))) pss_nil) (pss_one (ps_ret pe_int)), ?_⟩
    refine ⟨_, rfl, _, rfl, l, _, rfl, .inl hl, _, _, rfl, rfl, _, rfl, ?_⟩
    rw [List.length_map]
    by_cases h : k < ns.length
    · rw [decide_eq_true (by omega : ((k : Nat) : Int) < ((ns.length : Nat) : Int))]
      refine iteT ⟨_, rfl, _, rfl, l, _, _, _, rfl, rfl, hl, atI_nat (j := k) (by rw [List.getElem?_map, List.getElem?_eq_getElem h]; rfl), ?_⟩
      rw [List.getD_eq_getElem?_getD, List.getElem?_eq_getElem h] at q
      exact q
    · rw [decide_eq_false (by omega : ¬ ((k : Nat) : Int) < ((ns.length : Nat) : Int))]
      refine iteF ?_
      rw [List.getD_eq_getElem?_getD, List.getElem?_eq_none (by omega)] at q
      exact q
theorem ok_number (T : Top K mg a) : FnOk P w K mg base CX0 1 a.fNumber a.dNumber ["_law_digits", "_law_cell_here", "_law_k"] spNumber := by
  refine T.FNumber.ok scNumber (fun vs H Q E h => ?_) (fun cdv A outer s H vs Q E hr h => ?_)
  · obtain ⟨b, c, k, rfl, _⟩ := h
    rfl
  · obtain ⟨b, c, k, rfl, hk, q⟩ := h
    refine ⟨_, pss_cons (ps_if (pt_val (pv 0)) (pss_one (ps_ret (pe_op op_mod (pv 1) (pe_op op_pow pe_int pe_int)))) pss_nil)
      (pss_cons (ps_set (i := 3) scNumber.nd rfl (.inl rfl) (pe_op op_mod (pe_op op_add (pe_op op_add (pe_op op_mul (pv 1) pe_int) (pe_op op_mul (pe_op op_mul (pv 2) (pv 2)) pe_int)) (pv 2)) pe_int))
      (pss_one (ps_ret (pe_op op_add (pe_op op_mul (pv 3) pe_int) (pe_op op_mod (pe_op op_add (pe_op op_add (pe_op op_mul (pv 3) pe_int) (pe_op op_mul (pv 1) pe_int)) (pe_op op_mul (pe_op op_mul (pv 2) (pv 2)) (pv 2))) pe_int))))), ?_⟩
    refine ⟨_, rfl, b, rfl, ?_⟩
    have k64 : CMul (k : Int) (k : Int) := .inl ⟨by omega, by omega⟩
    have kk64 : ∀ j : Int, CMul j (k : Int) := fun j => .inr ⟨by omega, by omega⟩
    cases b with
    | true => exact iteT ⟨_, rfl, _, _, rfl, rfl, ⟨by decide, by decide, by decide⟩, _, _, rfl, rfl, (by show (0 : Int) < 10 ^ Int.toNat 60; decide), q _⟩
    | false =>
      refine iteF ⟨_, rfl, _, _, rfl, rfl, .inr ⟨by decide, by decide⟩, _, rfl, _, rfl, _, _, rfl, rfl, k64, _, _, rfl, rfl, .inr ⟨by decide, by decide⟩, _, _, rfl, rfl, _, rfl, _, _, rfl, rfl, _, _, rfl, rfl, (by show (0 : Int) < 2147483647; decide), ?_⟩
      refine ⟨_, rfl, _, _, rfl, rfl, .inr ⟨by decide, by decide⟩, _, rfl, _, _, rfl, rfl, .inr ⟨by decide, by decide⟩, _, rfl, _, _, rfl, rfl, .inr ⟨by decide, by decide⟩, _, _, rfl, rfl, _, rfl, _, rfl, _, _, rfl, rfl, k64, _, rfl, _, _, rfl, rfl, kk64 _, _, _, rfl, rfl, _, _, rfl, rfl, (by show (0 : Int) < 2147483629; decide), _, _, rfl, rfl, ?_⟩
      exact q _
theorem ok_rank (T : Top K mg a) (F : Nat) (wr : Addr) : FnOk P w K mg base CX0 1 a.fRank a.dRank ["_law_where", "_law_spot"] (spRank F wr) := by
  refine T.FRank.ok scRank (fun vs H Q E h => ?_) (fun cdv A outer s H vs Q E hr h => ?_)
  · obtain ⟨f, s, t, x, zs, rfl, _⟩ := h
    rfl
  · obtain ⟨f, sl, t, x, zs, rfl, hw, hf, hz, ht, q⟩ := h
    refine ⟨_, pss_cons (ps_if (pt_cmpR op_eq (pe_ix ix_tup (pv 1) pe_int (fun _ _ => rfl)) pe_str (nomark _)) (pss_one (ps_ret (pe_ix ix_tup (pv 1) pe_int (fun _ _ => rfl)))) pss_nil)
      (pss_one (ps_ret (pe_op op_add (pe_callB call_len_seq (by rfl) T.zlen PySem.boot_len (pa_cons (pe_ix ix_list (pv 0) pe_int (fun _ _ => rfl)) pa_nil)) (pe_ix ix_tup (pv 1) pe_int (fun _ _ => rfl))))), ?_⟩
    obtain ⟨sd, i⟩ := x
    refine ⟨_, rfl, t, _, _, _, rfl, rfl, SqT.of ht, atI_nat (j := 0) rfl, rfl, _, rfl, ?_⟩
    rw [sn_frame]
    cases sd with
    | false => exact iteT ⟨_, rfl, t, _, _, _, rfl, rfl, SqT.of ht, atI_nat (j := 1) rfl, q⟩
    | true =>
      refine iteF ⟨_, rfl, wr, _, _, _, rfl, rfl, SqL.of hw, atI_nat (j := 0) rfl, f, _, rfl, .inl (SqL.of hf), _, rfl, t, _, _, _, rfl, rfl, SqT.of ht, atI_nat (j := 1) rfl, _, _, rfl, rfl, ?_⟩
      rw [hz]
      have e : ((F : Nat) : Int) + ((i : Nat) : Int) = ((rankOf F (true, i) : Nat) : Int) := by
        show _ = ((F + i : Nat) : Int)
        omega
      show Q (V.int (((F : Nat) : Int) + ((i : Nat) : Int))) H
      rw [e]
      exact q
theorem ok_like (T : Top K mg a) : ∀ D, FnOk P w K mg base CX0 D a.fLike a.dLike ["_law_found", "_law_due"] (spLike D)
  | 0 => ⟨fun vs H Q E ⟨x, y, _, h, _⟩ => h.elim, fun A outer s H args us vs Q E _ _ _ _ ⟨x, y, _, h, _⟩ => h.elim⟩
  | D + 1 => by
    have GR : FnOk P w K mg base CX0 D a.fLike a.dLike ["_law_found", "_law_due"] (spLike D) := ok_like T D
    refine T.FLike.ok scLike (fun vs H Q E h => ?_) (fun cdv A outer s H vs Q E hr h => ?_)
    · obtain ⟨x, y, rfl, _⟩ := h
      rfl
    · obtain ⟨x, y, rfl, h, q⟩ := h
      refine ⟨_, pss_cons (ps_if (pt_cmpR op_isN (pv 1) pe_non (nomark _)) (pss_one (ps_ret (pe_cmpR op_isN (pv 0) pe_non (nomark _)))) pss_nil)
        (pss_cons (ps_if (pt_val (pe_callB call_isi (by rfl) T.zisinstance (by decide +kernel) (pa_cons (pv 1) (pa_cons (pe_bltn (v := .ty "bool") (by rfl) T.zbool (by decide +kernel) rfl) pa_nil)))) (pss_one (ps_ret (pe_and (pe_callB call_isi (by rfl) T.zisinstance (by decide +kernel) (pa_cons (pv 0) (pa_cons (pe_bltn (v := .ty "bool") (by rfl) T.zbool (by decide +kernel) rfl) pa_nil))) (pe_one (pe_cmpR op_eq (pv 0) (pv 1) (nomark _)))))) pss_nil)
        (pss_cons (ps_if (pt_val (pe_callB call_isi (by rfl) T.zisinstance (by decide +kernel) (pa_cons (pv 1) (pa_cons (pe_bltn (v := .ty "int") (by rfl) T.zint (by decide +kernel) rfl) pa_nil)))) (pss_one (ps_ret (pe_and (pe_callB call_isi (by rfl) T.zisinstance (by decide +kernel) (pa_cons (pv 0) (pa_cons (pe_bltn (v := .ty "int") (by rfl) T.zint (by decide +kernel) rfl) pa_nil))) (pe_and (pe_not (pe_callB call_isi (by rfl) T.zisinstance (by decide +kernel) (pa_cons (pv 0) (pa_cons (pe_bltn (v := .ty "bool") (by rfl) T.zbool (by decide +kernel) rfl) pa_nil)))) (pe_one (pe_cmpR op_eq (pv 0) (pv 1) (nomark _))))))) pss_nil)
        (pss_cons (ps_if (pt_val (pe_callB call_isi (by rfl) T.zisinstance (by decide +kernel) (pa_cons (pv 1) (pa_cons (pe_bltn (v := .ty "str") (by rfl) T.zstr (by decide +kernel) rfl) pa_nil)))) (pss_one (ps_ret (pe_and (pe_callB call_isi (by rfl) T.zisinstance (by decide +kernel) (pa_cons (pv 0) (pa_cons (pe_bltn (v := .ty "str") (by rfl) T.zstr (by decide +kernel) rfl) pa_nil))) (pe_one (pe_cmpR op_eq (pv 0) (pv 1) (nomark _)))))) pss_nil)
        (pss_cons (ps_if (PW.pt (pw_and (pt_val (pe_callB call_isi (by rfl) T.zisinstance (by decide +kernel) (pa_cons (pv 1) (pa_cons (pe_bltn (v := .ty "list") (by rfl) T.zlist (by decide +kernel) rfl) pa_nil)))) (pw_and1 (pt_not (pt_val (pe_callB call_isi (by rfl) T.zisinstance (by decide +kernel) (pa_cons (pv 0) (pa_cons (pe_bltn (v := .ty "list") (by rfl) T.zlist (by decide +kernel) rfl) pa_nil)))))))) (pss_one (ps_ret pe_bl)) pss_nil)
        (pss_cons (ps_if (PW.pt (pw_and (pt_val (pe_callB call_isi (by rfl) T.zisinstance (by decide +kernel) (pa_cons (pv 1) (pa_cons (pe_bltn (v := .ty "tuple") (by rfl) T.ztuple (by decide +kernel) rfl) pa_nil)))) (pw_and1 (pt_not (pt_val (pe_callB call_isi (by rfl) T.zisinstance (by decide +kernel) (pa_cons (pv 0) (pa_cons (pe_bltn (v := .ty "tuple") (by rfl) T.ztuple (by decide +kernel) rfl) pa_nil)))))))) (pss_one (ps_ret pe_bl)) pss_nil)
        (pss_cons (ps_if (pt_cmpR op_ne (pe_callB call_len_seq (by rfl) T.zlen PySem.boot_len (pa_cons (pv 0) pa_nil)) (pe_callB call_len_seq (by rfl) T.zlen PySem.boot_len (pa_cons (pv 1) pa_nil)) (nomark _)) (pss_one (ps_ret pe_bl)) pss_nil)
        (pss_cons (ps_for PassesOwn.never rfl (pi_range1 rfl T.zrange (pa_cons (pe_callB call_len_seq (by rfl) T.zlen PySem.boot_len (pa_cons (pv 1) pa_nil)) pa_nil)) (pg_name (i := 2) scLike.nd rfl (.inl rfl))
          (pss_one (ps_if (pt_not (pt_val (pe_call GR hr rfl T.gLike T.FLike.kp T.bLike .nil pass0 (pa_cons (pe_or (pe_ix ix_list (pv 0) (pv 2) (fun _ _ => rfl)) (pe_ix ix_tup (pv 0) (pv 2) (fun _ _ => rfl))) (pa_cons (pe_or (pe_ix ix_list (pv 1) (pv 2) (fun _ _ => rfl)) (pe_ix ix_tup (pv 1) (pv 2) (fun _ _ => rfl))) pa_nil))))) (pss_one (ps_ret pe_bl)) pss_nil)))
        (pss_one (ps_ret pe_bl))))))))), ?_⟩
      rcases h with ⟨rfl, h | ⟨i, rfl⟩ | ⟨t, rfl⟩⟩ | ⟨p, r, xs, ys, rfl, rfl, h, hlen, h1000, hall⟩
      · subst h
        exact ⟨_, rfl, rfl, _, rfl, iteT ⟨_, rfl, rfl, q⟩⟩
      · refine ⟨_, rfl, rfl, _, rfl, iteF ⟨_, rfl, _, .ty "bool", .type "int", .type "bool", false, rfl, .ty _, .base (.int i), kit_ty (by decide +kernel), _, rfl, iteF ⟨_, rfl, _, .ty "int", .type "int", .type "int", true, rfl, .ty _, .base (.int i), kit_ty (by decide +kernel), _, rfl, iteT ⟨_, rfl, _, .ty "int", .type "int", .type "int", true, rfl, .ty _, .base (.int i), kit_ty (by decide +kernel), _, rfl, iteT ⟨_, rfl, _, .ty "bool", .type "int", .type "bool", false, rfl, .ty _, .base (.int i), kit_ty (by decide +kernel), _, rfl, _, rfl, iteT ⟨_, rfl, _, rfl, rfl, ?_⟩⟩⟩⟩⟩⟩
        rw [decide_eq_true rfl]
        exact q
      · refine ⟨_, rfl, rfl, _, rfl, iteF ⟨_, rfl, _, .ty "bool", .type "str", .type "bool", false, rfl, .ty _, .base (.str t), kit_ty (by decide +kernel), _, rfl, iteF ⟨_, rfl, _, .ty "int", .type "str", .type "int", false, rfl, .ty _, .base (.str t), kit_ty (by decide +kernel), _, rfl, iteF ⟨_, rfl, _, .ty "str", .type "str", .type "str", true, rfl, .ty _, .base (.str t), kit_ty (by decide +kernel), _, rfl, iteT ⟨_, rfl, _, .ty "str", .type "str", .type "str", true, rfl, .ty _, .base (.str t), kit_ty (by decide +kernel), _, rfl, iteT ⟨_, rfl, _, rfl, rfl, ?_⟩⟩⟩⟩⟩⟩
        rw [decide_eq_true rfl]
        exact q
      · have h1000 : xs.length ≤ 1000 := h1000
        rcases h with ⟨h1, h2⟩ | ⟨h1, h2⟩
        ·
          refine ⟨_, rfl, rfl, _, rfl, iteF ⟨_, rfl, _, .ty "bool", .type "list", .type "bool", false, rfl, .ty _, .base (.lst h2), kit_ty (by decide +kernel), _, rfl, iteF ⟨_, rfl, _, .ty "int", .type "list", .type "int", false, rfl, .ty _, .base (.lst h2), kit_ty (by decide +kernel), _, rfl, iteF ⟨_, rfl, _, .ty "str", .type "list", .type "str", false, rfl, .ty _, .base (.lst h2), kit_ty (by decide +kernel), _, rfl, iteF ?_⟩⟩⟩⟩
          refine ⟨_, rfl, _, .ty "list", .type "list", .type "list", true, rfl, .ty _, .base (.lst h2), kit_ty (by decide +kernel), _, rfl, iteT ⟨_, rfl, _, .ty "list", .type "list", .type "list", true, rfl, .ty _, .base (.lst h1), kit_ty (by decide +kernel), _, rfl, iteF ?_⟩⟩
          refine ⟨_, rfl, _, .ty "tuple", .type "list", .type "tuple", false, rfl, .ty _, .base (.lst h2), kit_ty (by decide +kernel), _, rfl, iteF (iteF ?_)⟩
          refine ⟨_, rfl, p, _, rfl, .inl (SqL.of h1), _, rfl, r, _, rfl, .inl (SqL.of h2), rfl, _, rfl, ?_⟩
          rw [hlen, decide_eq_true rfl]
          refine iteF ⟨_, rfl, r, _, rfl, .inl (SqL.of h2), (ys.length : Int), rfl, by omega, by omega, for_range (n := ys.length) (fun i σ H' => H' = H ∧ ∃ z : Option V, σ = [some (.ref p), some (.ref r), z]) ⟨rfl, _, rfl⟩ ?_ ?_⟩
          · rintro i σ H' hi ⟨rfl, z, rfl⟩
            rw [Int.zero_add]
            have e1 : xs[i]? = some (xs[i]'(by omega)) := List.getElem?_eq_getElem _
            have e2 : ys[i]? = some ys[i] := List.getElem?_eq_getElem hi
            refine .inl ⟨_, rfl, _, rfl, p, _, _, _, rfl, rfl, SqL.of h1, atI_nat e1, .inl ⟨_, rfl, _, rfl, r, _, _, _, rfl, rfl, SqL.of h2, atI_nat e2, ?_⟩⟩
            refine ⟨_, _, rfl, hall i _ _ e1 e2, _, rfl, iteF ⟨rfl, _, rfl⟩⟩
          · rintro σ H' ⟨rfl, z, rfl⟩
            exact q
        ·
          refine ⟨_, rfl, rfl, _, rfl, iteF ⟨_, rfl, _, .ty "bool", .type "tuple", .type "bool", false, rfl, .ty _, .base (.tup h2), kit_ty (by decide +kernel), _, rfl, iteF ⟨_, rfl, _, .ty "int", .type "tuple", .type "int", false, rfl, .ty _, .base (.tup h2), kit_ty (by decide +kernel), _, rfl, iteF ⟨_, rfl, _, .ty "str", .type "tuple", .type "str", false, rfl, .ty _, .base (.tup h2), kit_ty (by decide +kernel), _, rfl, iteF ?_⟩⟩⟩⟩
          refine ⟨_, rfl, _, .ty "list", .type "tuple", .type "list", false, rfl, .ty _, .base (.tup h2), kit_ty (by decide +kernel), _, rfl, iteF (iteF ?_)⟩
          refine ⟨_, rfl, _, .ty "tuple", .type "tuple", .type "tuple", true, rfl, .ty _, .base (.tup h2), kit_ty (by decide +kernel), _, rfl, iteT ⟨_, rfl, _, .ty "tuple", .type "tuple", .type "tuple", true, rfl, .ty _, .base (.tup h1), kit_ty (by decide +kernel), _, rfl, iteF ?_⟩⟩
          refine ⟨_, rfl, p, _, rfl, .inr (SqT.of h1), _, rfl, r, _, rfl, .inr (SqT.of h2), rfl, _, rfl, ?_⟩
          rw [hlen, decide_eq_true rfl]
          refine iteF ⟨_, rfl, r, _, rfl, .inr (SqT.of h2), (ys.length : Int), rfl, by omega, by omega, for_range (n := ys.length) (fun i σ H' => H' = H ∧ ∃ z : Option V, σ = [some (.ref p), some (.ref r), z]) ⟨rfl, _, rfl⟩ ?_ ?_⟩
          · rintro i σ H' hi ⟨rfl, z, rfl⟩
            rw [Int.zero_add]
            have e1 : xs[i]? = some (xs[i]'(by omega)) := List.getElem?_eq_getElem _
            have e2 : ys[i]? = some ys[i] := List.getElem?_eq_getElem hi
            refine .inr ⟨_, rfl, _, rfl, p, _, _, _, rfl, rfl, SqT.of h1, atI_nat e1, .inr ⟨_, rfl, _, rfl, r, _, _, _, rfl, rfl, SqT.of h2, atI_nat e2, ?_⟩⟩
            refine ⟨_, _, rfl, hall i _ _ e1 e2, _, rfl, iteF ⟨rfl, _, rfl⟩⟩
          · rintro σ H' ⟨rfl, z, rfl⟩
            exact q
end
end Fl

set_option Elab.async false
set_option linter.all false
set_option maxRecDepth 100000
set_option maxHeartbeats 4000000
/-! The law's own picture: where. -/
namespace Fl
open PySem L2
structure WCell where
  o : Addr
  s : Addr
  h : Addr
  xs : List Int
  hs : List (Addr × Hd)
structure Wh where
  w : Addr
  f : Addr
  s : Addr
  F : Nat
  G : Nat
  m : Mp WCell
abbrev Wh.wm (W : Wh) (m : Mp WCell) : Wh := { W with m := m }
abbrev oV (c : WCell) : V := .ref c.o
def wadr (c : WCell) : List Addr := [c.o, c.s, c.h]
theorem mem_wadr {c : WCell} {u : Addr} : u ∈ wadr c ↔ u = c.o ∨ u = c.s ∨ u = c.h := by simp [wadr]
abbrev hdR (hs : List (Addr × Hd)) : List V := hs.map fun t => V.ref t.1
structure WCellAt (H : Hp) (c : WCell) : Prop where
  o : H c.o = some (.lst [.ref c.s, .ref c.h])
  s : H c.s = some (.lst (c.xs.map V.int))
  h : H c.h = some (.lst (hdR c.hs))
  at_ : ∀ t ∈ c.hs, AtHd H t
structure WAt (H : Hp) (W : Wh) : Prop where
  w : H W.w = some (.lst [.ref W.f, .ref W.s])
  f : H W.f = some (.lst (row oV W.m false W.F))
  s : H W.s = some (.lst (row oV W.m true W.G))
  cs : ∀ x c, W.m x = some c → WCellAt H c
def wsz (W : Wh) (s : Bool) : Nat := if s = true then W.G else W.F
def wlst (W : Wh) (s : Bool) : Addr := if s = true then W.s else W.f
structure WLay (W : Wh) : Prop where
  wf : W.w ≠ W.f
  ws : W.w ≠ W.s
  fs : W.f ≠ W.s
  cn : ∀ x c, W.m x = some c → c.o ≠ c.s ∧ c.o ≠ c.h ∧ c.s ≠ c.h
  dj : ∀ x y c c', W.m x = some c → W.m y = some c' → x ≠ y → ∀ u, u ∈ wadr c → u ∉ wadr c'
  bs : ∀ x c, W.m x = some c → ∀ u, u ∈ wadr c → u ≠ W.w ∧ u ≠ W.f ∧ u ≠ W.s
  inb : ∀ x c, W.m x = some c → x.2 < wsz W x.1
def WReg (W : Wh) (u : Addr) : Prop := u = W.w ∨ u = W.f ∨ u = W.s ∨ ∃ x c, W.m x = some c ∧ u ∈ wadr c
def wv (m : Mp WCell) : Vw := fun x => (m x).map fun c => (c.xs, c.hs.map Prod.snd)
section
variable {H H' : Hp} {W : Wh} {m : Mp WCell} {x : Spot} {c : WCell} {u : Addr}
theorem WReg.cell (h : W.m x = some c) (hu : u ∈ wadr c) : WReg W u := .inr (.inr (.inr ⟨x, c, h, hu⟩))
theorem WCellAt.keep (a : WCellAt H c) (k : ∀ u o, u ∈ wadr c → H u = some o → H' u = some o) (kt : ∀ u vs, H u = some (.tup vs) → H' u = some (.tup vs)) : WCellAt H' c :=
  ⟨k _ _ (mem_wadr.mpr (.inl rfl)) a.o, k _ _ (mem_wadr.mpr (.inr (.inl rfl))) a.s, k _ _ (mem_wadr.mpr (.inr (.inr rfl))) a.h, fun t ht => kt _ _ (a.at_ t ht)⟩
theorem WAt.there (A : WAt H W) (h : WReg W u) : ∃ l, H u = some (.lst l) := by
  rcases h with rfl | rfl | rfl | ⟨y, c, hc, hu⟩
  · exact ⟨_, A.w⟩
  · exact ⟨_, A.f⟩
  · exact ⟨_, A.s⟩
  · have z := A.cs y c hc
    rcases mem_wadr.mp hu with rfl | rfl | rfl
    · exact ⟨_, z.o⟩
    · exact ⟨_, z.s⟩
    · exact ⟨_, z.h⟩
theorem WAt.same (A : WAt H W) (k : ∀ u o, WReg W u → H u = some o → H' u = some o) (kt : ∀ u vs, H u = some (.tup vs) → H' u = some (.tup vs)) : WAt H' W :=
  ⟨k _ _ (.inl rfl) A.w, k _ _ (.inr (.inl rfl)) A.f, k _ _ (.inr (.inr (.inl rfl))) A.s, fun y c h => (A.cs y c h).keep (fun u o hu e => k u o (WReg.cell h hu) e) kt⟩
theorem wv_none (h : m x = none) : wv m x = none := by unfold wv; rw [h]; rfl
theorem wv_some (h : m x = some c) : wv m x = some (c.xs, c.hs.map Prod.snd) := by unfold wv; rw [h]; rfl
theorem wv_of {p : Sheet} (h : wv m x = some p) : ∃ c, m x = some c ∧ p = (c.xs, c.hs.map Prod.snd) := by
  unfold wv at h
  cases e : m x with
  | none => rw [e] at h; cases h
  | some c => rw [e] at h; exact ⟨c, rfl, (Option.some.inj h).symm⟩
theorem wv_no (h : wv m x = none) : m x = none := by
  cases e : m x with
  | none => rfl
  | some c => rw [wv_some e] at h; cases h
theorem wv_up (v : Option WCell) : wv (up m x v) = up (wv m) x (v.map fun c => (c.xs, c.hs.map Prod.snd)) := by
  funext y
  by_cases e : y = x
  · subst e
    unfold wv
    rw [up_same, up_same]
  · rw [up_ne e]
    unfold wv
    rw [up_ne e]
theorem wv_mv (f : Nat) (out : Option Nat) (one : WCell) : wv (lawMv m f out one) = lawMv (wv m) f out (one.xs, one.hs.map Prod.snd) := by
  cases out with
  | none => exact wv_up _
  | some g =>
    show wv (up (up m (true, g) (m (false, f))) (false, f) (some one)) = _
    rw [wv_up, wv_up]
    rfl
/-- cells that lie elsewhere now -/
theorem mv_of {f : Nat} {out : Option Nat} {one c' : WCell} {y : Spot} (h : lawMv m f out one y = some c') : (y = (false, f) ∧ c' = one) ∨ (y ≠ (false, f) ∧ (∃ g, out = some g ∧ y = (true, g) ∧ m (false, f) = some c')) ∨ (y ≠ (false, f) ∧ (∀ g, out = some g → y ≠ (true, g)) ∧ m y = some c') := by
  unfold lawMv at h
  by_cases e : y = (false, f)
  · subst e
    rw [up_same] at h
    exact .inl ⟨rfl, (Option.some.inj h).symm⟩
  · rw [up_ne e] at h
    cases out with
    | none => exact .inr (.inr ⟨e, fun g z => (nomatch z), h⟩)
    | some g =>
      have h : up m (true, g) (m (false, f)) y = some c' := h
      by_cases e2 : y = (true, g)
      · rw [e2, up_same] at h
        exact .inr (.inl ⟨e, g, rfl, e2, h⟩)
      · rw [up_ne e2] at h
        exact .inr (.inr ⟨e, fun g' z => (Option.some.inj z) ▸ e2, h⟩)
theorem wmv_lay {f : Nat} {out : Option Nat} {one : WCell} (L : WLay W) (hf : f < W.F) (hg : ∀ g, out = some g → g < W.G) (on : one.o ≠ one.s ∧ one.o ≠ one.h ∧ one.s ≠ one.h) (ob : ∀ u, u ∈ wadr one → u ≠ W.w ∧ u ≠ W.f ∧ u ≠ W.s) (od : ∀ y c, W.m y = some c → ∀ u, u ∈ wadr one → u ∉ wadr c) : WLay (W.wm (lawMv W.m f out one)) := by
  refine ⟨L.wf, L.ws, L.fs, fun y c h => ?_, fun y z c c' h h' ne u hu hu' => ?_, fun y c h => ?_, fun y c h => ?_⟩
  · rcases mv_of h with ⟨_, rfl⟩ | ⟨_, g, _, _, e⟩ | ⟨_, _, e⟩
    · exact on
    · exact L.cn _ _ e
    · exact L.cn _ _ e
  · rcases mv_of h with ⟨ey, e⟩ | ⟨n1, g, eo, ey, e⟩ | ⟨n1, n2, e⟩
    · subst e
      rcases mv_of h' with ⟨ez, _⟩ | ⟨_, g', _, ez, e'⟩ | ⟨_, _, e'⟩
      · exact ne (ey.trans ez.symm)
      · exact od _ _ e' u hu hu'
      · exact od _ _ e' u hu hu'
    · rcases mv_of h' with ⟨ez, e'⟩ | ⟨_, g', eo', ez, e'⟩ | ⟨n3, n4, e'⟩
      · subst e'; exact od _ _ e u hu' hu
      · rw [eo] at eo'; cases eo'; exact ne (ey.trans ez.symm)
      · exact L.dj _ _ _ _ e e' (Ne.symm n3) u hu hu'
    · rcases mv_of h' with ⟨ez, e'⟩ | ⟨n3, g', eo', ez, e'⟩ | ⟨n3, n4, e'⟩
      · subst e'; exact od _ _ e u hu' hu
      · exact L.dj _ _ _ _ e e' n1 u hu hu'
      · exact L.dj _ _ _ _ e e' ne u hu hu'
  · rcases mv_of h with ⟨_, rfl⟩ | ⟨_, g, _, _, e⟩ | ⟨_, _, e⟩
    · exact ob
    · exact L.bs _ _ e
    · exact L.bs _ _ e
  · show y.2 < wsz W y.1
    rcases mv_of h with ⟨rfl, _⟩ | ⟨_, g, eo, rfl, e⟩ | ⟨_, _, e⟩
    · exact hf
    · exact hg g eo
    · exact L.inb _ _ e
theorem wmv_reg {f : Nat} {out : Option Nat} {one : WCell} (r : WReg (W.wm (lawMv W.m f out one)) u) : WReg W u ∨ u ∈ wadr one := by
  rcases r with e | e | e | ⟨y, c, h, hu⟩
  · exact .inl (.inl e)
  · exact .inl (.inr (.inl e))
  · exact .inl (.inr (.inr (.inl e)))
  · rcases mv_of h with ⟨_, rfl⟩ | ⟨_, g, _, _, e⟩ | ⟨_, _, e⟩
    · exact .inr hu
    · exact .inl (WReg.cell e hu)
    · exact .inl (WReg.cell e hu)
theorem wmv_at {f : Nat} {out : Option Nat} {one : WCell} (A : WAt H W) (L : WLay W) (O : WCellAt H one) (ob : ∀ u, u ∈ wadr one → u ≠ W.w ∧ u ≠ W.f ∧ u ≠ W.s) (h1 : H' W.f = some (.lst (row oV (lawMv W.m f out one) false W.F))) (h2 : H' W.s = some (.lst (row oV (lawMv W.m f out one) true W.G))) (k : ∀ u o, H u = some o → u ≠ W.f → u ≠ W.s → H' u = some o) : WAt H' (W.wm (lawMv W.m f out one)) := by
  have kt : ∀ u vs, H u = some (.tup vs) → H' u = some (.tup vs) := fun u vs e => k u _ e (ne_of e A.f (by intro z; cases z)) (ne_of e A.s (by intro z; cases z))
  refine ⟨k _ _ A.w L.wf L.ws, h1, h2, fun y c h => ?_⟩
  rcases mv_of h with ⟨_, rfl⟩ | ⟨_, g, _, _, e⟩ | ⟨_, _, e⟩
  · exact O.keep (fun u o hu e => k u o e (ob u hu).2.1 (ob u hu).2.2) kt
  · exact (A.cs _ _ e).keep (fun u o hu q => k u o q (L.bs _ _ e u hu).2.1 (L.bs _ _ e u hu).2.2) kt
  · exact (A.cs _ _ e).keep (fun u o hu q => k u o q (L.bs _ _ e u hu).2.1 (L.bs _ _ e u hu).2.2) kt
end
def spMoved : Sp := fun vs H Q _ => ∃ (W : Wh) (t f : Nat) (out : Option Nat) (one : WCell), vs = [.ref W.w, .ref t, .ref one.o] ∧ H W.w = some (.lst [.ref W.f, .ref W.s]) ∧ H W.f = some (.lst (row oV W.m false W.F)) ∧ H W.s = some (.lst (row oV W.m true W.G)) ∧ W.w ≠ W.f ∧ W.w ≠ W.s ∧ W.f ≠ W.s ∧ FoundAt H t f out ∧ f < W.F ∧ (∀ g, out = some g → g < W.G) ∧
  ∀ H' : Hp, H' W.f = some (.lst (row oV (lawMv W.m f out one) false W.F)) → H' W.s = some (.lst (row oV (lawMv W.m f out one) true W.G)) → (∀ u o, H u = some o → u ≠ W.f → u ≠ W.s → H' u = some o) → Q .non H'
section
variable {P : Program} {w : World} {K : PySem.W.Frag} {mg : Str → Option Value} {base : Heap} {a : Ad}
theorem ok_moved (T : Top K mg a) : FnOk P w K mg base CX0 1 a.fMoved a.dMoved ["_law_where", "_law_found", "_law_one"] spMoved := by
  refine T.FMoved.ok scMoved (fun vs H Q E h => ?_) (fun cdv A outer s H vs Q E hr h => ?_)
  · obtain ⟨W, t, f, out, one, rfl, _⟩ := h
    rfl
  · obtain ⟨W, t, f, out, one, rfl, hw, hf, hs, nwf, nws, nfs, fo, lf, lg, k⟩ := h
    refine ⟨_, pss_cons (ps_if (pt_cmpR op_notN (pe_ix ix_tup (pv 1) pe_int (fun _ _ => rfl)) pe_non (nomark _))
        (pss_one (ps_asg (pe_ix ix_list (pe_ix ix_list (pv 0) pe_int (fun _ _ => rfl)) (pe_ix ix_tup (pv 1) pe_int (fun _ _ => rfl)) (fun _ _ => rfl)) (pg_sub (pe_ix ix_list (pv 0) pe_int (fun _ _ => rfl)) (pe_ix ix_tup (pe_ix ix_tup (pv 1) pe_int (fun _ _ => rfl)) pe_int (fun _ _ => rfl)) set_list))) pss_nil)
      (pss_one (ps_asg (pv 2) (pg_sub (pe_ix ix_list (pv 0) pe_int (fun _ _ => rfl)) (pe_ix ix_tup (pv 1) pe_int (fun _ _ => rfl)) set_list))), ?_⟩
    obtain ⟨lp, z, ht, hz⟩ := fo
    refine ⟨_, rfl, t, _, _, _, rfl, rfl, SqT.of ht, atI_nat (j := 2) rfl, rfl, _, rfl, ?_⟩
    cases out with
    | none =>
      have hz : z = V.non := hz
      subst hz
      refine iteF ⟨_, rfl, _, rfl, W.w, _, _, _, rfl, rfl, SqL.of hw, atI_nat (j := 0) rfl, _, rfl, t, _, _, _, rfl, rfl, SqT.of ht, atI_nat (j := 0) rfl, W.f, _, _, f, rfl, rfl, hf, (by rw [row_length]; exact ixN_nat lf), ?_⟩
      have e : (row oV W.m false W.F).set f (V.ref one.o) = row oV (up W.m (false, f) (some one)) false W.F := row_set (v := some one) lf
      rw [e]
      refine k _ upd_same ?_ fun u o h1 h2 h3 => by rw [upd_ne h2]; exact h1
      rw [upd_ne (Ne.symm nfs)]
      show _ = some (HO.lst (row oV (up W.m (false, f) (some one)) true W.G))
      rw [row_other (by decide)]
      exact hs
    | some g =>
      obtain ⟨o, r, hz, ho⟩ := hz
      subst hz
      have hg := lg g rfl
      refine iteT ⟨_, rfl, W.w, _, _, _, rfl, rfl, SqL.of hw, atI_nat (j := 0) rfl, _, rfl, t, _, _, _, rfl, rfl, SqT.of ht, atI_nat (j := 0) rfl, W.f, _, _, _, rfl, rfl, SqL.of hf, atI_nat (row_get lf), ?_⟩
      refine ⟨_, rfl, W.w, _, _, _, rfl, rfl, SqL.of hw, atI_nat (j := 1) rfl, _, rfl, t, _, _, _, rfl, rfl, SqT.of ht, atI_nat (j := 2) rfl, o, _, _, _, rfl, rfl, SqT.of ho, atI_nat (j := 0) rfl, W.s, _, _, g, rfl, rfl, hs, (by rw [row_length]; exact ixN_nat hg), ?_⟩
      have e : (row oV W.m true W.G).set g (optV oV (W.m (false, f))) = row oV (up W.m (true, g) (W.m (false, f))) true W.G := row_set (v := W.m (false, f)) hg
      rw [e]
      have hw1 : upd H W.s (.lst (row oV (up W.m (true, g) (W.m (false, f))) true W.G)) W.w = some (.lst [.ref W.f, .ref W.s]) := by rw [upd_ne nws]; exact hw
      have ht1 : upd H W.s (.lst (row oV (up W.m (true, g) (W.m (false, f))) true W.G)) t = some (.tup [.int (f : Int), .ref lp, .ref o]) := by rw [upd_ne (ne_of ht hs (by intro z; cases z))]; exact ht
      have hf1 : upd H W.s (.lst (row oV (up W.m (true, g) (W.m (false, f))) true W.G)) W.f = some (.lst (row oV (up W.m (true, g) (W.m (false, f))) false W.F)) := by rw [upd_ne nfs, row_other (by decide)]; exact hf
      refine ⟨_, rfl, _, rfl, W.w, _, _, _, rfl, rfl, SqL.of hw1, atI_nat (j := 0) rfl, _, rfl, t, _, _, _, rfl, rfl, SqT.of ht1, atI_nat (j := 0) rfl, W.f, _, _, f, rfl, rfl, hf1, (by rw [row_length]; exact ixN_nat lf), ?_⟩
      have e2 : (row oV (up W.m (true, g) (W.m (false, f))) false W.F).set f (V.ref one.o) = row oV (up (up W.m (true, g) (W.m (false, f))) (false, f) (some one)) false W.F := row_set (v := some one) lf
      rw [e2]
      refine k _ upd_same ?_ fun u o h1 h2 h3 => by rw [upd_ne h2, upd_ne h3]; exact h1
      rw [upd_ne (Ne.symm nfs), upd_same]
      have e3 : row oV (up (up W.m (true, g) (W.m (false, f))) (false, f) (some one)) true W.G = row oV (up W.m (true, g) (W.m (false, f))) true W.G := row_other (by decide)
      exact congrArg (fun z => some (HO.lst z)) e3.symm
end
end Fl

set_option Elab.async false
set_option linter.all false
set_option maxRecDepth 100000
set_option maxHeartbeats 4000000
/-! The sheets and the law's picture side by side. -/
namespace Fl
open PySem L2
structure Tog (a : Ad) (H : Hp) (S : Sh) (W : Wh) (n : Nat) : Prop where
  sh : ShAt a H S
  sl : Lay S
  tw : Twin S.m
  wat : WAt H W
  wl : WLay W
  dj : ∀ u, Reg S u → ¬ WReg W u
  eF : W.F = S.F
  eG : W.G = S.G
  ev : vw S.m = wv W.m
  ok : VOk (vw S.m) n
  st : S.st < S.F
  F64 : S.F ≤ 16
  G64 : S.G ≤ 16
/-- what a deed leaves; Z: what it may take in beside what is new -/
structure Stay (Z : Addr → Prop) (S : Sh) (W : Wh) (S' : Sh) (W' : Wh) (H H' : Hp) : Prop where
  p : S'.p = S.p
  w : W'.w = W.w
  F : S'.F = S.F
  G : S'.G = S.G
  keep : ∀ u o, H u = some o → ¬ Reg S u → ¬ WReg W u → ¬ Z u → H' u = some o
  tup : ∀ u vs, H u = some (.tup vs) → H' u = some (.tup vs)
  new : ∀ u, Reg S' u ∨ WReg W' u → Reg S u ∨ WReg W u ∨ H u = none ∨ Z u
def No : Addr → Prop := fun _ => False
section
variable {a : Ad} {H H' H'' : Hp} {S S' S'' : Sh} {W W' W'' : Wh} {n m : Nat} {Z : Addr → Prop}
theorem Stay.refl : Stay Z S W S W H H := ⟨rfl, rfl, rfl, rfl, fun _ _ e _ _ _ => e, fun _ _ e => e, fun u h => h.elim .inl fun h => .inr (.inl h)⟩
theorem Stay.same (k : ∀ u o, H u = some o → H' u = some o) : Stay Z S W S W H H' := ⟨rfl, rfl, rfl, rfl, fun u o e _ _ _ => k u o e, fun u vs e => k u _ e, fun u h => h.elim .inl fun h => .inr (.inl h)⟩
theorem Stay.trans (x : Stay Z S W S' W' H H') (y : Stay Z S' W' S'' W'' H' H'') : Stay Z S W S'' W'' H H'' := by
  have out : ∀ u o, H u = some o → ¬ Reg S u → ¬ WReg W u → ¬ Z u → ¬ Reg S' u ∧ ¬ WReg W' u := fun u o e h1 h2 h3 => by
    refine ⟨fun r => ?_, fun r => ?_⟩
    · rcases x.new u (.inl r) with z | z | z | z
      · exact h1 z
      · exact h2 z
      · rw [e] at z; cases z
      · exact h3 z
    · rcases x.new u (.inr r) with z | z | z | z
      · exact h1 z
      · exact h2 z
      · rw [e] at z; cases z
      · exact h3 z
  refine ⟨y.p.trans x.p, y.w.trans x.w, y.F.trans x.F, y.G.trans x.G, fun u o e h1 h2 h3 => y.keep u o (x.keep u o e h1 h2 h3) (out u o e h1 h2 h3).1 (out u o e h1 h2 h3).2 h3, fun u vs e => y.tup u vs (x.tup u vs e), fun u h => ?_⟩
  rcases y.new u h with z | z | z | z
  · exact x.new u (.inl z)
  · exact x.new u (.inr z)
  · by_cases h1 : Reg S u
    · exact .inl h1
    · by_cases h2 : WReg W u
      · exact .inr (.inl h2)
      · by_cases h3 : Z u
        · exact .inr (.inr (.inr h3))
        · cases e : H u with
          | none => exact .inr (.inr (.inl rfl))
          | some o => rw [x.keep u o e h1 h2 h3] at z; cases z
  · exact .inr (.inr (.inr z))
/-- over a heap that holds more -/
theorem Stay.from (k : ∀ u o, H u = some o → H' u = some o) (y : Stay Z S W S' W' H' H'') : Stay Z S W S' W' H H'' := (Stay.same k).trans y
/-- what was taken in is new -/
theorem Stay.gone (y : Stay Z S W S' W' H' H'') (k : ∀ u o, H u = some o → H' u = some o) (z : ∀ u, Z u → H u = none) : Stay No S W S' W' H H'' := by
  refine ⟨y.p, y.w, y.F, y.G, fun u o e h1 h2 _ => y.keep u o (k u o e) h1 h2 (fun h => by rw [z u h] at e; cases e), fun u vs e => y.tup u vs (k u _ e), fun u h => ?_⟩
  rcases y.new u h with q | q | q | q
  · exact .inl q
  · exact .inr (.inl q)
  · refine .inr (.inr (.inl ?_))
    cases e : H u with
    | none => rfl
    | some o => rw [k u o e] at q; cases q
  · exact .inr (.inr (.inl (z u q)))
theorem WAt.notup (A : WAt H W) {u : Addr} {vs : List V} (h : H u = some (.tup vs)) : ¬ WReg W u := fun r => by
  obtain ⟨l, e⟩ := A.there r
  rw [h] at e; cases e
theorem Tog.same (t : Tog a H S W n) (k : ∀ u o, H u = some o → H' u = some o) : Tog a H' S W n :=
  ⟨t.sh.same fun u o _ e => k u o e, t.sl, t.tw, t.wat.same (fun u o _ e => k u o e) (fun u vs e => k u _ e), t.wl, t.dj, t.eF, t.eG, t.ev, t.ok, t.st, t.F64, t.G64⟩
theorem Tog.mono (t : Tog a H S W n) (h : n ≤ m) : Tog a H S W m := ⟨t.sh, t.sl, t.tw, t.wat, t.wl, t.dj, t.eF, t.eG, t.ev, t.ok.mono h, t.st, t.F64, t.G64⟩
theorem Tog.few (t : Tog a H S W n) (h : n ≤ 63) : ∀ x c, S.m x = some c → Few c.hs := few_all t.tw t.ok h
/-- a sheet of the picture lies among the sheets -/
theorem Tog.at_ (t : Tog a H S W n) {x : Spot} {c : WCell} (h : W.m x = some c) : ∃ cc, S.m x = some cc ∧ isSh x cc = true ∧ cc.xs = c.xs ∧ cc.hs = c.hs.map Prod.snd := by
  have e : vw S.m x = some (c.xs, c.hs.map Prod.snd) := by rw [t.ev]; exact wv_some h
  obtain ⟨cc, h1, h2, h3⟩ := vw_of e
  injection h3 with h3 h4
  exact ⟨cc, h1, h2, h3.symm, h4.symm⟩
theorem Tog.one (t : Tog a H S W n) {x : Spot} {c : WCell} (h : W.m x = some c) : One (c.xs, c.hs.map Prod.snd) n := t.ok.one x _ (by rw [t.ev]; exact wv_some h)
end
theorem room65 {k : Nat} {A : Around} (r : Room k A) : A.units + 65 < cLine := by have := r.un; omega
/-! ### where's sheets as data -/
abbrev hdD (h : Hd) : PyData := .tuple [.str h.txt, .int (h.k : Int), .int (h.n : Int)]
abbrev wD (c : WCell) : PyData := .list [.list (c.xs.map PyData.int), .list (c.hs.map fun t => hdD t.2)]
def optD : Option WCell → PyData
  | none => .none
  | some c => wD c
def rowD (m : Mp WCell) (s : Bool) (n : Nat) : List PyData := (List.range n).map fun i => optD (m (s, i))
theorem dp_map {α : Type} {K : PySem.W.Frag} {H : Hp} {f : α → V} {g : α → PyData} : ∀ {l : List α}, (∀ x ∈ l, Dp K H (f x) (g x)) → DpAll K H (l.map f) (l.map g)
  | [], _ => .nil
  | x :: l, h => .cons (h x List.mem_cons_self) (dp_map fun y hy => h y (List.mem_cons_of_mem _ hy))
theorem dp_app {K : PySem.W.Frag} {H : Hp} : ∀ {xs ys : List V} {ds es : List PyData}, DpAll K H xs ds → DpAll K H ys es → DpAll K H (xs ++ ys) (ds ++ es)
  | _, _, _, _, .nil, h => h
  | _, _, _, _, .cons a b, h => .cons a (dp_app b h)
theorem lay_all : ∀ {l : List PyData}, (∀ d ∈ l, PyData.canLay0 d = true) → PyData.canLayAll0 l = true
  | [], _ => by simp [PyData.canLayAll0]
  | d :: l, h => by
    simp only [PyData.canLayAll0, h d List.mem_cons_self, lay_all fun y hy => h y (List.mem_cons_of_mem _ hy), Bool.and_self]
theorem depth_all {n : Nat} : ∀ {l : List PyData}, (∀ d ∈ l, PyData.depth d ≤ n) → PyData.depthAll l ≤ n
  | [], _ => by simp [PyData.depthAll]
  | d :: l, h => by
    simp only [PyData.depthAll]
    exact Nat.max_le.mpr ⟨h d List.mem_cons_self, depth_all fun y hy => h y (List.mem_cons_of_mem _ hy)⟩
theorem txt_ok (h : Hd) : PyData.strOk h.txt = true := by unfold Hd.txt; cases h.bk <;> decide +kernel
theorem hd_lay (h : Hd) : PyData.canLay0 (hdD h) = true := by simp [PyData.canLay0, PyData.canLayAll0, txt_ok]
theorem hd_depth (h : Hd) : PyData.depth (hdD h) ≤ 1 := by simp [PyData.depth, PyData.depthAll]
theorem ints_lay (xs : List Int) : PyData.canLay0 (.list (xs.map PyData.int)) = true := by
  simp only [PyData.canLay0]
  exact lay_all fun d hd => by obtain ⟨i, _, rfl⟩ := List.mem_map.mp hd; simp [PyData.canLay0]
theorem ints_depth (xs : List Int) : PyData.depth (.list (xs.map PyData.int)) ≤ 1 := by
  simp only [PyData.depth]
  have : PyData.depthAll (xs.map PyData.int) ≤ 0 := depth_all fun d hd => by obtain ⟨i, _, rfl⟩ := List.mem_map.mp hd; simp [PyData.depth]
  omega
theorem opt_lay (o : Option WCell) : PyData.canLay0 (optD o) = true := by
  cases o with
  | none => simp [optD, PyData.canLay0]
  | some c =>
    show PyData.canLay0 (.list [.list (c.xs.map PyData.int), .list (c.hs.map fun t => hdD t.2)]) = true
    have h1 := ints_lay c.xs
    have h2 : PyData.canLay0 (.list (c.hs.map fun t => hdD t.2)) = true := by
      simp only [PyData.canLay0]
      exact lay_all fun d hd => by obtain ⟨t, _, rfl⟩ := List.mem_map.mp hd; exact hd_lay t.2
    rw [PyData.canLay0]
    exact lay_all fun d hd => by
      rcases List.mem_cons.mp hd with e | hd
      · rw [e]; exact h1
      · rw [List.mem_singleton.mp hd]; exact h2
theorem opt_depth (o : Option WCell) : PyData.depth (optD o) ≤ 3 := by
  cases o with
  | none => simp [optD, PyData.depth]
  | some c =>
    show PyData.depth (.list [.list (c.xs.map PyData.int), .list (c.hs.map fun t => hdD t.2)]) ≤ 3
    have h1 := ints_depth c.xs
    have h2 : PyData.depth (.list (c.hs.map fun t => hdD t.2)) ≤ 2 := by
      simp only [PyData.depth]
      have : PyData.depthAll (c.hs.map fun t => hdD t.2) ≤ 1 := depth_all fun d hd => by obtain ⟨t, _, rfl⟩ := List.mem_map.mp hd; exact hd_depth t.2
      omega
    rw [PyData.depth]
    have : PyData.depthAll [.list (c.xs.map PyData.int), .list (c.hs.map fun t => hdD t.2)] ≤ 2 := depth_all fun d hd => by
      rcases List.mem_cons.mp hd with e | hd
      · rw [e]; omega
      · rw [List.mem_singleton.mp hd]; exact h2
    omega
theorem shaped_all {n : Nat} {l : List PyData} (hn : n ≤ 63) (h : ∀ d ∈ l, PyData.canLay0 d = true ∧ PyData.depth d ≤ n) : PySem.SeqAt.shaped (.list l) = true := by
  unfold PySem.SeqAt.shaped
  rw [PyData.canLay0, PyData.depth, lay_all fun d hd => (h d hd).1]
  have := depth_all fun d hd => (h d hd).2
  simp
  omega
section
variable {K : PySem.W.Frag} {H : Hp} {W : Wh}
theorem ints_dp {l : Addr} {xs : List Int} (h : H l = some (.lst (xs.map V.int))) : Dp K H (.ref l) (.list (xs.map PyData.int)) := .lst (SqL.of h) (dp_map fun i _ => .int i)
theorem hd_dp {t : Addr × Hd} (h : AtHd H t) : Dp K H (.ref t.1) (hdD t.2) := .tup (SqT.of h) (.cons (.str _) (.cons (.int _) (.cons (.int _) .nil)))
theorem wcell_dp {c : WCell} (h : WCellAt H c) : Dp K H (.ref c.o) (wD c) := .lst (SqL.of h.o) (.cons (ints_dp h.s) (.cons (.lst (SqL.of h.h) (dp_map fun t ht => hd_dp (h.at_ t ht))) .nil))
theorem row_dp {m : Mp WCell} {s : Bool} {n : Nat} (cs : ∀ x c, m x = some c → WCellAt H c) : DpAll K H (row oV m s n) (rowD m s n) := by
  unfold row rowD
  refine dp_map fun i _ => ?_
  cases e : m (s, i) with
  | none => exact .non
  | some c => exact wcell_dp (cs _ _ e)
end
theorem opt_eqv (o : Option WCell) : PyData.eqv (optD o) .none = o.isNone := by
  cases o with
  | none => simp [optD, PyData.eqv]
  | some c => simp [optD, PyData.eqv]
theorem row_any {m : Mp WCell} {s : Bool} {n : Nat} : ((rowD m s n).any fun z => PyData.eqv z .none) = true ↔ ∃ i, i < n ∧ m (s, i) = none := by
  unfold rowD
  rw [List.any_map, List.any_eq_true]
  constructor
  · rintro ⟨i, hi, h⟩
    have h : PyData.eqv (optD (m (s, i))) .none = true := h
    rw [opt_eqv, Option.isNone_iff_eq_none] at h
    exact ⟨i, List.mem_range.mp hi, h⟩
  · rintro ⟨i, hi, h⟩
    refine ⟨i, List.mem_range.mpr hi, ?_⟩
    show PyData.eqv (optD (m (s, i))) .none = true
    rw [opt_eqv, h]
    rfl
/-- the law's own count -/
theorem full_iff {m : Mp WCell} {F G : Nat} : (!((rowD m false F ++ rowD m true G).any fun z => PyData.eqv z .none)) = decide (F + G ≤ cnt (wv m) false F + cnt (wv m) true G) := by
  rw [List.any_append]
  by_cases h : F + G ≤ cnt (wv m) false F + cnt (wv m) true G
  · rw [decide_eq_true h]
    have h1 := cnt_le (v := wv m) (s := false) (n := F)
    have h2 := cnt_le (v := wv m) (s := true) (n := G)
    have no : ∀ s n, cnt (wv m) s n = n → ((rowD m s n).any fun z => PyData.eqv z .none) = false := fun s n e => by
      cases q : (rowD m s n).any fun z => PyData.eqv z .none with
      | false => rfl
      | true =>
        obtain ⟨i, hi, hn⟩ := row_any.mp q
        exfalso
        have : ∀ k, i < k → cnt (wv m) s k < k := fun k => by
          induction k with
          | zero => intro z; omega
          | succ k ih =>
            intro z
            rw [cnt_succ]
            by_cases z2 : i = k
            · subst z2
              rw [wv_none hn, if_neg (by simp)]
              have := cnt_le (v := wv m) (s := s) (n := i)
              omega
            · have := ih (by omega)
              split <;> omega
        have := this n hi
        omega
    rw [no false F (by omega), no true G (by omega)]
    rfl
  · rw [decide_eq_false h]
    have yes : ∀ s n, cnt (wv m) s n < n → ((rowD m s n).any fun z => PyData.eqv z .none) = true := fun s n e => by
      obtain ⟨i, hi, hn⟩ := cnt_less e
      exact row_any.mpr ⟨i, hi, wv_no hn⟩
    by_cases h1 : cnt (wv m) false F < F
    · rw [yes _ _ h1]; rfl
    · rw [yes true G (by omega), Bool.or_true]; rfl
end Fl

set_option Elab.async false
set_option linter.all false
set_option maxRecDepth 100000
set_option maxHeartbeats 4000000
/-! The law's fresh and back. -/
namespace Fl
open PySem L2 PySem.Spec PyProof.Rows
/-- a method's call within a try -/
def tMethTry (C : Addr) (m : Str) (sp : Sp) (E : L2.St → XK) (ta : TE) (t : TA) : TE := fun σ H Q => ta σ H fun x H1 => ∃ p dx fs, x = .ref p ∧ H1 p = some (.ins C dx fs) ∧ fs.lookup m = none ∧ t σ H1 fun vs H2 => sp (x :: vs) H2 Q (E σ)
theorem pe_methTry {X : Cx} {CX : CXT} {k : Nat} {f C : Addr} {fd : FuncData} {ps : List Str} {sp : Sp} {E : L2.St → XK} {m : Str} {pos apos : Pos} {e o : Expr} {es : List Expr} {ta : TE} {t : TA} {pl : Sem Bool} (he : PE X o ta) (c : Cls X.K C) (hm : Meth X.K C m f)
    (F : FnOk X.prog X.w X.K X.mg X.base CX k f fd ps sp) (hr : Room k X.A) (hb : Binds X.K fd ps []) (hx : ∀ σ, PassesAt CX X σ (E σ)) (ha : PA X (e :: es) t)
    (hst : starEach (e :: es) X.env = (false, eval e X.env) :: starEach es X.env := by rfl) (hpl : (backTo pos (starEach es X.env)).any (·.1) = false := by rfl)
    (ht : eval (.Call (.Attribute o m apos) (e :: es) [] pos) X.env = (do
      let ov ← eval o X.env
      standAt apos.atName
      let (f, first) ← holding [ov] (getMethod ov m pl)
      callWith pos f first (backTo pos (starEach (e :: es) X.env)) (backToKw pos (keywordEach [] X.env))) := by rfl) :
    PE X (.Call (.Attribute o m apos) (e :: es) [] pos) (tMethTry C m sp E ta t) := ⟨fun pins s σ H Q I h =>
  PySem.W.methodCall_KW (pl := pl) (thn (he.run pins s σ H _ I h) fun u s1 ⟨x, H1, I1, rx, p, dx, fs, ex, ea, l, q⟩ => by
    subst ex
    cases rx
    exact getmeth_ok I1 ea c hm l (PySem.W.callWith_K (first := [.ref p]) (h₀ := X.base) I1.ok.mod.kin hm.kp (thn (ha.run pos pins s1 σ H1 _ I1 q) fun us s2 ⟨vs, H2, I2, r, q2⟩ => ⟨I2.kIn, run_fnS (us := .ref p :: us) (vs := .ref p :: vs) F hr hb (hx σ) I2 (.cons rfl r) q2⟩) hst hpl)) ht⟩
def rListOf (K : PySem.W.Frag) : List V → Hp → VK → Prop := fun xs H Q => ∃ p ys, xs = [.ref p] ∧ (SqL K H p ys ∨ SqT K H p ys) ∧ ∀ l, H l = none → Q (.ref l) (upd H l (.lst ys))
def spLfresh (a : Ad) : Sp := fun vs H Q _ => ∃ (S : Sh) (W : Wh) (n : Nat) (one : WCell) (g : Addr) (h : Hd) (l : Addr) (bs : List Bool), vs = [.ref S.p, .ref W.w, .ref one.o, .ref l] ∧ Tog a H S W n ∧ n ≤ 62 ∧ WCellAt H one ∧ one.hs = [(g, h)] ∧ one.xs.length = 2 ∧ h.k = n ∧ h.n < 5 ∧
  (one.o ≠ one.s ∧ one.o ≠ one.h ∧ one.s ≠ one.h) ∧ (∀ u, u ∈ wadr one → ¬ Reg S u ∧ ¬ WReg W u) ∧ H l = some (.lst (bs.map V.bl)) ∧ bs.length = S.F ∧ ¬ Reg S l ∧
  ∀ (H' : Hp) (S' : Sh) (W' : Wh), Tog a H' S' W' (n + 1) → Stay (fun u => u ∈ wadr one) S W S' W' H H' → Q (.bl true) H'
section
variable {P : Program} {w : World} {K : PySem.W.Frag} {mg : Str → Option Value} {base : Heap} {a : Ad}
theorem ok_lfresh (T : Top K mg a) : FnOk P w K mg base CX0 5 a.fLfresh a.dLfresh ["_law_sheets", "_law_where", "_law_one", "_law_marks"] (spLfresh a) := by
  have GF : FnOk P w K mg base (L2.CX P w) 4 a.fFresh a.dFresh ["self", "sheet", "holder", "marks"] (spFresh a) := ok_fresh T
  have GM : FnOk P w K mg base CX0 1 a.fMoved a.dMoved ["_law_where", "_law_found", "_law_one"] spMoved := ok_moved T
  refine T.FLfresh.ok scLfresh (fun vs H Q E h => ?_) (fun cdv A outer s H vs Q E hr h => ?_)
  · obtain ⟨S, W, n, one, g, h, l, bs, rfl, _⟩ := h
    rfl
  · obtain ⟨S, W, n, one, g, h, l, bs, rfl, t, hn, hone, hhs, hxs, hk, h5, on, od, hl, hlen, hnl, q⟩ := h
    have hr1 : Room 1 _ := hr.mono (by decide)
    refine ⟨_, pss_cons (ps_set (i := 4) scLfresh.nd rfl (.inl rfl) pe_bl)
      (pss_cons (ps_set (i := 5) scLfresh.nd rfl (.inl rfl) pe_non)
      (C8.pss_cut (ps_try_only (tb := fun W => tAsg (tMethTry a.CS "fresh" (spFresh a) (WE W) (tVar 0) (tCons (tCB (rListOf K) (tCons (tOp (rIxL K) (tVar 2) (tC (.int 0))) tNil)) (tCons (tOp (rIxL K) (tOp (rIxL K) (tVar 2) (tC (.int 1))) (tC (.int 0))) (tCons (tVar 3) tNil)))) (gName 5)) (ts := fun _ _ _ => tAsg (tC (.bl true)) (gName 4)) (Wout := fun _ _ _ _ => False) rfl rfl ⟨rfl, by decide, Or.inl T.gN⟩ takes0
          (fun W pn xe tk _ => pss_one (ps_set (i := 5) scLfresh.nd rfl (.inl rfl) (pe_methTry (pv 0) T.clS T.mFresh GF hr T.bFresh (fun σ => passAt tk σ) (by exact (pa_cons (pe_callTy (T := "list") call_list_of (by rfl) T.zlist (by decide +kernel) (pa_cons (pe_ix ix_list (pv 2) pe_int (fun _ _ => rfl)) pa_nil)) (pa_cons (pe_ix ix_list (pe_ix ix_list (pv 2) pe_int (fun _ _ => rfl)) pe_int (fun _ _ => rfl)) (pa_cons (pv 3) pa_nil)))))))
          (fun _ _ _ _ _ _ _ => pss_one (ps_set (i := 4) scLfresh.nd rfl (.inl rfl) pe_bl)))
      (pss_cons (ps_set (i := 6) scLfresh.nd rfl (.inl rfl) (pe_cmpR (op_notInD (room65 hr)) pe_non (pe_op op_cat (pe_ix ix_list (pv 1) pe_int (fun _ _ => rfl)) (pe_ix ix_list (pv 1) pe_int (fun _ _ => rfl))) (by rfl)))
      (pss_cons (ps_if (pt_not (pt_val (pv 4))) (pss_one (ps_expr (pe_call GM hr1 rfl T.gMoved T.FMoved.kp T.bMoved .nil pass0 (pa_cons (pv 1) (pa_cons (pv 5) (pa_cons (pv 2) pa_nil)))))) pss_nil)
      (pss_one (ps_ret (pe_cmpR op_eq (pv 4) (pv 6) (nomark _)))))))), ?_⟩
    have hw2 : H W.w = some (.lst [.ref W.f, .ref W.s]) := t.wat.w
    have cE : cnt (vw S.m) false S.F + cnt (vw S.m) true S.G = cnt (wv W.m) false W.F + cnt (wv W.m) true W.G := by rw [t.ev, t.eF, t.eG]
    refine ⟨fun σ H' => ∃ (b : Bool) (z : V), σ = [some (.ref S.p), some (.ref W.w), some (.ref one.o), some (.ref l), some (.bl b), some z, none] ∧ ((b = true ∧ S.F + S.G ≤ cnt (vw S.m) false S.F + cnt (vw S.m) true S.G ∧ ∀ u o, H u = some o → H' u = some o) ∨
      (b = false ∧ cnt (vw S.m) false S.F + cnt (vw S.m) true S.G < S.F + S.G ∧ ∃ (H1 : Hp) (S' : Sh) (tt f : Nat) (out : Option Nat), z = .ref tt ∧ (∀ u o, H u = some o → H1 u = some o) ∧ Like S S' ∧ ShAt a H' S' ∧ Lay S' ∧ Twin S'.m ∧ f < S.F ∧ (∀ g, out = some g → g < S.G) ∧ vw S'.m = lawMv (vw S.m) f out (one.xs, [h]) ∧ Fr S S' H1 H' ∧ FoundAt H' tt f out)), ?_, ?_⟩
    · refine ⟨_, rfl, S.p, S.dx, _, rfl, t.sh.p, shF_no (by decide +kernel), _, rfl, one.o, _, _, _, rfl, rfl, SqL.of hone.o, atI_nat (j := 0) rfl, one.s, _, rfl, .inl (SqL.of hone.s), fun lx nlx => ?_⟩
      have k1 : ∀ u o, H u = some o → upd H lx (.lst (one.xs.map V.int)) u = some o := fun u o e => by rw [upd_ne (ne_of_none e nlx)]; exact e
      have hlx : upd H lx (.lst (one.xs.map V.int)) lx = some (.lst (one.xs.map V.int)) := upd_same
      generalize upd H lx (.lst (one.xs.map V.int)) = H1 at k1 hlx
      have nRx : ¬ Reg S lx := fun r => by
        obtain ⟨o, ho⟩ := t.sh.there r
        rw [nlx] at ho; cases ho
      refine ⟨_, rfl, one.o, _, _, _, rfl, rfl, SqL.of (k1 _ _ hone.o), atI_nat (j := 1) rfl, one.h, _, _, _, rfl, rfl, SqL.of (k1 _ _ hone.h), atI_nat (j := 0) (by rw [hhs]; rfl), _, rfl, S, lx, g, l, one.xs, h, bs, rfl, t.sh.same (fun u o _ e => k1 u o e), t.sl, t.tw, k1 _ _ hl, hlen, Nat.le_trans t.F64 (by decide), t.st, hnl, t.few (by omega), hlx, nRx, by omega, k1 _ _ (hone.at_ (g, h) (by rw [hhs]; exact List.mem_singleton.mpr rfl)), fun hc => ?_, fun hc H2 S' tt f out like A' L' W' lf lg ev fr fo => ?_⟩
      · exact ⟨true, T.eN, fun _ b hb => ⟨true, _, rfl, .inl ⟨rfl, hc, k1⟩⟩, fun q => nomatch q⟩
      · exact ⟨false, _, rfl, .inr ⟨rfl, hc, H1, S', tt, f, out, rfl, k1, like, A', L', W', lf, lg, ev, fr, fo⟩⟩
    · rintro σ H2 ⟨b, z, rfl, M⟩
      have wat2 : WAt H2 W ∧ (∀ u o, H u = some o → ¬ Reg S u → H2 u = some o) := by
        have kk : ∀ u o, H u = some o → ¬ Reg S u → H2 u = some o := fun u o e n => by
          rcases M with ⟨_, _, k⟩ | ⟨_, _, H1, S', tt, f, out, _, k1, _, _, _, _, _, _, _, fr, _⟩
          · exact k u o e
          · exact fr.keep u o (k1 u o e) n
        exact ⟨t.wat.same (fun u o r e => kk u o e (fun r' => t.dj u r' r)) (fun u vs e => kk u _ e (t.sh.notup e)), kk⟩
      obtain ⟨wat2, kk⟩ := wat2
      refine ⟨_, rfl, W.w, _, _, _, rfl, rfl, SqL.of wat2.w, atI_nat (j := 0) rfl, _, rfl, W.w, _, _, _, rfl, rfl, SqL.of wat2.w, atI_nat (j := 1) rfl, W.f, W.s, _, _, rfl, rfl, wat2.f, wat2.s, ?_, fun pl npl => ?_⟩
      · rw [row_length, row_length, t.eF, t.eG]
        exact Nat.le_trans (Nat.add_le_add t.F64 t.G64) (by decide)
      have k3 : ∀ u o, H2 u = some o → upd H2 pl (.lst (row oV W.m false W.F ++ row oV W.m true W.G)) u = some o := fun u o e => by rw [upd_ne (ne_of_none e npl)]; exact e
      have hpl : upd H2 pl (.lst (row oV W.m false W.F ++ row oV W.m true W.G)) pl = some (.lst (row oV W.m false W.F ++ row oV W.m true W.G)) := upd_same
      generalize upd H2 pl (.lst (row oV W.m false W.F ++ row oV W.m true W.G)) = H3 at k3 hpl
      have wat3 : WAt H3 W := wat2.same (fun u o _ e => k3 u o e) (fun u vs e => k3 u _ e)
      refine ⟨.none, rowD W.m false W.F ++ rowD W.m true W.G, .non, .lst (SqL.of hpl) (dp_app (row_dp wat3.cs) (row_dp wat3.cs)), by decide +kernel, shaped_all (n := 3) (by decide) (fun d hd => ?_), ?_⟩
      · rcases List.mem_append.mp hd with hd | hd
        · obtain ⟨i, _, rfl⟩ := List.mem_map.mp hd
          exact ⟨opt_lay _, opt_depth _⟩
        · obtain ⟨i, _, rfl⟩ := List.mem_map.mp hd
          exact ⟨opt_lay _, opt_depth _⟩
      rw [full_iff, ← cE, t.eF, t.eG]
      refine ⟨_, rfl, b, rfl, ?_⟩
      rcases M with ⟨rfl, hc, k⟩ | ⟨rfl, hc, H1, S', tt, f, out, rfl, k1, like, A', L', W', lf, lg, ev, fr, fo⟩
      · rw [decide_eq_true hc]
        refine iteF ⟨_, rfl, _, rfl, rfl, ?_⟩
        have k' : ∀ u o, H u = some o → H3 u = some o := fun u o e => k3 u o (k u o e)
        exact q H3 S W ((t.same k').mono (Nat.le_succ n)) (Stay.same k')
      · rw [decide_eq_false (Nat.not_le_of_lt hc)]
        have od' : ∀ u, u ∈ wadr one → u ≠ W.w ∧ u ≠ W.f ∧ u ≠ W.s := fun u hu => ⟨fun e => (od u hu).2 (.inl e), fun e => (od u hu).2 (.inr (.inl e)), fun e => (od u hu).2 (.inr (.inr (.inl e)))⟩
        have odc : ∀ y c, W.m y = some c → ∀ u, u ∈ wadr one → u ∉ wadr c := fun y c h u hu hu' => (od u hu).2 (WReg.cell h hu')
        have hone2 : WCellAt H3 one := hone.keep (fun u o hu e => k3 u o (kk u o e (od u hu).1)) (fun u vs e => k3 u _ (kk u _ e (t.sh.notup e)))
        have A3 : ShAt a H3 S' := A'.same fun u o _ e => k3 u o e
        have fo3 : FoundAt H3 tt f out := fo.keep fun u vs e => k3 u _ e
        have lf' : f < W.F := by rw [t.eF]; exact lf
        have lg' : ∀ g, out = some g → g < W.G := fun g e => by rw [t.eG]; exact lg g e
        refine iteT ⟨_, rfl, _, rfl, _, rfl, W, tt, f, out, one, rfl, wat3.w, wat3.f, wat3.s, t.wl.wf, t.wl.ws, t.wl.fs, fo3, lf', lg', fun H4 hf4 hs4 k4 => ?_⟩
        refine ⟨_, rfl, _, rfl, rfl, ?_⟩
        -- what Reg S' and the picture share: nothing
        have dj : ∀ u, Reg S' u → ¬ WReg W u ∧ u ∉ wadr one := fun u r => by
          rcases fr.new u r with z | z
          · exact ⟨t.dj u z, fun hu => (od u hu).1 z⟩
          · refine ⟨fun wr => ?_, fun hu => ?_⟩
            · obtain ⟨o, ho⟩ := t.wat.there wr
              rw [k1 u _ ho] at z; cases z
            · have : ∃ o, H u = some o := by
                rcases mem_wadr.mp hu with e | e | e
                · exact ⟨_, by rw [e]; exact hone.o⟩
                · exact ⟨_, by rw [e]; exact hone.s⟩
                · exact ⟨_, by rw [e]; exact hone.h⟩
              obtain ⟨o, ho⟩ := this
              rw [k1 u _ ho] at z; cases z
        have ev4 : vw S'.m = wv (lawMv W.m f out one) := by
          rw [ev, wv_mv, t.ev, hhs]; rfl
        refine q H4 S' (W.wm (lawMv W.m f out one)) ⟨A3.same fun u o r e => k4 u o e (fun z => (dj u r).1 (.inr (.inl z))) (fun z => (dj u r).1 (.inr (.inr (.inl z)))), L', W', wmv_at wat3 t.wl hone2 od' hf4 hs4 k4, wmv_lay t.wl lf' lg' on od' odc, fun u r wr => ?_, t.eF.trans like.F.symm, t.eG.trans like.G.symm, ev4, ?_, like.st t.st, by rw [like.F]; exact t.F64, by rw [like.G]; exact t.G64⟩ ⟨like.p, rfl, like.F, like.G, fun u o e h1 h2 h3 => ?_, fun u vs e => ?_, fun u r => ?_⟩
        · rcases wmv_reg wr with z | z
          · exact (dj u r).1 z
          · exact (dj u r).2 z
        · rw [ev]
          exact vok_fresh t.ok hk h5 hxs
        · exact k4 u o (k3 u o (kk u o e h1)) (fun z => h2 (.inr (.inl z))) (fun z => h2 (.inr (.inr (.inl z))))
        · have e3 := k3 u _ (kk u _ e (t.sh.notup e))
          exact k4 u _ e3 (ne_of e3 wat3.f (by intro z; cases z)) (ne_of e3 wat3.s (by intro z; cases z))
        · rcases r with r | r
          · rcases fr.new u r with z | z
            · exact .inl z
            · refine .inr (.inr (.inl ?_))
              cases e : H u with
              | none => rfl
              | some o => rw [k1 u o e] at z; cases z
          · rcases wmv_reg r with z | z
            · exact .inr (.inl z)
            · exact .inr (.inr (.inr z))
end
end Fl

set_option Elab.async false
set_option linter.all false
set_option maxRecDepth 100000
set_option maxHeartbeats 4000000
/-! The law's back. -/
namespace Fl
open PySem L2
def spLback (a : Ad) : Sp := fun vs H Q _ => ∃ (S : Sh) (W : Wh) (n sl : Nat) (c : WCell) (l : Addr) (bs : List Bool), vs = [.ref S.p, .ref W.w, .int (sl : Int), .ref l] ∧ Tog a H S W n ∧ n ≤ 63 ∧ W.m (true, sl) = some c ∧ H l = some (.lst (bs.map V.bl)) ∧ bs.length = S.F ∧ ¬ Reg S l ∧ ¬ WReg W l ∧
  ∀ (H' : Hp) (S' : Sh) (W' : Wh), Tog a H' S' W' n → Stay No S W S' W' H H' → Q .non H'
section
variable {H H' : Hp} {W : Wh} {x : Spot} {c : WCell} {u : Addr}
theorem wdel_lay (L : WLay W) : WLay (W.wm (up W.m x none)) := by
  have k : ∀ y c, up W.m x none y = some c → W.m y = some c := fun y c e => by
    by_cases h : y = x
    · rw [h, up_same] at e; cases e
    · rwa [up_ne h] at e
  exact ⟨L.wf, L.ws, L.fs, fun y c h => L.cn y c (k y c h), fun y z c c' h h' ne => L.dj y z c c' (k y c h) (k z c' h') ne, fun y c h => L.bs y c (k y c h), fun y c h => L.inb y c (k y c h)⟩
theorem wdel_reg (r : WReg (W.wm (up W.m x none)) u) : WReg W u := by
  rcases r with e | e | e | ⟨y, c, h, hu⟩
  · exact .inl e
  · exact .inr (.inl e)
  · exact .inr (.inr (.inl e))
  · have h : up W.m x none y = some c := h
    by_cases e : y = x
    · rw [e, up_same] at h; cases h
    · rw [up_ne e] at h; exact WReg.cell h hu
/-- a row's spot becomes None -/
theorem wdel_at (A : WAt H W) (L : WLay W) {s : Bool} {i : Nat} : WAt (upd H (wlst W s) (.lst (row oV (up W.m (s, i) none) s (wsz W s)))) (W.wm (up W.m (s, i) none)) := by
  have cells : ∀ y c, up W.m (s, i) none y = some c → WCellAt (upd H (wlst W s) (.lst (row oV (up W.m (s, i) none) s (wsz W s)))) c := fun y c e => by
    by_cases h : y = (s, i)
    · rw [h, up_same] at e; cases e
    · rw [up_ne h] at e
      have hl : H (wlst W s) = some (.lst (row oV W.m s (wsz W s))) := by cases s; exact A.f; exact A.s
      refine (A.cs y c e).keep (fun u o hu q => ?_) (fun u vs q => ?_)
      · have b := L.bs y c e u hu
        rw [upd_ne (by cases s; exact b.2.1; exact b.2.2)]; exact q
      · rw [upd_ne (ne_of q hl (by intro z; cases z))]; exact q
  cases s with
  | false =>
    refine ⟨(upd_ne L.wf).trans A.w, upd_same, ?_, cells⟩
    show upd H W.f _ W.s = some (.lst (row oV (up W.m (false, i) none) true W.G))
    rw [upd_ne (Ne.symm L.fs), row_other (by decide)]; exact A.s
  | true =>
    refine ⟨(upd_ne L.ws).trans A.w, ?_, upd_same, cells⟩
    show upd H W.s _ W.f = some (.lst (row oV (up W.m (true, i) none) false W.F))
    rw [upd_ne L.fs, row_other (by decide)]; exact A.f
end
section
variable {P : Program} {w : World} {K : PySem.W.Frag} {mg : Str → Option Value} {base : Heap} {a : Ad}
theorem ok_lback (T : Top K mg a) : FnOk P w K mg base CX0 5 a.fLback a.dLback ["_law_sheets", "_law_where", "_law_slot", "_law_marks"] (spLback a) := by
  have GB : FnOk P w K mg base CX0 4 a.fBack a.dBack ["self", "slot", "marks"] (spBack a) := ok_back T
  have GM : FnOk P w K mg base CX0 1 a.fMoved a.dMoved ["_law_where", "_law_found", "_law_one"] spMoved := ok_moved T
  refine T.FLback.ok scLback (fun vs H Q E h => ?_) (fun cdv A outer s H vs Q E hr h => ?_)
  · obtain ⟨S, W, n, sl, c, l, bs, rfl, _⟩ := h
    rfl
  · obtain ⟨S, W, n, sl, c, l, bs, rfl, t, hn, hm, hl, hlen, hnl, hwl, q⟩ := h
    have hr1 : Room 1 _ := hr.mono (by decide)
    refine ⟨_, pss_cons (ps_set (i := 4) scLback.nd rfl (.inl rfl) (pe_ix ix_list (pe_ix ix_list (pv 1) pe_int (fun _ _ => rfl)) (pv 2) (fun _ _ => rfl)))
      (pss_cons (ps_asg pe_non (pg_sub (pe_ix ix_list (pv 1) pe_int (fun _ _ => rfl)) (pv 2) set_list))
      (pss_one (ps_expr (pe_call GM hr1 rfl T.gMoved T.FMoved.kp T.bMoved .nil pass0 (pa_cons (pv 1) (pa_cons (pe_meth (pv 0) T.clS T.mBack GB hr T.bBack .nil pass0 (pa_cons (pv 2) (pa_cons (pv 3) pa_nil))) (pa_cons (pv 4) pa_nil))))))), ?_⟩
    have hsl : sl < W.G := t.wl.inb _ _ hm
    refine ⟨_, rfl, W.w, _, _, _, rfl, rfl, SqL.of t.wat.w, atI_nat (j := 1) rfl, _, rfl, W.s, _, _, _, rfl, rfl, SqL.of t.wat.s, atI_nat (row_get hsl), ?_⟩
    rw [hm]
    refine ⟨_, rfl, W.w, _, _, _, rfl, rfl, SqL.of t.wat.w, atI_nat (j := 1) rfl, _, rfl, W.s, _, _, sl, rfl, rfl, t.wat.s, (by rw [row_length]; exact ixN_nat hsl), ?_⟩
    have e1 : (row oV W.m true W.G).set sl V.non = row oV (up W.m (true, sl) none) true W.G := row_set (v := none) hsl
    rw [e1]
    have A1 : WAt (upd H W.s (.lst (row oV (up W.m (true, sl) none) true W.G))) (W.wm (up W.m (true, sl) none)) := wdel_at t.wat t.wl (s := true)
    have L1 : WLay (W.wm (up W.m (true, sl) none)) := wdel_lay t.wl
    have k1 : ∀ u o, H u = some o → u ≠ W.s → upd H W.s (.lst (row oV (up W.m (true, sl) none) true W.G)) u = some o := fun u o e h => by rw [upd_ne h]; exact e
    have hc1 : WCellAt (upd H W.s (.lst (row oV (up W.m (true, sl) none) true W.G))) c := (t.wat.cs _ _ hm).keep (fun u o hu e => k1 u o e (t.wl.bs _ _ hm u hu).2.2) (fun u vs e => k1 u _ e (ne_of e t.wat.s (by intro z; cases z)))
    have nn : ∀ u, upd H W.s (.lst (row oV (up W.m (true, sl) none) true W.G)) u = none → H u = none := fun u e => by
      by_cases z : u = W.s
      · rw [z, upd_same] at e; cases e
      · rwa [upd_ne z] at e
    generalize upd H W.s (.lst (row oV (up W.m (true, sl) none) true W.G)) = H1 at A1 k1 hc1 nn
    have S1 : ShAt a H1 S := t.sh.same fun u o r e => k1 u o e (fun z => t.dj u r (.inr (.inr (.inl z))))
    obtain ⟨cc, hcc, hsh, ex, eh⟩ := t.at_ hm
    have hbd : cc.bd = none := by rw [isSh_slot] at hsh; simpa using hsh
    have two := (t.one hm).two
    refine ⟨_, rfl, _, rfl, S.p, S.dx, _, rfl, S1.p, shF_no (by decide +kernel), _, rfl, _, rfl, S, sl, l, bs, cc, rfl, S1, t.sl, t.tw, k1 _ _ hl (fun z => hwl (.inr (.inr (.inl z)))), hlen, Nat.le_trans t.F64 (by decide), t.st, hnl, t.few hn, hcc, hbd, ?_, fun H2 S' tt f out like A' L' W' lf lg ev fr fo => ?_⟩
    · rw [ex]
      have : c.xs.length = 2 := two
      omega
    · have kk : ∀ u o, H1 u = some o → ¬ Reg S u → H2 u = some o := fr.keep
      have r1 : ∀ u, WReg (W.wm (up W.m (true, sl) none)) u → ¬ Reg S u := fun u r r' => t.dj u r' (wdel_reg r)
      have A2 : WAt H2 (W.wm (up W.m (true, sl) none)) := A1.same (fun u o r e => kk u o e (r1 u r)) (fun u vs e => kk u _ e (S1.notup e))
      have rc : ∀ u, u ∈ wadr c → ¬ Reg S u := fun u hu r => t.dj u r (WReg.cell hm hu)
      have hc2 : WCellAt H2 c := hc1.keep (fun u o hu e => kk u o e (rc u hu)) (fun u vs e => kk u _ e (S1.notup e))
      have lf' : f < W.F := by rw [t.eF]; exact lf
      have lg' : ∀ g, out = some g → g < W.G := fun g e => by rw [t.eG]; exact lg g e
      refine ⟨_, rfl, W.wm (up W.m (true, sl) none), tt, f, out, c, rfl, A2.w, A2.f, A2.s, t.wl.wf, t.wl.ws, t.wl.fs, fo, lf', lg', fun H3 hf3 hs3 k3 => ?_⟩
      have odc : ∀ y c', (W.wm (up W.m (true, sl) none)).m y = some c' → ∀ u, u ∈ wadr c → u ∉ wadr c' := fun y c' h u hu hu' => by
        have h : up W.m (true, sl) none y = some c' := h
        by_cases e : y = (true, sl)
        · rw [e, up_same] at h; cases h
        · rw [up_ne e] at h
          exact t.wl.dj _ _ _ _ hm h (Ne.symm e) u hu hu'
      have regW : ∀ u, WReg ((W.wm (up W.m (true, sl) none)).wm (lawMv (W.wm (up W.m (true, sl) none)).m f out c)) u → WReg W u := fun u r => by
        rcases wmv_reg r with z | z
        · exact wdel_reg z
        · exact WReg.cell hm z
      have dj : ∀ u, Reg S' u → ¬ WReg W u := fun u r wr => by
        rcases fr.new u r with z | z
        · exact t.dj u z wr
        · obtain ⟨o, ho⟩ := t.wat.there wr
          rw [nn u z] at ho; cases ho
      have ev3 : vw S'.m = wv (lawMv (up W.m (true, sl) none) f out c) := by
        rw [ev, wv_mv, wv_up, t.ev, ex, eh]; rfl
      refine q H3 S' (W.wm (lawMv (up W.m (true, sl) none) f out c)) ⟨A'.same fun u o r e => k3 u o e (fun z => dj u r (.inr (.inl z))) (fun z => dj u r (.inr (.inr (.inl z)))), L', W', wmv_at A2 L1 hc2 (t.wl.bs _ _ hm) hf3 hs3 k3, wmv_lay L1 lf' lg' (t.wl.cn _ _ hm) (t.wl.bs _ _ hm) odc, fun u r wr => dj u r (regW u wr), t.eF.trans like.F.symm, t.eG.trans like.G.symm, ev3, ?_, like.st t.st, by rw [like.F]; exact t.F64, by rw [like.G]; exact t.G64⟩ ⟨like.p, rfl, like.F, like.G, fun u o e h1 h2 _ => ?_, fun u vs e => ?_, fun u r => ?_⟩
      · rw [ev]
        exact vok_back t.ok (vw_sh hcc hsh)
      · have z1 : u ≠ W.s := fun z => h2 (.inr (.inr (.inl z)))
        exact k3 u o (kk u o (k1 u o e z1) h1) (fun z => h2 (.inr (.inl z))) z1
      · have e1 := k1 u _ e (ne_of e t.wat.s (by intro z; cases z))
        have e2 := kk u _ e1 (S1.notup e1)
        exact k3 u _ e2 (ne_of e2 A2.f (by intro z; cases z)) (ne_of e2 A2.s (by intro z; cases z))
      · rcases r with r | r
        · rcases fr.new u r with z | z
          · exact .inl z
          · exact .inr (.inr (.inl (nn u z)))
        · exact .inr (.inl (regW u r))
end
end Fl

set_option Elab.async false
set_option linter.all false
set_option maxRecDepth 100000
set_option maxHeartbeats 4000000
/-! alike. -/
namespace Fl
open PySem L2
theorem ints_eqv : ∀ xs ys : List Int, PyData.eqvAll (xs.map PyData.int) (ys.map PyData.int) = decide (xs = ys)
  | [], [] => by simp [PyData.eqvAll]
  | [], y :: ys => by simp [PyData.eqvAll]
  | x :: xs, [] => by simp [PyData.eqvAll]
  | x :: xs, y :: ys => by
    rw [List.map_cons, List.map_cons, PyData.eqvAll, ints_eqv xs ys, PyData.eqv]
    by_cases h : x = y
    · subst h
      by_cases h2 : xs = ys
      · subst h2; simp
      · simp [h2]
    · simp [h]
theorem ints_eqv' (xs ys : List Int) : PyData.eqv (.list (xs.map PyData.int)) (.list (ys.map PyData.int)) = decide (xs = ys) := by rw [PyData.eqv]; exact ints_eqv xs ys
theorem txt_bank (h : Hd) : (h.txt == ("bank" : Str)) = h.bk := by
  unfold Hd.txt
  cases h.bk with
  | true => exact beq_self_eq_true _
  | false => decide +kernel
/-- the texts of holders, and whether 'bank' is among them -/
abbrev txts (hs : List (Addr × Hd)) : List V := hs.map fun t => V.str t.2.txt
theorem txts_in (hs : List (Addr × Hd)) : inV (V.str "bank") (txts hs) = (hs.map Prod.snd).any (·.bk) := by
  unfold inV txts
  rw [List.any_map, List.any_map]
  congr 1
  funext t
  exact txt_bank t.2
theorem txts_flat (hs : List (Addr × Hd)) : (txts hs).all flatV = true := by
  rw [List.all_eq_true]
  intro x hx
  obtain ⟨t, _, rfl⟩ := List.mem_map.mp hx
  rfl
theorem lc_txts {K : PySem.W.Frag} {l D : Addr} {σ : St} {H1 : Hp} {hs : List (Addr × Hd)} {i : Nat} {Qd : Hp → Prop} (hl : H1 l = some (.lst (hdR hs))) (ha : ∀ t ∈ hs, AtHd H1 t) (hD : H1 D = none) (hn : hs.length ≤ 1000) (hi : i < σ.length)
    (q : ∀ H', H' D = some (.lst (txts hs)) → (∀ u o, H1 u = some o → H' u = some o) → Qd H') :
    ∃ W : Nat → Nat → Hp → Prop, (∃ m, W 0 m (upd H1 D (.lst []))) ∧ ∀ j m H, W j m H →
      ((Itl K l).stop j H ∧ Qd H) ∨ ((Itl K l).go j H ∧ ∃ Nx : Hp → Prop, (∀ H', Nx H' → ∃ m', m' < m ∧ W (j + 1) m' H') ∧ ∀ x H', (Itl K l).yld j H x H' → gName i x (wipe σ [i]) H' fun σ2 H2 => wipe σ2 [i] = wipe σ [i] ∧ tYes σ2 H2 fun b H3 =>
        if b = true then tOp (rIxT K) (tVar i) (tC (.int 0)) σ2 H3 fun y H4 => ∃ acc, H4 D = some (.lst acc) ∧ acc.length < sizeLine ∧ Nx (upd H4 D (.lst (acc ++ [y]))) else Nx H3) := by
  refine lc_list (xs := hdR hs) (fun j H' => H' D = some (.lst (txts (hs.take j))) ∧ ∀ u o, H1 u = some o → H' u = some o) ⟨upd_same, fun u o e => by rw [upd_ne (ne_of_none e hD)]; exact e⟩ (fun j H' _ h => SqL.of (h.2 _ _ hl)) ?_ ?_
  · rintro j x H' hx ⟨h1, h2⟩
    have hj : j < hs.length := by
      have := (List.getElem?_eq_some_iff.mp hx).1
      simpa using this
    have ex : x = V.ref hs[j].1 := by
      rw [List.getElem?_map, List.getElem?_eq_getElem hj] at hx
      exact (Option.some.inj hx).symm
    subst ex
    have hat := h2 _ _ (ha hs[j] (List.getElem_mem hj))
    have e1 : ((wipe σ [i]).set i (some (V.ref hs[j].1)))[i]? = some (some (V.ref hs[j].1)) := by
      rw [List.getElem?_set_self (by rw [wipe_length]; exact hi)]
    refine ⟨?_, ?_⟩
    · show ((σ.set i none).set i (some (V.ref hs[j].1))).set i none = σ.set i none
      rw [List.set_set, List.set_set]
    · refine ⟨_, e1, hs[j].1, _, _, _, rfl, rfl, SqT.of hat, atI_nat (j := 0) rfl, txts (hs.take j), h1, ?_, ?_, fun u o e => ?_⟩
      · rw [List.length_map, List.length_take]
        exact Nat.lt_of_lt_of_le (by omega : min j hs.length < 1001) (by decide)
      · rw [upd_same]
        show some (HO.lst ((hs.take j).map (fun t => V.str t.2.txt) ++ [V.str hs[j].2.txt])) = some (HO.lst ((hs.take (j + 1)).map fun t => V.str t.2.txt))
        rw [List.take_succ_eq_append_getElem hj, List.map_append]
        rfl
      · rw [upd_ne (ne_of_none e hD)]; exact h2 u o e
  · rintro H' ⟨h1, h2⟩
    have e : hs.take (hdR hs).length = hs := by
      show hs.take (hs.map _).length = hs
      rw [List.length_map, List.take_length]
    rw [e] at h1
    exact q H' h1 h2
/-- an item of the two rows -/
theorem rows_get {m : Mp WCell} {F G i : Nat} {x : V} (h : (row oV m false F ++ row oV m true G)[i]? = some x) : i < F + G ∧ x = optV oV (m (spotAt F i)) := by
  unfold spotAt
  by_cases hi : i < F
  · rw [List.getElem?_append_left (by rw [row_length]; exact hi)] at h
    rw [if_pos hi]
    exact ⟨by omega, (row_of h).2⟩
  · rw [List.getElem?_append_right (by rw [row_length]; omega), row_length] at h
    rw [if_neg hi]
    have := row_of h
    exact ⟨by omega, this.2⟩
def spAlike (a : Ad) : Sp := fun vs H Q _ => ∃ W : Wh, vs = [.ref W.w] ∧ WAt H W ∧ NoTwo (wv W.m) ∧ W.F ≤ 16 ∧ W.G ≤ 16 ∧ (∀ x c, W.m x = some c → c.hs.length ≤ 1000) ∧ ∀ H' : Hp, (∀ u o, H u = some o → H' u = some o) → Q (.bl false) H'
section
variable {P : Program} {w : World} {K : PySem.W.Frag} {mg : Str → Option Value} {base : Heap} {a : Ad}
theorem ok_alike (T : Top K mg a) : FnOk P w K mg base CX0 1 a.fAlike a.dAlike ["_law_where"] (spAlike a) := by
  refine T.FAlike.ok scAlike (fun vs H Q E h => ?_) (fun cdv A outer s H vs Q E hr h => ?_)
  · obtain ⟨W, rfl, _⟩ := h
    rfl
  · obtain ⟨W, rfl, hW, hno, hF, hG, hlen, q⟩ := h
    refine ⟨_, pss_cons (ps_set (i := 1) scAlike.nd rfl (.inl rfl) (pe_lst pa_nil))
      (pss_cons (ps_for PassesOwn.never rfl (pi_list (pe_op op_cat (pe_ix ix_list (pv 0) pe_int (fun _ _ => rfl)) (pe_ix ix_list (pv 0) pe_int (fun _ _ => rfl)))) (pg_name (i := 2) scAlike.nd rfl (.inl rfl))
        (pss_one (ps_if (PW.pt (pw_and (pt_cmpR op_notN (pv 2) pe_non (nomark _)) (pw_and1 (pt_cmpR op_notIn_seq pe_str (pe_lc (own := [("_law_holder", 3)]) (g := gName 3) (tt := tYes) (te := tOp (rIxT K) (tVar 3) (tC (.int 0))) rfl scAlike.nd (pi_list (pe_ix ix_list (pv 2) pe_int (fun _ _ => rfl))) (blkOk_by (N := NAlike) (sc := defScope sAlike) (by decide +kernel)) (fun _ _ _ _ _ => pg_name (i := 3) scAlike.nd rfl (Or.inl rfl)) (fun _ _ _ _ _ => pts_nil) (fun _ _ _ _ _ => pe_ix ix_tup (pv 3) pe_int (fun _ _ => rfl))) (by rfl)))))
          (pss_cons (ps_if (pt_cmpR (op_inD (room65 hr)) (pe_ix ix_list (pv 2) pe_int (fun _ _ => rfl)) (pv 1) (by rfl)) (pss_one (ps_ret pe_bl)) pss_nil)
          (pss_one (ps_expr (pe_bm PySem.F.plainAttrs_list PySem.F.slot_list_append PySem.F.type_list_append mt_append (pv 1) (pa_cons (pe_ix ix_list (pv 2) pe_int (fun _ _ => rfl)) pa_nil))))) pss_nil)))
      (pss_one (ps_ret pe_bl))), ?_⟩
    refine ⟨Nat.zero_le _, fun sn nsn => ?_⟩
    have k1 : ∀ u o, H u = some o → upd H sn (.lst []) u = some o := fun u o e => by rw [upd_ne (ne_of_none e nsn)]; exact e
    have W1 : WAt (upd H sn (.lst [])) W := hW.same (fun u o _ e => k1 u o e) (fun u vs e => k1 u _ e)
    refine ⟨_, rfl, W.w, _, _, _, rfl, rfl, SqL.of W1.w, atI_nat (j := 0) rfl, _, rfl, W.w, _, _, _, rfl, rfl, SqL.of W1.w, atI_nat (j := 1) rfl, W.f, W.s, _, _, rfl, rfl, W1.f, W1.s, ?_, fun pl npl => ?_⟩
    · rw [row_length, row_length]
      exact Nat.le_trans (Nat.add_le_add hF hG) (by decide)
    have hsn1 : upd H sn (.lst []) sn = some (.lst []) := upd_same
    have k2 : ∀ u o, H u = some o → upd (upd H sn (.lst [])) pl (.lst (row oV W.m false W.F ++ row oV W.m true W.G)) u = some o := fun u o e => by rw [upd_ne (ne_of_none (k1 u o e) npl)]; exact k1 u o e
    have hsn2 : upd (upd H sn (.lst [])) pl (.lst (row oV W.m false W.F ++ row oV W.m true W.G)) sn = some (.lst []) := by rw [upd_ne (ne_of_none hsn1 npl)]; exact hsn1
    have hpl2 : upd (upd H sn (.lst [])) pl (.lst (row oV W.m false W.F ++ row oV W.m true W.G)) pl = some (.lst (row oV W.m false W.F ++ row oV W.m true W.G)) := upd_same
    have nps : pl ≠ sn := fun e => by rw [e, hsn1] at npl; cases npl
    clear npl k1 W1 hsn1
    generalize upd (upd H sn (.lst [])) pl (.lst (row oV W.m false W.F ++ row oV W.m true W.G)) = H2 at k2 hsn2 hpl2
    refine ⟨pl, rfl, ⟨_, SqL.of hpl2⟩, for_list (xs := row oV W.m false W.F ++ row oV W.m true W.G) (fun i σ H' => (∃ z2 : Option V, σ = [some (.ref W.w), some (.ref sn), z2, none]) ∧ (∀ u o, H2 u = some o → u ≠ sn → H' u = some o) ∧ ∃ ps : List WCell, ps.length ≤ i ∧ H' sn = some (.lst (ps.map fun p => V.ref p.s)) ∧ ∀ p ∈ ps, WCellAt H p ∧ ∃ j, j < i ∧ W.m (spotAt W.F j) = some p ∧ noBk (p.hs.map Prod.snd)) ⟨⟨_, rfl⟩, fun u o e _ => e, [], Nat.le_refl _, hsn2, fun p hp => nomatch hp⟩ ?_ ?_ ?_⟩
    · rintro i σ H' _ ⟨_, k, _⟩
      exact SqL.of (k _ _ hpl2 nps)
    · rintro i x σ H' hx ⟨⟨z2, rfl⟩, k, ps, pl1, hps, hall⟩
      obtain ⟨hi, rfl⟩ := rows_get hx
      have kH : ∀ u o, H u = some o → H' u = some o := fun u o e => k u o (k2 u o e) (ne_of_none e nsn)
      cases hm : W.m (spotAt W.F i) with
      | none =>
        refine ⟨_, rfl, rfl, _, rfl, iteF (iteF ⟨⟨_, rfl⟩, k, ps, Nat.le_succ_of_le pl1, hps, fun p hp => ?_⟩)⟩
        obtain ⟨h1, j, hj, h2⟩ := hall p hp
        exact ⟨h1, j, Nat.lt_succ_of_lt hj, h2⟩
      | some c =>
        have hc := (hW.cs _ _ hm).keep (fun u o _ e => kH u o e) (fun u vs e => kH u _ e)
        refine ⟨_, rfl, rfl, _, rfl, iteT ⟨_, rfl, c.o, _, _, _, rfl, rfl, SqL.of hc.o, atI_nat (j := 1) rfl, c.h, rfl, ⟨_, SqL.of hc.h⟩, fun D hD => lc_txts hc.h hc.at_ hD (hlen _ _ hm) (by show 3 < 4; omega) fun H4 hD4 k4 => ?_⟩⟩
        refine ⟨D, _, rfl, .inl (SqL.of hD4), rfl, txts_flat _, _, rfl, ?_⟩
        rw [if_pos rfl, txts_in]
        have hc4 := hc.keep (fun u o _ e => k4 u o e) (fun u vs e => k4 u _ e)
        have hsn4 := k4 _ _ hps
        cases hb : (c.hs.map Prod.snd).any (·.bk) with
        | true =>
          refine iteF ⟨⟨_, rfl⟩, fun u o e h => k4 u o (k u o e h), ps, Nat.le_succ_of_le pl1, hsn4, fun p hp => ?_⟩
          obtain ⟨h1, j, hj, h2⟩ := hall p hp
          exact ⟨h1, j, Nat.lt_succ_of_lt hj, h2⟩
        | false =>
          refine iteT ⟨_, rfl, c.o, _, _, _, rfl, rfl, SqL.of hc4.o, atI_nat (j := 0) rfl, _, rfl, .list (c.xs.map PyData.int), ps.map fun p => .list (p.xs.map PyData.int), ints_dp hc4.s, .lst (SqL.of hsn4) (dp_map fun p hp => ?_), shaped_all (n := 0) (by decide) (fun d hd => ?_), shaped_all (n := 1) (by decide) (fun d hd => ?_), _, rfl, ?_⟩
          · exact ints_dp (k4 _ _ (kH _ _ (hall p hp).1.s))
          · obtain ⟨i, _, rfl⟩ := List.mem_map.mp hd
            exact ⟨by simp [PyData.canLay0], by simp [PyData.depth]⟩
          · obtain ⟨p, _, rfl⟩ := List.mem_map.mp hd
            exact ⟨ints_lay _, ints_depth _⟩
          · have no : ((ps.map fun p => PyData.list (p.xs.map PyData.int)).any fun z => PyData.eqv z (.list (c.xs.map PyData.int))) = false := by
              rw [List.any_eq_false]
              intro z hz
              obtain ⟨p, hp, rfl⟩ := List.mem_map.mp hz
              obtain ⟨_, j, hj, hmj, hbj⟩ := hall p hp
              rw [ints_eqv']
              intro e
              have e : p.xs = c.xs := of_decide_eq_true e
              have := hno _ _ p.xs _ _ (wv_some hmj) (by rw [e]; exact wv_some hm) hbj hb
              exact Nat.ne_of_lt hj (spotAt_inj this)
            rw [no]
            refine iteF ⟨_, rfl, .inl ⟨rfl, _, SqL.of hsn4⟩, _, rfl, c.o, _, _, _, rfl, rfl, SqL.of hc4.o, atI_nat (j := 0) rfl, sn, _, _, rfl, rfl, hsn4, ?_, ⟨_, rfl⟩, fun u o e h => ?_, ps ++ [c], ?_, ?_, fun p hp => ?_⟩
            · rw [List.length_map]
              exact Nat.lt_of_le_of_lt pl1 (Nat.lt_of_lt_of_le hi (Nat.le_trans (Nat.add_le_add hF hG) (by decide)))
            · rw [upd_ne h]; exact k4 u o (k u o e h)
            · rw [List.length_append]; exact Nat.succ_le_succ pl1
            · rw [upd_same, List.map_append]; rfl
            · rcases List.mem_append.mp hp with hp | hp
              · obtain ⟨h1, j, hj, h2⟩ := hall p hp
                exact ⟨h1, j, Nat.lt_succ_of_lt hj, h2⟩
              · rw [List.mem_singleton.mp hp]
                exact ⟨hW.cs _ _ hm, i, Nat.lt_succ_self i, hm, hb⟩
    · rintro σ H' ⟨⟨z2, rfl⟩, k, _⟩
      exact q H' fun u o e => k u o (k2 u o e) (ne_of_none e nsn)
end
end Fl

set_option Elab.async false
set_option linter.all false
set_option maxRecDepth 100000
set_option maxHeartbeats 4000000
/-! folded. -/
namespace Fl
open PySem L2
section
variable {H H' : Hp} {W : Wh} {x y : Spot} {c c' : WCell} {u : Addr} {o : HO}
theorem WAt.l (A : WAt H W) (s : Bool) : H (wlst W s) = some (.lst (row oV W.m s (wsz W s))) := by cases s; exact A.f; exact A.s
theorem WLay.lo (L : WLay W) (h : W.m x = some c) (hu : u ∈ wadr c) (s : Bool) : u ≠ wlst W s := by
  have := L.bs x c h u hu
  cases s
  · exact this.2.1
  · exact this.2.2
theorem wset_at (A : WAt H W) (L : WLay W) (hm : W.m y = some c) (hu : u ∈ wadr c) (e : c'.o = c.o ∧ c'.s = c.s ∧ c'.h = c.h) (hc : WCellAt (upd H u o) c') : WAt (upd H u o) (W.wm (up W.m y (some c'))) := by
  have b := L.bs y c hm u hu
  obtain ⟨l, hl⟩ := A.there (WReg.cell hm hu)
  have rw' : ∀ s n, row oV (up W.m y (some c')) s n = row oV W.m s n := fun s n => row_ext fun i _ => by
    by_cases q : (s, i) = y
    · rw [q, up_same, hm]
      show V.ref c'.o = V.ref c.o
      rw [e.1]
    · rw [up_ne q]
  refine ⟨?_, ?_, ?_, fun z d h => ?_⟩
  · rw [upd_ne (Ne.symm b.1)]; exact A.w
  · rw [upd_ne (Ne.symm b.2.1)]
    show H W.f = some (.lst (row oV (up W.m y (some c')) false W.F))
    rw [rw']; exact A.f
  · rw [upd_ne (Ne.symm b.2.2)]
    show H W.s = some (.lst (row oV (up W.m y (some c')) true W.G))
    rw [rw']; exact A.s
  · have h : up W.m y (some c') z = some d := h
    by_cases q : z = y
    · rw [q, up_same] at h; cases h; exact hc
    · rw [up_ne q] at h
      refine (A.cs z d h).keep (fun w oo hw ew => ?_) (fun w vs ew => ?_)
      · rw [upd_ne (fun e => L.dj y z c d hm h (Ne.symm q) u hu (by rw [← e]; exact hw))]; exact ew
      · rw [upd_ne (ne_of ew hl (by intro z; cases z))]; exact ew
theorem wset_lay (L : WLay W) (hm : W.m y = some c) (e : c'.o = c.o ∧ c'.s = c.s ∧ c'.h = c.h) : WLay (W.wm (up W.m y (some c'))) := by
  have ea : wadr c' = wadr c := by unfold wadr; rw [e.1, e.2.1, e.2.2]
  have k : ∀ z d, up W.m y (some c') z = some d → ∃ d0, W.m z = some d0 ∧ wadr d = wadr d0 ∧ d.o = d0.o ∧ d.s = d0.s ∧ d.h = d0.h := fun z d h => by
    by_cases q : z = y
    · rw [q, up_same] at h; cases h; exact ⟨c, by rw [q]; exact hm, ea, e⟩
    · rw [up_ne q] at h; exact ⟨d, h, rfl, rfl, rfl, rfl⟩
  refine ⟨L.wf, L.ws, L.fs, fun z d h => ?_, fun z z' d d' h h' ne u hu hu' => ?_, fun z d h u hu => ?_, fun z d h => ?_⟩
  · obtain ⟨d0, h0, _, e1, e2, e3⟩ := k z d h
    rw [e1, e2, e3]; exact L.cn z d0 h0
  · obtain ⟨d0, h0, e1, _⟩ := k z d h
    obtain ⟨d1, h1, e2, _⟩ := k z' d' h'
    rw [e1] at hu
    rw [e2] at hu'
    exact L.dj z z' d0 d1 h0 h1 ne u hu hu'
  · obtain ⟨d0, h0, e1, _⟩ := k z d h
    rw [e1] at hu
    exact L.bs z d0 h0 u hu
  · obtain ⟨d0, h0, _⟩ := k z d h
    exact L.inb z d0 h0
theorem wset_reg (hm : W.m y = some c) (e : c'.o = c.o ∧ c'.s = c.s ∧ c'.h = c.h) (r : WReg (W.wm (up W.m y (some c'))) u) : WReg W u := by
  rcases r with e1 | e1 | e1 | ⟨z, d, h, hu⟩
  · exact .inl e1
  · exact .inr (.inl e1)
  · exact .inr (.inr (.inl e1))
  · have h : up W.m y (some c') z = some d := h
    by_cases q : z = y
    · rw [q, up_same] at h
      cases h
      refine WReg.cell hm ?_
      have ea : wadr c' = wadr c := by unfold wadr; rw [e.1, e.2.1, e.2.2]
      rw [← ea]; exact hu
    · rw [up_ne q] at h; exact WReg.cell h hu
end
def spFolded (a : Ad) : Sp := fun vs H Q _ => ∃ (S : Sh) (W : Wh) (n : Nat), vs = [.ref S.p, .ref W.w] ∧ Tog a H S W n ∧ n ≤ 63 ∧ ∀ (H' : Hp) (S' : Sh) (W' : Wh), Tog a H' S' W' n → Stay No S W S' W' H H' → Q (.bl true) H'
section
variable {P : Program} {w : World} {K : PySem.W.Frag} {mg : Str → Option Value} {base : Heap} {a : Ad}
theorem bool_ix (s : Bool) : (if s = true then (1 : Int) else 0) = ((if s = true then 1 else 0 : Nat) : Int) := by cases s <;> rfl
theorem ok_folded (T : Top K mg a) : FnOk P w K mg base CX0 4 a.fFolded a.dFolded ["_law_sheets", "_law_where"] (spFolded a) := by
  have GF : FnOk P w K mg base CX0 3 a.fFold a.dFold ["self"] (spFold a) := ok_fold T
  have GA : FnOk P w K mg base CX0 1 a.fAlike a.dAlike ["_law_where"] (spAlike a) := ok_alike T
  refine T.FFolded.ok scFolded (fun vs H Q E h => ?_) (fun cdv A outer s H vs Q E hr h => ?_)
  · obtain ⟨S, W, n, rfl, _⟩ := h
    rfl
  · obtain ⟨S, W, n, rfl, t, hn, q⟩ := h
    have hr1 : Room 1 _ := hr.mono (by decide)
    have GR : FnOk P w K mg base CX0 1 a.fRank a.dRank ["_law_where", "_law_spot"] (spRank S.F W.w) := ok_rank T S.F W.w
    refine ⟨_, (pss_cons (ps_set (i := 2) scFolded.nd rfl (.inl rfl) (pe_meth0 (pv 0) T.clS T.mFold GF hr T.bFold .nil pass0))
      (pss_cons (ps_for PassesOwn.never rfl (pi_list (pv 2)) (pg_name (i := 3) scFolded.nd rfl (.inl rfl)) (pss_cons (ps_setLc (i := 4) (own := [("_law_spot", 7)]) (g := gName 7) (tt := tYes) (te := tOp (rIxL K) (tVar 1) (tCB _ (tCons (tOp _ (tOp (rIxT K) (tVar 7) (tC (.int 0))) (tC (.str "slot"))) tNil))) rfl scFolded.nd rfl rfl (sw_true rfl rfl rfl (by decide +kernel)) (pi_tup (pv 3)) (blkOk_by (N := NFolded) (sc := defScope sFolded) (by decide +kernel)) (fun _ _ _ _ _ => pg_name (i := 7) scFolded.nd rfl (Or.inl rfl)) (fun _ _ _ _ _ => pts_nil) (fun _ _ _ _ _ => (pe_ix ix_list (pv 1) (pe_callTy (T := "int") call_int1 (by rfl) T.zint (by decide +kernel) (pa_cons (pe_cmpR op_eq (pe_ix ix_tup (pv 7) pe_int (fun _ _ => rfl)) pe_str (nomark _)) pa_nil)) (fun _ _ => rfl))))
      (pss_cons (ps_set (i := 5) scFolded.nd rfl (.inl rfl) (pe_ix ix_list (pe_ix ix_list (pv 4) pe_int (fun _ _ => rfl)) (pe_ix ix_tup (pe_ix ix_tup (pv 3) pe_int (fun _ _ => rfl)) pe_int (fun _ _ => rfl)) (fun _ _ => rfl)))
      (pss_cons (ps_set (i := 6) scFolded.nd rfl (.inl rfl) (pe_ix ix_list (pe_ix ix_list (pv 4) pe_int (fun _ _ => rfl)) (pe_ix ix_tup (pe_ix ix_tup (pv 3) pe_int (fun _ _ => rfl)) pe_int (fun _ _ => rfl)) (fun _ _ => rfl)))
      (pss_cons (ps_if (PW.pt (pw_or (pt_cmpR op_isN (pv 5) pe_non (nomark _)) (pw_or (pt_cmpR op_isN (pv 6) pe_non (nomark _)) (pw_or1 (pt_cmpR (op_neD hr.units) (pe_ix ix_list (pv 5) pe_int (fun _ _ => rfl)) (pe_ix ix_list (pv 6) pe_int (fun _ _ => rfl)) (nomark _)))))) (pss_one (ps_ret pe_bl)) pss_nil)
      (pss_cons (ps_if (pt_cmpR op_ge (pe_call GR hr1 rfl T.gRank T.FRank.kp T.bRank .nil pass0 (pa_cons (pv 1) (pa_cons (pe_ix ix_tup (pv 3) pe_int (fun _ _ => rfl)) pa_nil))) (pe_call GR hr1 rfl T.gRank T.FRank.kp T.bRank .nil pass0 (pa_cons (pv 1) (pa_cons (pe_ix ix_tup (pv 3) pe_int (fun _ _ => rfl)) pa_nil))) (nomark _)) (pss_one (ps_ret pe_bl)) pss_nil)
      (pss_cons (ps_if (pt_cmpR op_in_seq pe_str (pe_lc (own := [("_law_holder", 8)]) (g := gName 8) (tt := tYes) (te := tOp (rIxT K) (tVar 8) (tC (.int 0))) rfl scFolded.nd (pi_list (pe_op op_cat (pe_ix ix_list (pv 5) pe_int (fun _ _ => rfl)) (pe_ix ix_list (pv 6) pe_int (fun _ _ => rfl)))) (blkOk_by (N := NFolded) (sc := defScope sFolded) (by decide +kernel)) (fun _ _ _ _ _ => pg_name (i := 8) scFolded.nd rfl (Or.inl rfl)) (fun _ _ _ _ _ => pts_nil) (fun _ _ _ _ _ => (pe_ix ix_tup (pv 8) pe_int (fun _ _ => rfl)))) (by rfl)) (pss_one (ps_ret pe_bl)) pss_nil)
      (pss_cons (ps_expr (pe_bm PySem.F.plainAttrs_list PySem.F.slot_list_extend PySem.F.type_list_extend mt_extend (pe_ix ix_list (pv 6) pe_int (fun _ _ => rfl)) (pa_cons (pe_ix ix_list (pv 5) pe_int (fun _ _ => rfl)) pa_nil)))
      (pss_one (ps_asg pe_non (pg_sub (pe_ix ix_list (pv 4) pe_int (fun _ _ => rfl)) (pe_ix ix_tup (pe_ix ix_tup (pv 3) pe_int (fun _ _ => rfl)) pe_int (fun _ _ => rfl)) set_list)))))))))))
      (pss_one (ps_ret (pe_not (pe_call GA hr1 rfl T.gAlike T.FAlike.kp T.bAlike .nil pass0 (pa_cons (pv 1) pa_nil))))))), ?_⟩
    refine ⟨_, rfl, S.p, S.dx, _, rfl, t.sh.p, shF_no (by decide +kernel), S, n, rfl, t.sh, t.sl, t.tw, t.ok, hn, Nat.le_trans t.F64 (by decide), Nat.le_trans t.G64 (by decide), fun H1 m' l mv ms A1 L1 W1 ok1 fr1 mva nl hmv rp no2 => ?_⟩
    have kk : ∀ u o, H u = some o → ¬ Reg S u → H1 u = some o := fr1.keep
    have wat1 : WAt H1 W := t.wat.same (fun u o r e => kk u o e (fun r' => t.dj u r' r)) (fun u vs e => kk u _ e (t.sh.notup e))
    have nlw : ¬ WReg W l := fun r => by
      obtain ⟨o, ho⟩ := t.wat.there r
      rw [nl] at ho; cases ho
    have dj1 : ∀ u, Reg (S.wm m') u → ¬ WReg W u := fun u r wr => by
      rcases fr1.new u r with z | z
      · exact t.dj u z wr
      · obtain ⟨o, ho⟩ := t.wat.there wr
        rw [z] at ho; cases ho
    refine ⟨_, rfl, l, rfl, ⟨_, SqL.of mva.lst⟩, for_list (xs := ms.map V.ref) (fun i σ H' => (∃ z3 z4 z5 z6 : Option V, σ = [some (.ref S.p), some (.ref W.w), some (.ref l), z3, z4, z5, z6, none, none]) ∧ ∃ mw : Mp WCell, WAt H' (W.wm mw) ∧ WLay (W.wm mw) ∧ (∀ u, WReg (W.wm mw) u → WReg W u) ∧ VOk (wv mw) n ∧ Replay S.F (wv mw) (mv.drop i) (vw m') ∧ ∀ u o, H1 u = some o → ¬ WReg W u → H' u = some o) ⟨⟨_, _, _, _, rfl⟩, W.m, wat1, t.wl, fun u r => r, by rw [← t.ev]; exact t.ok, by rw [← t.ev]; exact rp, fun u o e _ => e⟩ ?_ ?_ ?_⟩
    · rintro i σ H' _ ⟨_, mw, _, _, _, _, _, k⟩
      exact SqL.of (k _ _ mva.lst nlw)
    · rintro i x σ H' hx ⟨⟨z3, z4, z5, z6, rfl⟩, mw, wat, wl, reg, ok, rp, k⟩
      obtain ⟨u, hu, rfl⟩ : ∃ u, ms[i]? = some u ∧ V.ref u = x := by
        rw [List.getElem?_map] at hx
        cases e : ms[i]? with
        | none => rw [e] at hx; cases hx
        | some u => rw [e] at hx; exact ⟨u, rfl, Option.some.inj hx⟩
      have hi : i < mv.length := by
        have := (List.getElem?_eq_some_iff.mp hu).1
        rw [mva.len] at this; exact this
      obtain ⟨⟨x, y⟩, hxy⟩ : ∃ xy : Spot × Spot, mv[i]? = some xy := ⟨mv[i], List.getElem?_eq_getElem hi⟩
      obtain ⟨tx, ty, hu1, hx1, hy1⟩ := mva.at_ i u x y hu hxy
      have kt : ∀ u vs, H1 u = some (.tup vs) → H' u = some (.tup vs) := fun u vs e => k u _ e (wat1.notup e)
      have hu2 := kt _ _ hu1
      have hx2 := kt _ _ hx1
      have hy2 := kt _ _ hy1
      have ed : mv.drop i = (x, y) :: mv.drop (i + 1) := by
        rw [List.drop_eq_getElem_cons hi]
        rw [List.getElem?_eq_getElem hi] at hxy
        rw [Option.some.inj hxy]
      rw [ed] at rp
      cases rp with
      | cons hvx hvy b1 b2 hrk rp' =>
      obtain ⟨cx, hmx, epx⟩ := wv_of hvx
      obtain ⟨cy, hmy, epy⟩ := wv_of hvy
      injection epx with ex1 ex2
      injection epy with ey1 ey2
      subst ex2 ey2
      have exy : cx.xs = cy.xs := ex1.symm.trans ey1
      have hcx := wat.cs _ _ hmx
      have hcy := wat.cs _ _ hmy
      have ixx : x.2 < wsz W x.1 := wl.inb _ _ hmx
      have iyy : y.2 < wsz W y.1 := wl.inb _ _ hmy
      have fx := (ok.one _ _ hvx).few hn
      have fy := (ok.one _ _ hvy).few hn
      have lx : cx.hs.length < 64 := by have := fx.1; rwa [List.length_map] at this
      have ly : cy.hs.length < 64 := by have := fy.1; rwa [List.length_map] at this
      have nxy : x ≠ y := fun e => by rw [e] at hrk; exact Nat.lt_irrefl _ hrk
      -- rows
      refine ⟨_, rfl, u, rfl, ⟨_, SqT.of hu2⟩, fun D hD => lc_tup (xs := [.ref tx, .ref ty]) (fun j H2 => H2 D = some (.lst (([.ref (wlst W x.1), .ref (wlst W y.1)] : List V).take j)) ∧ ∀ u o, H' u = some o → H2 u = some o) ⟨upd_same, fun u o e => by rw [upd_ne (ne_of_none e hD)]; exact e⟩ (fun j H2 _ h => SqT.of (h.2 _ _ hu2)) ?_ ?_⟩
      · rintro j z H2 hz ⟨h1, h2⟩
        obtain ⟨tz, zz, ez, hz3, eacc⟩ : ∃ (tz : Addr) (zz : Spot), z = .ref tz ∧ H' tz = some (.tup (spV zz)) ∧ (([.ref (wlst W x.1), .ref (wlst W y.1)] : List V).take j ++ [.ref (wlst W zz.1)] = ([.ref (wlst W x.1), .ref (wlst W y.1)] : List V).take (j + 1)) ∧ j < 2 := by
          cases j with
          | zero => exact ⟨tx, x, (Option.some.inj hz).symm, hx2, rfl, by omega⟩
          | succ j =>
            cases j with
            | zero => exact ⟨ty, y, (Option.some.inj hz).symm, hy2, rfl, by omega⟩
            | succ j => cases hz
        subst ez
        refine ⟨rfl, _, rfl, _, rfl, tz, _, _, _, rfl, rfl, SqT.of (h2 _ _ hz3), atI_nat (j := 0) rfl, rfl, .inr ⟨_, rfl, ?_⟩⟩
        rw [sn_slot, bool_ix]
        refine ⟨W.w, _, _, _, rfl, rfl, SqL.of (h2 _ _ wat.w), atI_nat (v := .ref (wlst W zz.1)) (by cases zz.1 <;> rfl), _, h1, ?_, ?_, fun u o e => ?_⟩
        · exact Nat.lt_of_le_of_lt (List.length_take_le' _ _) (show 2 < sizeLine by decide)
        · rw [upd_same, eacc.1]
        · rw [upd_ne (ne_of_none e hD)]; exact h2 u o e
      · rintro H2 ⟨hD2, k2⟩
        have hD2 : H2 D = some (.lst [.ref (wlst W x.1), .ref (wlst W y.1)]) := hD2
        have wat2 : WAt H2 (W.wm mw) := wat.same (fun u o _ e => k2 u o e) (fun u vs e => k2 u _ e)
        have nDw : ∀ v, WReg (W.wm mw) v → v ≠ D := fun v r => by
          obtain ⟨o, ho⟩ := wat.there r
          exact ne_of_none ho hD
        have hu3 := k2 _ _ hu2
        have hx3 := k2 _ _ hx2
        have hy3 := k2 _ _ hy2
        have getx : (row oV mw x.1 (wsz W x.1))[x.2]? = some (V.ref cx.o) := by
          rw [row_get ixx]
          show some (optV oV (mw x)) = _
          rw [hmx]; rfl
        have gety : (row oV mw y.1 (wsz W y.1))[y.2]? = some (V.ref cy.o) := by
          rw [row_get iyy]
          show some (optV oV (mw y)) = _
          rw [hmy]; rfl
        have hcx2 := wat2.cs _ _ hmx
        have hcy2 := wat2.cs _ _ hmy
        refine ⟨_, rfl, D, _, _, _, rfl, rfl, SqL.of hD2, atI_nat (j := 0) rfl, _, rfl, u, _, _, _, rfl, rfl, SqT.of hu3, atI_nat (j := 0) rfl, tx, _, _, _, rfl, rfl, SqT.of hx3, atI_nat (j := 1) rfl, wlst W x.1, _, _, _, rfl, rfl, SqL.of (wat2.l x.1), atI_nat getx, ?_⟩
        refine ⟨_, rfl, D, _, _, _, rfl, rfl, SqL.of hD2, atI_nat (j := 1) rfl, _, rfl, u, _, _, _, rfl, rfl, SqT.of hu3, atI_nat (j := 1) rfl, ty, _, _, _, rfl, rfl, SqT.of hy3, atI_nat (j := 1) rfl, wlst W y.1, _, _, _, rfl, rfl, SqL.of (wat2.l y.1), atI_nat gety, ?_⟩
        -- the first test
        refine ⟨_, rfl, rfl, _, rfl, iteF ⟨_, rfl, rfl, _, rfl, iteF ⟨_, rfl, cx.o, _, _, _, rfl, rfl, SqL.of hcx2.o, atI_nat (j := 0) rfl, _, rfl, cy.o, _, _, _, rfl, rfl, SqL.of hcy2.o, atI_nat (j := 0) rfl, _, _, ints_dp hcx2.s, ints_dp hcy2.s, shaped_all (n := 0) (by decide) (fun d hd => ?_), shaped_all (n := 0) (by decide) (fun d hd => ?_), _, rfl, ?_⟩⟩⟩
        · obtain ⟨i, _, rfl⟩ := List.mem_map.mp hd
          exact ⟨by simp [PyData.canLay0], by simp [PyData.depth]⟩
        · obtain ⟨i, _, rfl⟩ := List.mem_map.mp hd
          exact ⟨by simp [PyData.canLay0], by simp [PyData.depth]⟩
        rw [ints_eqv', decide_eq_true exy]
        -- the ranks
        refine iteF ⟨_, rfl, _, rfl, u, _, _, _, rfl, rfl, SqT.of hu3, atI_nat (j := 1) rfl, W.f, W.s, ty, y, _, rfl, wat2.w, wat2.f, by rw [row_length]; exact t.eF, hy3, _, rfl, _, rfl, u, _, _, _, rfl, rfl, SqT.of hu3, atI_nat (j := 0) rfl, W.f, W.s, tx, x, _, rfl, wat2.w, wat2.f, by rw [row_length]; exact t.eF, hx3, _, _, rfl, rfl, _, rfl, ?_⟩
        rw [decide_eq_false (by omega : ¬ (((rankOf S.F y : Nat) : Int) ≥ ((rankOf S.F x : Nat) : Int)))]
        -- no bank
        refine iteF ⟨_, rfl, cx.o, _, _, _, rfl, rfl, SqL.of hcx2.o, atI_nat (j := 1) rfl, _, rfl, cy.o, _, _, _, rfl, rfl, SqL.of hcy2.o, atI_nat (j := 1) rfl, cx.h, cy.h, _, _, rfl, rfl, hcx2.h, hcy2.h, ?_, fun pl npl => ?_⟩
        · rw [List.length_map, List.length_map]
          exact Nat.le_trans (by omega : cx.hs.length + cy.hs.length ≤ 200) (by decide)
        have npl' : ∀ u o, H2 u = some o → u ≠ pl := fun u o e => ne_of_none e npl
        have k3 : ∀ u o, H2 u = some o → upd H2 pl (.lst (hdR cx.hs ++ hdR cy.hs)) u = some o := fun u o e => by rw [upd_ne (npl' u o e)]; exact e
        have hpl : upd H2 pl (.lst (hdR cx.hs ++ hdR cy.hs)) pl = some (.lst (hdR (cx.hs ++ cy.hs))) := by rw [upd_same, ← List.map_append]
        generalize upd H2 pl (.lst (hdR cx.hs ++ hdR cy.hs)) = H3 at k3 hpl
        have lxy : (cx.hs ++ cy.hs).length ≤ 1000 := by rw [List.length_append]; omega
        refine ⟨pl, rfl, ⟨_, SqL.of hpl⟩, fun E hE => lc_txts (hs := cx.hs ++ cy.hs) hpl (fun q hq => ?_) hE lxy (by show 8 < 9; omega) fun H4 hE4 k4 => ?_⟩
        · rcases List.mem_append.mp hq with z | z
          · exact k3 _ _ (hcx2.at_ q z)
          · exact k3 _ _ (hcy2.at_ q z)
        refine ⟨E, _, rfl, .inl (SqL.of hE4), rfl, txts_flat _, _, rfl, ?_⟩
        have nb : ((cx.hs ++ cy.hs).map Prod.snd).any (·.bk) = false := by
          rw [List.map_append, List.any_append]
          rw [show (cx.hs.map Prod.snd).any (·.bk) = false from b1, show (cy.hs.map Prod.snd).any (·.bk) = false from b2]
          rfl
        rw [if_neg Bool.false_ne_true, txts_in, nb]
        have k34 : ∀ u o, H2 u = some o → H4 u = some o := fun u o e => k4 u o (k3 u o e)
        have wat4 : WAt H4 (W.wm mw) := wat2.same (fun u o _ e => k34 u o e) (fun u vs e => k34 u _ e)
        have hcx4 := wat4.cs _ _ hmx
        have hcy4 := wat4.cs _ _ hmy
        refine iteF ⟨_, rfl, cy.o, _, _, _, rfl, rfl, SqL.of hcy4.o, atI_nat (j := 1) rfl, .inl ⟨rfl, _, SqL.of hcy4.h⟩, _, rfl, cx.o, _, _, _, rfl, rfl, SqL.of hcx4.o, atI_nat (j := 1) rfl, cy.h, cx.h, _, _, rfl, rfl, hcy4.h, hcx4.h, ?_, ?_⟩
        · rw [List.length_map, List.length_map]
          exact Nat.le_trans (by omega : cy.hs.length + cx.hs.length ≤ 200) (by decide)
        have cnY := wl.cn _ _ hmy
        have hch : cy.h ∈ wadr cy := mem_wadr.mpr (.inr (.inr rfl))
        have hcy5 : WCellAt (upd H4 cy.h (.lst (hdR cy.hs ++ hdR cx.hs))) { cy with hs := cy.hs ++ cx.hs } := by
          refine ⟨?_, ?_, ?_, fun q hq => ?_⟩
          · rw [upd_ne cnY.2.1]; exact hcy4.o
          · rw [upd_ne cnY.2.2]; exact hcy4.s
          · rw [upd_same]
            show _ = some (HO.lst (hdR (cy.hs ++ cx.hs)))
            rw [← List.map_append]
          · have hq' : AtHd H4 q := by
              rcases List.mem_append.mp hq with z | z
              · exact hcy4.at_ q z
              · exact hcx4.at_ q z
            show upd H4 cy.h _ q.1 = _
            rw [upd_ne (ne_of hq' hcy4.h (by intro z; cases z))]
            exact hq'
        have wat5 := wset_at wat4 wl hmy hch (c' := { cy with hs := cy.hs ++ cx.hs }) ⟨rfl, rfl, rfl⟩ hcy5
        have wat5 : WAt (upd H4 cy.h (.lst (hdR cy.hs ++ hdR cx.hs))) (W.wm (up mw y (some { cy with hs := cy.hs ++ cx.hs }))) := wat5
        have wl5 : WLay (W.wm (up mw y (some { cy with hs := cy.hs ++ cx.hs }))) := wset_lay wl hmy ⟨rfl, rfl, rfl⟩
        have reg5 : ∀ u, WReg (W.wm (up mw y (some { cy with hs := cy.hs ++ cx.hs }))) u → WReg W u := fun u r => reg u (wset_reg (W := W.wm mw) (c' := { cy with hs := cy.hs ++ cx.hs }) hmy ⟨rfl, rfl, rfl⟩ r)
        have rch : WReg (W.wm mw) cy.h := WReg.cell hmy hch
        have hD5 : upd H4 cy.h (.lst (hdR cy.hs ++ hdR cx.hs)) D = some (.lst [.ref (wlst W x.1), .ref (wlst W y.1)]) := by
          rw [upd_ne (Ne.symm (nDw _ rch))]; exact k34 _ _ hD2
        have t5 : ∀ v vs, H4 v = some (.tup vs) → upd H4 cy.h (.lst (hdR cy.hs ++ hdR cx.hs)) v = some (.tup vs) := fun v vs e => by rw [upd_ne (ne_of e hcy4.h (by intro z; cases z))]; exact e
        have hu5 := t5 _ _ (k34 _ _ hu3)
        have hx5 := t5 _ _ (k34 _ _ hx3)
        have k5 : ∀ u o, H1 u = some o → ¬ WReg W u → upd H4 cy.h (.lst (hdR cy.hs ++ hdR cx.hs)) u = some o := fun u o e n => by
          rw [upd_ne (fun z => n (by rw [z]; exact reg _ rch))]
          exact k34 u o (k2 u o (k u o e n))
        have v5 : wv (up (up mw y (some { cy with hs := cy.hs ++ cx.hs })) x none) = up (up (wv mw) y (some (cy.xs, cy.hs.map Prod.snd ++ cx.hs.map Prod.snd))) x none := by
          rw [wv_up, wv_up]
          show up (up (wv mw) y (some (cy.xs, (cy.hs ++ cx.hs).map Prod.snd))) x none = _
          rw [List.map_append]
        generalize upd H4 cy.h (.lst (hdR cy.hs ++ hdR cx.hs)) = H5 at wat5 hD5 hu5 hx5 k5
        generalize hm5 : up mw y (some { cy with hs := cy.hs ++ cx.hs }) = m5 at wat5 wl5 reg5 v5
        refine ⟨_, rfl, D, _, _, _, rfl, rfl, SqL.of hD5, atI_nat (j := 0) rfl, _, rfl, u, _, _, _, rfl, rfl, SqT.of hu5, atI_nat (j := 0) rfl, tx, _, _, _, rfl, rfl, SqT.of hx5, atI_nat (j := 1) rfl, wlst W x.1, _, _, x.2, rfl, rfl, wat5.l x.1, (by rw [row_length]; exact ixN_nat ixx), ?_⟩
        have e6 : (row oV m5 x.1 (wsz W x.1)).set x.2 V.non = row oV (up m5 x none) x.1 (wsz W x.1) := row_set (m := m5) (s := x.1) (v := none) ixx
        rw [show (row oV (W.wm m5).m x.1 (wsz (W.wm m5) x.1)).set x.2 V.non = row oV (up m5 x none) x.1 (wsz W x.1) from e6]
        have wat6 : WAt (upd H5 (wlst W x.1) (.lst (row oV (up m5 x none) x.1 (wsz W x.1)))) (W.wm (up m5 x none)) := wdel_at (W := W.wm m5) wat5 wl5 (s := x.1) (i := x.2)
        refine ⟨⟨_, _, _, _, rfl⟩, up m5 x none, wat6, wdel_lay (W := W.wm m5) wl5, fun u r => reg5 u (wdel_reg (W := W.wm m5) r), ?_, ?_, fun u o e n => ?_⟩
        · rw [v5]
          have h := vok_merge ok hvx hvy nxy
          rw [← ey1]
          exact h
        · rw [v5, ← ey1]
          exact rp'
        · rw [upd_ne (fun z => n (by rw [z]; cases x.1; exact .inr (.inl rfl); exact .inr (.inr (.inl rfl))))]
          exact k5 u o e n
    · rintro σ H' ⟨⟨z3, z4, z5, z6, rfl⟩, mw, wat, wl, reg, ok, rp, k⟩
      have e0 : mv.drop (ms.map V.ref).length = [] := by rw [List.length_map, mva.len, List.drop_length]
      rw [e0] at rp
      have ev : vw m' = wv mw := by
        generalize wv mw = v1 at rp ⊢
        generalize vw m' = v2 at rp ⊢
        cases rp
        rfl
      have A' : ShAt a H' (S.wm m') := A1.same fun u o r e => k u o e (dj1 u r)
      have kt : ∀ u vs, H u = some (.tup vs) → H' u = some (.tup vs) := fun u vs e => by
        have := kk u _ e (t.sh.notup e)
        exact k u _ this (wat1.notup this)
      refine ⟨_, rfl, W.wm mw, rfl, wat, by rw [← ev]; exact no2, by show W.F ≤ 16; rw [t.eF]; exact t.F64, by show W.G ≤ 16; rw [t.eG]; exact t.G64, fun x c h => ?_, fun H6 k6 => ?_⟩
      · have := (ok.one _ _ (wv_some h)).few hn
        have := this.1
        rw [List.length_map] at this
        omega
      · refine ⟨false, rfl, ?_⟩
        refine q H6 (S.wm m') (W.wm mw) ⟨A'.same fun u o _ e => k6 u o e, L1, W1, wat.same (fun u o _ e => k6 u o e) (fun u vs e => k6 u _ e), wl, fun u r wr => dj1 u r (reg u wr), t.eF, t.eG, ev, ok1, t.st, t.F64, t.G64⟩ ⟨rfl, rfl, rfl, rfl, fun u o e h1 h2 _ => k6 u o (k u o (kk u o e h1) h2), fun u vs e => k6 u _ (kt u vs e), fun u r => ?_⟩
        rcases r with r | r
        · rcases fr1.new u r with z | z
          · exact .inl z
          · exact .inr (.inr (.inl z))
        · exact .inr (.inl (reg u r))
end
end Fl

set_option Elab.async false
set_option linter.all false
set_option maxRecDepth 100000
set_option maxHeartbeats 4000000
/-! changed. -/
namespace Fl
open PySem L2
section
variable {m : Mp Cell} {c : Cell} {i b : Nat} {v : Int}
theorem untw_box (hm : m (false, i) = some c) : untwM (boxM m i c b v) i = up (untwM m i) (false, i) (some { c with xs := c.xs.set b v, bd := none }) := by
  have h1 : boxM m i c b v (false, i) = some { c with xs := c.xs.set b v } := up_same
  cases e : c.bd with
  | none =>
    rw [untw_none h1 e, untw_none hm e]
    have : ({ c with xs := c.xs.set b v, bd := none } : Cell) = { c with xs := c.xs.set b v } := by
      cases c
      simp only at e
      subst e
      rfl
    rw [this]
  | some j =>
    rw [untw_some h1 e, untw_some hm e, up_up]
    show up (up (up m (false, i) _) (true, j) none) (false, i) _ = _
    rw [up_comm (x := (false, i)) (y := (true, j)) fs_ne, up_up]
theorem twin_set {c1 c2 : Cell} (W : Twin m) (hm : m (false, i) = some c1) (e1 : c1.bd = none) (e2 : c2.bd = none) : Twin (up m (false, i) (some c2)) := by
  have h1 := clr_twin W hm isSh_frame
  have h2 : clrM m (false, i) = up m (false, i) none := by
    show up (untwM m i) (false, i) none = _
    rw [untw_none hm e1]
  rw [h2] at h1
  have h3 := twin_add (c := c2) h1 up_same e2
  rw [up_up] at h3
  exact h3
theorem box_twin (W : Twin m) (hm : m (false, i) = some c) : Twin (untwM (boxM m i c b v) i) := by
  rw [untw_box hm]
  exact twin_set (untw_twin W hm) (untw_at W hm) rfl rfl
theorem box_vw (W : Twin m) (hm : m (false, i) = some c) : vw (untwM (boxM m i c b v) i) = up (vw m) (false, i) (some (c.xs.set b v, c.hs)) := by
  rw [untw_box hm, vw_up_sh _ isSh_frame, untw_vw W hm]
theorem box_sub (hm : m (false, i) = some c) : Sub (untwM (boxM m i c b v) i) m := by
  rw [untw_box hm]
  intro y c' h
  by_cases q : y = (false, i)
  · rw [q, up_same] at h
    cases h
    exact ⟨c, by rw [q]; exact hm, rfl, rfl, rfl⟩
  · rw [up_ne q] at h
    exact untw_sub hm y c' h
end
/-- one holder out of many -/
theorem erase_filter : ∀ {hs : List (Addr × Hd)} {k : Nat} (hk : k < hs.length), (hs.map Prod.snd).Nodup → (hs.map Prod.snd).filter (fun g => decide (g ≠ hs[k].2)) = (hs.eraseIdx k).map Prod.snd
  | t :: r, 0, _, nd => by
    obtain ⟨h1, _⟩ := List.nodup_cons.mp nd
    show ((t.2 :: r.map Prod.snd).filter fun g => decide (g ≠ t.2)) = r.map Prod.snd
    rw [List.filter_cons_of_neg (by simp), List.filter_eq_self]
    intro g hg
    refine decide_eq_true fun e => h1 (by rw [← e]; exact hg)
  | t :: r, k + 1, hk, nd => by
    obtain ⟨h1, h2⟩ := List.nodup_cons.mp nd
    have hk' : k < r.length := by simpa using hk
    have hm : r[k].2 ∈ r.map Prod.snd := List.mem_map.mpr ⟨r[k], List.getElem_mem hk', rfl⟩
    show ((t.2 :: r.map Prod.snd).filter fun g => decide (g ≠ r[k].2)) = t.2 :: (r.eraseIdx k).map Prod.snd
    have hp : (fun g : Hd => decide (g ≠ r[k].2)) t.2 = true := decide_eq_true fun e => h1 (by rw [e]; exact hm)
    rw [List.filter_cons_of_pos (p := fun g : Hd => decide (g ≠ r[k].2)) hp, erase_filter hk' h2]
theorem nodup_of_k {hs : List Hd} (h : (hs.map Hd.k).Nodup) : hs.Nodup := List.Pairwise.of_map _ (fun a b h e => h (by rw [e])) h
theorem map_erase {α β : Type} (f : α → β) : ∀ (l : List α) (k : Nat), (l.map f).eraseIdx k = (l.eraseIdx k).map f
  | [], _ => rfl
  | _ :: _, 0 => rfl
  | x :: l, k + 1 => by
    show f x :: (l.map f).eraseIdx k = f x :: (l.eraseIdx k).map f
    rw [map_erase f l k]
theorem seq_nat {n k : Nat} (h : k < n) : seqIndex? (k : Int) n = some k := (ixN_seq (ixN_nat h)).1
theorem hds_lay (hs : List (Addr × Hd)) : PySem.SeqAt.shaped (.list (hs.map fun t => hdD t.2)) = true := shaped_all (n := 1) (by decide) fun d hd => by
  obtain ⟨t, _, rfl⟩ := List.mem_map.mp hd
  exact ⟨hd_lay t.2, hd_depth t.2⟩
def spChanged (a : Ad) : Sp := fun vs H Q _ => ∃ (S : Sh) (W : Wh) (n : Nat) (x : Spot) (tt : Addr) (way z : Int) (g : Addr) (h : Hd), vs = [.ref S.p, .ref W.w, .ref tt, .int way, .int z, .ref g] ∧ Tog a H S W n ∧ n ≤ 62 ∧ H tt = some (.tup (spV x)) ∧ x.2 < wsz W x.1 ∧ (way = 4 ∨ way = 5 ∨ way = 6 → ∃ c, W.m x = some c) ∧ AtHd H (g, h) ∧ h.k = n ∧ h.n < 5 ∧
  ∀ (H' : Hp) (S' : Sh) (W' : Wh), Tog a H' S' W' (n + 1) → Stay No S W S' W' H H' → Q (.bl true) H'
section
variable {P : Program} {w : World} {K : PySem.W.Frag} {mg : Str → Option Value} {base : Heap} {a : Ad}
theorem ok_changed (T : Top K mg a) : FnOk P w K mg base CX0 4 a.fChanged a.dChanged ["_law_sheets", "_law_where", "_law_spot", "_law_way", "_law_number_here", "_law_holder"] (spChanged a) := by
  have GH : FnOk P w K mg base CX0 3 a.fHold a.dHold ["self", "spot", "holder"] (spHold a) := ok_hold T
  have GL : FnOk P w K mg base CX0 3 a.fLetgo a.dLetgo ["self", "spot", "holder"] (spLetgo a) := ok_letgo T
  have GS : FnOk P w K mg base CX0 2 a.fSetbox a.dSetbox ["self", "frame", "box", "value"] (spSetbox a) := ok_setbox T
  refine T.FChanged.ok scChanged (fun vs H Q E h => ?_) (fun cdv A outer s H vs Q E hr h => ?_)
  · obtain ⟨S, W, n, x, tt, way, z, g, h, rfl, _⟩ := h
    rfl
  · obtain ⟨S, W, n, x, tt, way, z, g, h, rfl, t, hn, htt, hin, hway, hg, hk, h5, q⟩ := h
    have hr2 : Room 2 _ := hr.mono (by decide)
    refine ⟨_, (pss_cons (ps_set (i := 6) scChanged.nd rfl (.inl rfl) (pe_ix ix_list (pe_ix ix_list (pv 1) (pe_callTy (T := "int") call_int1 (by rfl) T.zint (by decide +kernel) (pa_cons (pe_cmpR op_eq (pe_ix ix_tup (pv 2) pe_int (fun _ _ => rfl)) pe_str (nomark _)) pa_nil)) (fun _ _ => rfl)) (pe_ix ix_tup (pv 2) pe_int (fun _ _ => rfl)) (fun _ _ => rfl)))
      (pss_cons (ps_if (pt_cmpR op_eq (pv 3) pe_int (nomark _)) (pss_cons (ps_expr (pe_bm PySem.F.plainAttrs_list PySem.F.slot_list_append PySem.F.type_list_append mt_append (pe_ix ix_list (pv 6) pe_int (fun _ _ => rfl)) (pa_cons (pv 5) pa_nil)))
      (pss_one (ps_expr (pe_meth (pv 0) T.clS T.mHold GH hr T.bHold .nil pass0 (pa_cons (pv 2) (pa_cons (pv 5) pa_nil)))))) pss_nil)
      (pss_cons (ps_if (pt_cmpR op_eq (pv 3) pe_int (nomark _)) (pss_cons (ps_expr (pe_meth (pv 0) T.clS T.mLetgo GL hr T.bLetgo .nil pass0 (pa_cons (pv 2) (pa_cons (pe_bm PySem.F.plainAttrs_list PySem.F.slot_list_pop PySem.F.type_list_pop mt_popAt (pe_ix ix_list (pv 6) pe_int (fun _ _ => rfl)) (pa_cons (pe_op op_mod (pv 4) (pe_callB call_len_seq (by rfl) T.zlen PySem.boot_len (pa_cons (pe_ix ix_list (pv 6) pe_int (fun _ _ => rfl)) pa_nil))) pa_nil)) pa_nil))))
      (pss_one (ps_if (pt_cmpR (op_eqD hr.units) (pe_ix ix_list (pv 6) pe_int (fun _ _ => rfl)) (pe_lst pa_nil) (nomark _)) (pss_one (ps_asg pe_non (pg_sub (pe_ix ix_list (pv 1) (pe_callTy (T := "int") call_int1 (by rfl) T.zint (by decide +kernel) (pa_cons (pe_cmpR op_eq (pe_ix ix_tup (pv 2) pe_int (fun _ _ => rfl)) pe_str (nomark _)) pa_nil)) (fun _ _ => rfl)) (pe_ix ix_tup (pv 2) pe_int (fun _ _ => rfl)) set_list))) pss_nil))) pss_nil)
      (pss_cons (ps_if (PW.pt (pw_and (pt_cmpR op_eq (pv 3) pe_int (nomark _)) (pw_and1 (pt_cmpR op_eq (pe_ix ix_tup (pv 2) pe_int (fun _ _ => rfl)) pe_str (nomark _))))) (pss_cons (ps_asg (pe_op op_mod (pe_op op_fdiv (pv 4) pe_int) pe_int) (pg_sub (pe_ix ix_list (pv 6) pe_int (fun _ _ => rfl)) (pe_op op_mod (pv 4) pe_int) set_list))
      (pss_one (ps_expr (pe_meth (pv 0) T.clS T.mSetbox GS hr2 T.bSetbox .nil pass0 (pa_cons (pe_ix ix_tup (pv 2) pe_int (fun _ _ => rfl)) (pa_cons (pe_op op_mod (pv 4) pe_int) (pa_cons (pe_op op_mod (pe_op op_fdiv (pv 4) pe_int) pe_int) pa_nil))))))) pss_nil)
      (pss_one (ps_ret pe_bl)))))), ?_⟩
    -- where[int(spot[0] == 'slot')][spot[1]]
    refine ⟨_, rfl, _, rfl, tt, _, _, _, rfl, rfl, SqT.of htt, atI_nat (j := 0) rfl, rfl, .inr ⟨_, rfl, ?_⟩⟩
    rw [sn_slot, bool_ix]
    have rws : ([.ref W.f, .ref W.s] : List V)[(if x.1 = true then 1 else 0 : Nat)]? = some (.ref (wlst W x.1)) := by cases x.1 <;> rfl
    refine ⟨W.w, _, _, _, rfl, rfl, SqL.of t.wat.w, atI_nat rws, _, rfl, tt, _, _, _, rfl, rfl, SqT.of htt, atI_nat (j := 1) rfl, wlst W x.1, _, _, _, rfl, rfl, SqL.of (t.wat.l x.1), atI_nat (row_get hin), ?_⟩
    rw [show W.m (x.1, x.2) = W.m x from rfl]
    refine ⟨_, rfl, rfl, _, rfl, ?_⟩
    by_cases w4 : way = 4
    · subst w4
      rw [decide_eq_true rfl]
      obtain ⟨c, hm⟩ := hway (.inl rfl)
      rw [hm]
      have hc := t.wat.cs _ _ hm
      have lc : c.hs.length < 64 := by
        have := ((t.one hm).few (by omega)).1
        rwa [List.length_map] at this
      refine iteT ⟨_, rfl, c.o, _, _, _, rfl, rfl, SqL.of hc.o, atI_nat (j := 1) rfl, .inl ⟨rfl, _, SqL.of hc.h⟩, _, rfl, c.h, _, _, rfl, rfl, hc.h, by rw [List.length_map]; exact Nat.lt_of_lt_of_le lc (by decide), ?_⟩
      obtain ⟨cc, hcc, hsh, ex, eh⟩ := t.at_ hm
      have hch : c.h ∈ wadr c := mem_wadr.mpr (.inr (.inr rfl))
      have cn := t.wl.cn _ _ hm
      have rch : WReg W c.h := WReg.cell hm hch
      have hc1 : WCellAt (upd H c.h (.lst (hdR c.hs ++ [.ref g]))) { c with hs := c.hs ++ [(g, h)] } := by
        refine ⟨by rw [upd_ne cn.2.1]; exact hc.o, by rw [upd_ne cn.2.2]; exact hc.s, ?_, fun r hr => ?_⟩
        · rw [upd_same]
          show _ = some (HO.lst (hdR (c.hs ++ [(g, h)])))
          rw [show hdR (c.hs ++ [(g, h)]) = hdR c.hs ++ [.ref g] from List.map_append]
        · have hr' : AtHd H r := by
            rcases List.mem_append.mp hr with z | z
            · exact hc.at_ r z
            · rw [List.mem_singleton.mp z]; exact hg
          show upd H c.h _ r.1 = _
          rw [upd_ne (ne_of hr' hc.h (by intro z; cases z))]; exact hr'
      have wat1 := wset_at t.wat t.wl hm hch (c' := { c with hs := c.hs ++ [(g, h)] }) ⟨rfl, rfl, rfl⟩ hc1
      have wl1 := wset_lay t.wl hm (c' := { c with hs := c.hs ++ [(g, h)] }) ⟨rfl, rfl, rfl⟩
      have k1 : ∀ u o, H u = some o → u ≠ c.h → upd H c.h (.lst (hdR c.hs ++ [.ref g])) u = some o := fun u o e h => by rw [upd_ne h]; exact e
      generalize upd H c.h (.lst (hdR c.hs ++ [.ref g])) = H1 at wat1 k1
      have S1 : ShAt a H1 S := t.sh.same fun u o r e => k1 u o e (fun z => t.dj u r (by rw [z]; exact rch))
      have tch : ∀ v vs, H v = some (.tup vs) → v ≠ c.h := fun v vs e => ne_of e hc.h (by intro z; cases z)
      have hno : h ∉ cc.hs := fun hh => by
        rw [eh] at hh
        have := ((t.one hm).lt h hh).1
        omega
      refine ⟨_, rfl, S.p, S.dx, _, rfl, S1.p, shF_no (by decide +kernel), _, rfl, _, rfl, S, tt, g, x, cc, h, rfl, S1, t.sl, k1 _ _ htt (tch _ _ htt), k1 _ _ hg (tch _ _ hg), hcc, hsh, hno, by rw [eh, List.length_map]; exact lc, fun H2 A2 k2 => ?_⟩
      refine ⟨_, rfl, rfl, _, rfl, ?_⟩
      rw [decide_eq_false (by intro e; injection e with e; revert e; decide)]
      refine iteF ⟨_, rfl, rfl, _, rfl, ?_⟩
      rw [decide_eq_false (by intro e; injection e with e; revert e; decide)]
      refine iteF (iteF ?_)
      have reg1 : ∀ u, WReg (W.wm (up W.m x (some { c with hs := c.hs ++ [(g, h)] }))) u → WReg W u := fun u r => wset_reg (c' := { c with hs := c.hs ++ [(g, h)] }) hm ⟨rfl, rfl, rfl⟩ r
      have ev0 : vw (addH S.m x cc h) = up (vw S.m) x (some (cc.xs, cc.hs ++ [h])) := vw_up_sh S.m (c := { cc with hs := cc.hs ++ [h] }) hsh
      have sub : Sub (addH S.m x cc h) S.m := Sub.cell hcc ⟨rfl, rfl, rfl⟩
      have rcd : Reg S cc.d := Reg.cell hcc (mem_adr.mpr (.inr (.inr rfl)))
      have hcd := (t.sh.cs _ _ hcc).d
      have wat2 : WAt H2 (W.wm (up W.m x (some { c with hs := c.hs ++ [(g, h)] }))) := wat1.same (fun u o r e => k2 u o e (fun z => t.dj u (by rw [z]; exact rcd) (reg1 u r))) (fun u vs e => k2 u _ e (fun z => by
        have hcd1 := (S1.cs _ _ hcc).d
        rw [z, hcd1] at e; cases e))
      have ev : vw (addH S.m x cc h) = wv (up W.m x (some { c with hs := c.hs ++ [(g, h)] })) := by
        rw [ev0, wv_up, t.ev, ex, eh]
        show _ = up (wv W.m) x (some (c.xs, (c.hs ++ [(g, h)]).map Prod.snd))
        rw [List.map_append]; rfl
      refine q H2 (S.wm (addH S.m x cc h)) (W.wm (up W.m x (some { c with hs := c.hs ++ [(g, h)] }))) ⟨A2, t.sl.sub sub, twin_hs t.tw hcc hsh _, wat2, wl1, fun u r wr => t.dj u (reg_sub sub r) (reg1 u wr), t.eF, t.eG, ev, ?_, t.st, t.F64, t.G64⟩ ⟨rfl, rfl, rfl, rfl, fun u o e h1 h2 _ => k2 u o (k1 u o e (fun z => h2 (by rw [z]; exact rch))) (fun z => h1 (by rw [z]; exact rcd)), fun u vs e => k2 u _ (k1 u _ e (tch _ _ e)) (ne_of e hcd (by intro z; cases z)), fun u r => ?_⟩
      · show VOk (vw (addH S.m x cc h)) (n + 1)
        rw [ev0]
        exact vok_hold t.ok (vw_sh hcc hsh) hk h5
      · rcases r with r | r
        · exact .inl (reg_sub sub r)
        · exact .inr (.inl (reg1 u r))
    · rw [decide_eq_false (fun e => w4 (by injection e))]
      refine iteF ⟨_, rfl, rfl, _, rfl, ?_⟩
      by_cases w5 : way = 5
      · subst w5
        rw [decide_eq_true rfl]
        obtain ⟨c, hm⟩ := hway (.inr (.inl rfl))
        rw [hm]
        have hc := t.wat.cs _ _ hm
        have o1 := t.one hm
        have lc : c.hs.length < 64 := by
          have := (o1.few (by omega)).1
          rwa [List.length_map] at this
        have l0 : 0 < c.hs.length := by
          cases e : c.hs with
          | nil => exact absurd (by rw [e]; rfl) o1.ne
          | cons a r => simp
        obtain ⟨k, ek, hk⟩ : ∃ k : Nat, z % (((hdR c.hs).length : Nat) : Int) = (k : Int) ∧ k < c.hs.length := by
          rw [List.length_map]
          have h1 := Int.emod_nonneg z (b := (c.hs.length : Int)) (by omega)
          have h2 := Int.emod_lt_of_pos z (b := (c.hs.length : Int)) (by omega)
          exact ⟨(z % (c.hs.length : Int)).toNat, by omega, by omega⟩
        have lpos : (0 : Int) < (((hdR c.hs).length : Nat) : Int) := by rw [List.length_map]; omega
        refine iteT ⟨_, rfl, S.p, S.dx, _, rfl, t.sh.p, shF_no (by decide +kernel), _, rfl, _, rfl, c.o, _, _, _, rfl, rfl, SqL.of hc.o, atI_nat (j := 1) rfl, .inl ⟨rfl, _, SqL.of hc.h⟩, _, rfl, _, rfl, c.o, _, _, _, rfl, rfl, SqL.of hc.o, atI_nat (j := 1) rfl, c.h, _, rfl, .inl (SqL.of hc.h), _, _, rfl, rfl, lpos, c.h, _, _, k, V.ref c.hs[k].1, rfl, rfl, hc.h, by rw [ek]; omega, by rw [ek]; omega, by rw [ek]; exact seq_nat (by rw [List.length_map]; exact hk), by rw [List.getElem?_map, List.getElem?_eq_getElem hk]; rfl, ?_⟩
        rw [map_erase]
        obtain ⟨cc, hcc, hsh, ex, eh⟩ := t.at_ hm
        have hch : c.h ∈ wadr c := mem_wadr.mpr (.inr (.inr rfl))
        have cn := t.wl.cn _ _ hm
        have rch : WReg W c.h := WReg.cell hm hch
        have hkm : c.hs[k] ∈ c.hs := List.getElem_mem hk
        have tch : ∀ v vs, H v = some (.tup vs) → v ≠ c.h := fun v vs e => ne_of e hc.h (by intro z; cases z)
        have hc1 : WCellAt (upd H c.h (.lst ((c.hs.eraseIdx k).map fun t => V.ref t.1))) { c with hs := c.hs.eraseIdx k } := by
          refine ⟨by rw [upd_ne cn.2.1]; exact hc.o, by rw [upd_ne cn.2.2]; exact hc.s, upd_same, fun r hr => ?_⟩
          have hr' : AtHd H r := hc.at_ r ((List.eraseIdx_sublist c.hs k).subset hr)
          show upd H c.h _ r.1 = _
          rw [upd_ne (tch _ _ hr')]; exact hr'
        have wat1 := wset_at t.wat t.wl hm hch (c' := { c with hs := c.hs.eraseIdx k }) ⟨rfl, rfl, rfl⟩ hc1
        have wl1 := wset_lay t.wl hm (c' := { c with hs := c.hs.eraseIdx k }) ⟨rfl, rfl, rfl⟩
        have reg1 : ∀ u, WReg (W.wm (up W.m x (some { c with hs := c.hs.eraseIdx k }))) u → WReg W u := fun u r => wset_reg (c' := { c with hs := c.hs.eraseIdx k }) hm ⟨rfl, rfl, rfl⟩ r
        have k1 : ∀ u o, H u = some o → u ≠ c.h → upd H c.h (.lst ((c.hs.eraseIdx k).map fun t => V.ref t.1)) u = some o := fun u o e h => by rw [upd_ne h]; exact e
        have hm1 : (W.wm (up W.m x (some { c with hs := c.hs.eraseIdx k }))).m x = some { c with hs := c.hs.eraseIdx k } := up_same
        have ew1 : wv (up W.m x (some { c with hs := c.hs.eraseIdx k })) = up (wv W.m) x (some (c.xs, (c.hs.eraseIdx k).map Prod.snd)) := wv_up _
        have lk : (c.hs.eraseIdx k).length ≤ c.hs.length := (List.eraseIdx_sublist c.hs k).length_le
        have ef := erase_filter hk (nodup_of_k o1.nd)
        generalize hW1 : up W.m x (some { c with hs := c.hs.eraseIdx k }) = m1 at wat1 wl1 reg1 hm1 ew1
        generalize upd H c.h (.lst ((c.hs.eraseIdx k).map fun t => V.ref t.1)) = H1 at wat1 k1
        have S1 : ShAt a H1 S := t.sh.same fun u o r e => k1 u o e (fun z => t.dj u r (by rw [z]; exact rch))
        have hmem : c.hs[k].2 ∈ cc.hs := by rw [eh]; exact List.mem_map.mpr ⟨_, hkm, rfl⟩
        have htt1 := k1 _ _ htt (tch _ _ htt)
        have hj : x.1 = false → ∀ j, cc.bd = some j → j < S.G := fun e j ej => by
          revert hcc
          obtain ⟨sx, ix⟩ := x
          have e : sx = false := e
          subst e
          intro hcc
          exact t.tw.lt t.sl hcc ej
        refine ⟨S, tt, c.hs[k].1, x, cc, c.hs[k].2, rfl, S1, t.sl, htt1, k1 _ _ (hc.at_ _ hkm) (tch _ _ (hc.at_ _ hkm)), hcc, hsh, hmem, hj, fun H2 A2 k2 => ?_⟩
        have rcc : ∀ u, u ∈ adr cc → Reg S u := fun u hu => Reg.cell hcc hu
        have k2' : ∀ u o, H1 u = some o → ¬ Reg S u → H2 u = some o := fun u o e n => k2 u o e (fun z => n (by rw [z]; exact .inr (.inl rfl))) (fun z => n (by rw [z]; exact .inr (.inr (.inl rfl)))) (fun hu => n (rcc u hu))
        have kt2 : ∀ u vs, H1 u = some (.tup vs) → H2 u = some (.tup vs) := fun u vs e => k2' u _ e (S1.notup e)
        have wat2 : WAt H2 (W.wm m1) := wat1.same (fun u o r e => k2' u o e (fun r' => t.dj u r' (reg1 u r))) kt2
        have hc2 := wat2.cs _ _ hm1
        have hfs : (cc.hs.filter fun g => decide (g ≠ c.hs[k].2)) = (c.hs.eraseIdx k).map Prod.snd := by rw [eh]; exact ef
        have hcrem : remH S.m x cc c.hs[k].2 x = some { cc with hs := cc.hs.filter fun g => decide (g ≠ c.hs[k].2) } := up_same
        have twr : Twin (remH S.m x cc c.hs[k].2) := twin_hs t.tw hcc hsh _
        have vwr : vw (remH S.m x cc c.hs[k].2) = up (vw S.m) x (some (cc.xs, cc.hs.filter fun g => decide (g ≠ c.hs[k].2))) := vw_up_sh S.m (c := { cc with hs := cc.hs.filter fun g => decide (g ≠ c.hs[k].2) }) hsh
        have subr : Sub (remH S.m x cc c.hs[k].2) S.m := Sub.cell hcc ⟨rfl, rfl, rfl⟩
        unfold letM at A2
        rw [hfs] at A2
        have ktH : ∀ u vs, H u = some (.tup vs) → H2 u = some (.tup vs) := fun u vs e => kt2 u vs (k1 u _ e (tch _ _ e))
        have kH : ∀ u o, H u = some o → ¬ Reg S u → ¬ WReg W u → H2 u = some o := fun u o e h1 h2 => k2' u o (k1 u o e (fun z => h2 (by rw [z]; exact rch))) h1
        refine ⟨_, rfl, c.o, _, _, _, rfl, rfl, SqL.of hc2.o, atI_nat (j := 1) rfl, Nat.zero_le _, fun l2 nl2 => ?_⟩
        have k3 : ∀ u o, H2 u = some o → upd H2 l2 (.lst []) u = some o := fun u o e => by rw [upd_ne (ne_of_none e nl2)]; exact e
        have hl2 : upd H2 l2 (.lst []) l2 = some (.lst []) := upd_same
        generalize upd H2 l2 (.lst []) = H3 at k3 hl2
        have wat3 : WAt H3 (W.wm m1) := wat2.same (fun u o _ e => k3 u o e) (fun u vs e => k3 u _ e)
        have hc3 := wat3.cs _ _ hm1
        refine ⟨.list ((c.hs.eraseIdx k).map fun t => hdD t.2), .list [], .lst (SqL.of hc3.h) (dp_map fun t ht => hd_dp (hc3.at_ t ht)), .lst (SqL.of hl2) .nil, hds_lay _, by decide +kernel, _, rfl, ?_⟩
        have eq0 : PyData.eqv (.list ((c.hs.eraseIdx k).map fun t => hdD t.2)) (.list []) = (c.hs.eraseIdx k).isEmpty := by
          cases c.hs.eraseIdx k with
          | nil => simp [PyData.eqv, PyData.eqvAll]
          | cons a r => simp [PyData.eqv, PyData.eqvAll]
        rw [eq0]
        cases he : c.hs.eraseIdx k with
        | nil =>
          rw [he] at A2 ew1 hfs
          rw [if_pos (show (List.map Prod.snd ([] : List (Addr × Hd))).isEmpty = true from rfl)] at A2
          have in3 : x.2 < wsz W x.1 := hin
          refine iteT ⟨_, rfl, _, rfl, tt, _, _, _, rfl, rfl, SqT.of (k3 _ _ (ktH _ _ htt)), atI_nat (j := 0) rfl, rfl, .inr ⟨_, rfl, ?_⟩⟩
          rw [sn_slot, bool_ix]
          refine ⟨W.w, _, _, _, rfl, rfl, SqL.of wat3.w, atI_nat rws, _, rfl, tt, _, _, _, rfl, rfl, SqT.of (k3 _ _ (ktH _ _ htt)), atI_nat (j := 1) rfl, wlst W x.1, _, _, x.2, rfl, rfl, wat3.l x.1, (by rw [row_length]; exact ixN_nat in3), ?_⟩
          have e6 : (row oV m1 x.1 (wsz W x.1)).set x.2 V.non = row oV (up m1 x none) x.1 (wsz W x.1) := row_set (m := m1) (s := x.1) (v := none) in3
          rw [show (row oV (W.wm m1).m x.1 (wsz (W.wm m1) x.1)).set x.2 V.non = row oV (up m1 x none) x.1 (wsz W x.1) from e6]
          have wat6 : WAt (upd H3 (wlst W x.1) (.lst (row oV (up m1 x none) x.1 (wsz W x.1)))) (W.wm (up m1 x none)) := wdel_at (W := W.wm m1) wat3 wl1 (s := x.1) (i := x.2)
          have rwl : WReg W (wlst W x.1) := by cases x.1; exact .inr (.inl rfl); exact .inr (.inr (.inl rfl))
          have k6 : ∀ u o, H3 u = some o → u ≠ wlst W x.1 → upd H3 (wlst W x.1) (.lst (row oV (up m1 x none) x.1 (wsz W x.1))) u = some o := fun u o e h => by rw [upd_ne h]; exact e
          have hwl3 := wat3.l x.1
          have hwl3 : H3 (wlst W x.1) = some (.lst (row oV m1 x.1 (wsz W x.1))) := hwl3
          generalize upd H3 (wlst W x.1) (.lst (row oV (up m1 x none) x.1 (wsz W x.1))) = H6 at wat6 k6
          refine ⟨_, rfl, rfl, _, rfl, ?_⟩
          rw [decide_eq_false (by intro e; injection e with e; revert e; decide)]
          refine iteF (iteF ?_)
          have subc : Sub (clrM (remH S.m x cc c.hs[k].2) x) S.m := Sub.trans (clr_sub hcrem) subr
          have ev0 : vw (clrM (remH S.m x cc c.hs[k].2) x) = up (vw S.m) x none := by rw [clr_vw twr hcrem, vwr, up_up]
          have ev : vw (clrM (remH S.m x cc c.hs[k].2) x) = wv (up m1 x none) := by rw [ev0, wv_up, ew1, t.ev, up_up]; rfl
          refine q H6 (S.wm (clrM (remH S.m x cc c.hs[k].2) x)) (W.wm (up m1 x none)) ⟨A2.same fun u o r e => k6 u o (k3 u o e) (fun z => t.dj u (reg_sub subc r) (by rw [z]; exact rwl)), t.sl.sub subc, clr_twin twr hcrem hsh, wat6, wdel_lay (W := W.wm m1) wl1, fun u r wr => t.dj u (reg_sub subc r) (reg1 u (wdel_reg (W := W.wm m1) wr)), t.eF, t.eG, ev, ?_, t.st, t.F64, t.G64⟩ ⟨rfl, rfl, rfl, rfl, fun u o e h1 h2 _ => k6 u o (k3 u o (kH u o e h1 h2)) (fun z => h2 (by rw [z]; exact rwl)), fun u vs e => ?_, fun u r => ?_⟩
          · show VOk (vw (clrM (remH S.m x cc c.hs[k].2) x)) (n + 1)
            rw [ev0]
            exact vok_del (t.ok.mono (Nat.le_succ n))
          · have e3 := k3 u _ (ktH u vs e)
            exact k6 u _ e3 (ne_of e3 hwl3 (by intro z; cases z))
          · rcases r with r | r
            · exact .inl (reg_sub subc r)
            · exact .inr (.inl (reg1 u (wdel_reg (W := W.wm m1) r)))
        | cons r0 rs =>
          have hne : (c.hs.eraseIdx k).map Prod.snd ≠ [] := by rw [he]; exact fun z => nomatch z
          rw [if_neg (by rw [he]; exact fun z => nomatch z)] at A2
          refine iteF ⟨_, rfl, rfl, _, rfl, ?_⟩
          rw [decide_eq_false (by intro e; injection e with e; revert e; decide)]
          refine iteF (iteF ?_)
          have ev : vw (remH S.m x cc c.hs[k].2) = wv m1 := by rw [vwr, ew1, t.ev, hfs, ex]
          refine q H3 (S.wm (remH S.m x cc c.hs[k].2)) (W.wm m1) ⟨A2.same fun u o _ e => k3 u o e, t.sl.sub subr, twr, wat3, wl1, fun u r wr => t.dj u (reg_sub subr r) (reg1 u wr), t.eF, t.eG, ev, ?_, t.st, t.F64, t.G64⟩ ⟨rfl, rfl, rfl, rfl, fun u o e h1 h2 _ => k3 u o (kH u o e h1 h2), fun u vs e => k3 u _ (ktH u vs e), fun u r => ?_⟩
          · show VOk (vw (remH S.m x cc c.hs[k].2)) (n + 1)
            rw [vwr]
            exact vok_less (t.ok.mono (Nat.le_succ n)) (vw_sh hcc hsh) (by rw [hfs]; exact hne) List.filter_sublist
          · rcases r with r | r
            · exact .inl (reg_sub subr r)
            · exact .inr (.inl (reg1 u r))
      · rw [decide_eq_false (fun e => w5 (by injection e))]
        refine iteF ⟨_, rfl, rfl, _, rfl, ?_⟩
        by_cases w6 : way = 6
        · subst w6
          rw [decide_eq_true rfl]
          obtain ⟨c, hm⟩ := hway (.inr (.inr rfl))
          rw [hm]
          refine iteT ⟨_, rfl, tt, _, _, _, rfl, rfl, SqT.of htt, atI_nat (j := 0) rfl, rfl, _, rfl, ?_⟩
          rw [sn_frame]
          obtain ⟨sx, i⟩ := x
          cases sx with
          | true => exact iteF (q H S W (t.mono (Nat.le_succ n)) Stay.refl)
          | false =>
          have hc := t.wat.cs _ _ hm
          have o1 := t.one hm
          have h2 : c.xs.length = 2 := o1.two
          obtain ⟨b, eb, hb⟩ : ∃ b : Nat, z % 2 = (b : Int) ∧ b < 2 := ⟨(z % 2).toNat, by omega, by omega⟩
          have p2 : (0 : Int) < 2 := by decide
          have p3 : (0 : Int) < 3 := by decide
          have d2 : CDiv z 2 := ⟨by decide, by decide⟩
          refine iteT ⟨_, rfl, _, _, rfl, rfl, d2, _, _, rfl, rfl, p3, _, rfl, c.o, _, _, _, rfl, rfl, SqL.of hc.o, atI_nat (j := 0) rfl, _, rfl, _, _, rfl, rfl, p2, c.s, _, _, b, rfl, rfl, hc.s, (by rw [eb, List.length_map, h2]; exact ixN_nat hb), ?_⟩
          have em : (c.xs.map V.int).set b (V.int (z / 2 % 3)) = (c.xs.set b (z / 2 % 3)).map V.int := by rw [List.map_set]
          rw [em]
          generalize hv : z / 2 % 3 = v
          obtain ⟨cc, hcc, hsh, ex, eh⟩ := t.at_ hm
          have hcs : c.s ∈ wadr c := mem_wadr.mpr (.inr (.inl rfl))
          have cn := t.wl.cn _ _ hm
          have rcs : WReg W c.s := WReg.cell hm hcs
          have tcs : ∀ u vs, H u = some (.tup vs) → u ≠ c.s := fun u vs e => ne_of e hc.s (by intro z; cases z)
          have hc1 : WCellAt (upd H c.s (.lst ((c.xs.set b v).map V.int))) { c with xs := c.xs.set b v } :=
            ⟨by rw [upd_ne cn.1]; exact hc.o, upd_same, by rw [upd_ne (Ne.symm cn.2.2)]; exact hc.h, fun r hr => by
              have hr' := hc.at_ r hr
              show upd H c.s _ r.1 = _
              rw [upd_ne (tcs _ _ hr')]; exact hr'⟩
          have wat1 := wset_at t.wat t.wl hm hcs (c' := { c with xs := c.xs.set b v }) ⟨rfl, rfl, rfl⟩ hc1
          have wl1 := wset_lay t.wl hm (c' := { c with xs := c.xs.set b v }) ⟨rfl, rfl, rfl⟩
          have reg1 : ∀ u, WReg (W.wm (up W.m (false, i) (some { c with xs := c.xs.set b v }))) u → WReg W u := fun u r => wset_reg (c' := { c with xs := c.xs.set b v }) hm ⟨rfl, rfl, rfl⟩ r
          have ew1 : wv (up W.m (false, i) (some { c with xs := c.xs.set b v })) = up (wv W.m) (false, i) (some (c.xs.set b v, c.hs.map Prod.snd)) := wv_up _
          have k1 : ∀ u o, H u = some o → u ≠ c.s → upd H c.s (.lst ((c.xs.set b v).map V.int)) u = some o := fun u o e h => by rw [upd_ne h]; exact e
          generalize upd H c.s (.lst ((c.xs.set b v).map V.int)) = H1 at wat1 k1
          have S1 : ShAt a H1 S := t.sh.same fun u o r e => k1 u o e (fun z => t.dj u r (by rw [z]; exact rcs))
          have htt1 := k1 _ _ htt (tcs _ _ htt)
          refine ⟨_, rfl, S.p, S.dx, _, rfl, S1.p, shF_no (by decide +kernel), _, rfl, tt, _, _, _, rfl, rfl, SqT.of htt1, atI_nat (j := 1) rfl, _, rfl, _, _, rfl, rfl, p2, _, rfl, _, _, rfl, rfl, d2, _, _, rfl, rfl, p3, S, i, b, v, cc, (by rw [← eb, ← hv]; rfl), S1, t.sl, hcc, by rw [ex, h2]; exact hb, fun j ej => t.tw.lt t.sl hcc ej, fun H2 A2 k2 => ?_⟩
          have rcc : ∀ u, u ∈ adr cc → Reg S u := fun u hu => Reg.cell hcc hu
          have k2' : ∀ u o, H1 u = some o → ¬ Reg S u → H2 u = some o := fun u o e n => k2 u o e (fun z => n (by rw [z]; exact .inr (.inr (.inl rfl)))) (fun hu => n (rcc u hu))
          have sub := box_sub (b := b) (v := v) hcc
          have ev : vw (untwM (boxM S.m i cc b v) i) = wv (up W.m (false, i) (some { c with xs := c.xs.set b v })) := by rw [box_vw t.tw hcc, ew1, t.ev, ex, eh]
          refine q H2 (S.wm (untwM (boxM S.m i cc b v) i)) (W.wm (up W.m (false, i) (some { c with xs := c.xs.set b v }))) ⟨A2, t.sl.sub sub, box_twin t.tw hcc, wat1.same (fun u o r e => k2' u o e (fun r' => t.dj u r' (reg1 u r))) (fun u vs e => k2' u _ e (S1.notup e)), wl1, fun u r wr => t.dj u (reg_sub sub r) (reg1 u wr), t.eF, t.eG, ev, ?_, t.st, t.F64, t.G64⟩ ⟨rfl, rfl, rfl, rfl, fun u o e h1 h2 _ => k2' u o (k1 u o e (fun z => h2 (by rw [z]; exact rcs))) h1, fun u vs e => k2' u _ (k1 u _ e (tcs _ _ e)) (t.sh.notup e), fun u r => ?_⟩
          · show VOk (vw (untwM (boxM S.m i cc b v) i)) (n + 1)
            rw [box_vw t.tw hcc]
            exact vok_box (t.ok.mono (Nat.le_succ n)) (vw_sh hcc hsh) (by rw [List.length_set, ex]; exact h2)
          · rcases r with r | r
            · exact .inl (reg_sub sub r)
            · exact .inr (.inl (reg1 u r))
        · rw [decide_eq_false (fun e => w6 (by injection e))]
          exact iteF (iteF (q H S W (t.mono (Nat.le_succ n)) Stay.refl))
end
end Fl

set_option Elab.async false
set_option linter.all false
set_option maxRecDepth 100000
set_option maxHeartbeats 4000000
/-! true: the told rows against the picture. -/
namespace Fl
open PySem L2
section
variable {H H' : Hp} {D : Nat} {x y : V} {p r : Addr}
theorem like_mono (k : ∀ u o, H u = some o → H' u = some o) : ∀ {D : Nat} {x y : V}, LikeD H D x y → LikeD H' D x y
  | 0, _, _, h => h.elim
  | D + 1, x, y, h => by
    rcases h with h | ⟨a, b, xs, ys, e1, e2, hh, h1, h2, h3⟩
    · exact .inl h
    · refine .inr ⟨a, b, xs, ys, e1, e2, ?_, h1, h2, fun i x y ex ey => like_mono k (h3 i x y ex ey)⟩
      rcases hh with ⟨q1, q2⟩ | ⟨q1, q2⟩
      · exact .inl ⟨k _ _ q1, k _ _ q2⟩
      · exact .inr ⟨k _ _ q1, k _ _ q2⟩
theorem like_leaf (h : Leaf x) : LikeD H (D + 1) x x := .inl ⟨rfl, h⟩
theorem like_bd (o : Option Nat) : Leaf (bdV o) := by
  cases o with
  | none => exact .inl rfl
  | some j => exact .inr (.inl ⟨_, rfl⟩)
theorem like_ints {xs : List Int} (h1 : H p = some (.lst (xs.map V.int))) (h2 : H r = some (.lst (xs.map V.int))) (n : xs.length ≤ 1000) : LikeD H (D + 2) (.ref p) (.ref r) :=
  .inr ⟨p, r, _, _, rfl, rfl, .inl ⟨h1, h2⟩, rfl, by rw [List.length_map]; exact n, fun i x y e1 e2 => by
    rw [e1] at e2
    cases e2
    rw [List.getElem?_map] at e1
    cases e : xs[i]? with
    | none => rw [e] at e1; cases e1
    | some j => rw [e] at e1; rw [← Option.some.inj e1]; exact like_leaf (.inr (.inl ⟨_, rfl⟩))⟩
theorem like_hd {t1 t2 : Addr × Hd} (h1 : AtHd H t1) (h2 : AtHd H t2) (e : t1.2 = t2.2) : LikeD H (D + 2) (.ref t1.1) (.ref t2.1) :=
  .inr ⟨t1.1, t2.1, _, _, rfl, rfl, .inr ⟨h1, h2⟩, by rw [e], by show 3 ≤ 1000; omega, fun i x y e1 e2 => by
    rw [e, e2] at e1
    cases e1
    refine like_leaf ?_
    match i, e2 with
    | 0, e2 => cases e2; exact .inr (.inr ⟨_, rfl⟩)
    | 1, e2 => cases e2; exact .inr (.inl ⟨_, rfl⟩)
    | 2, e2 => cases e2; exact .inr (.inl ⟨_, rfl⟩)
    | i + 3, e2 => cases e2⟩
theorem like_hds {us ts : List (Addr × Hd)} (h1 : H p = some (.lst (hdR us))) (h2 : H r = some (.lst (hdR ts))) (a1 : ∀ t ∈ us, AtHd H t) (a2 : ∀ t ∈ ts, AtHd H t) (e : us.map Prod.snd = ts.map Prod.snd) (n : us.length ≤ 1000) : LikeD H (D + 3) (.ref p) (.ref r) := by
  have el : us.length = ts.length := by have := congrArg List.length e; simpa using this
  refine .inr ⟨p, r, _, _, rfl, rfl, .inl ⟨h1, h2⟩, by rw [List.length_map, List.length_map, el], by rw [List.length_map]; exact n, fun i x y e1 e2 => ?_⟩
  rw [List.getElem?_map] at e1 e2
  cases q1 : us[i]? with
  | none => rw [q1] at e1; cases e1
  | some t1 =>
    cases q2 : ts[i]? with
    | none => rw [q2] at e2; cases e2
    | some t2 =>
      rw [q1] at e1
      rw [q2] at e2
      rw [← Option.some.inj e1, ← Option.some.inj e2]
      have e3 : (us.map Prod.snd)[i]? = (ts.map Prod.snd)[i]? := by rw [e]
      rw [List.getElem?_map, List.getElem?_map, q1, q2] at e3
      exact like_hd (a1 _ (List.mem_of_getElem? q1)) (a2 _ (List.mem_of_getElem? q2)) (Option.some.inj e3)
theorem like_tup {l1 l2 l3 l4 : Addr} {z : V} (h1 : H p = some (.tup [.ref l1, .ref l2, z])) (h2 : H r = some (.tup [.ref l3, .ref l4, z])) (hz : Leaf z) (a : LikeD H (D + 1) (.ref l1) (.ref l3)) (b : LikeD H (D + 1) (.ref l2) (.ref l4)) : LikeD H (D + 2) (.ref p) (.ref r) :=
  .inr ⟨p, r, _, _, rfl, rfl, .inr ⟨h1, h2⟩, rfl, by show 3 ≤ 1000; omega, fun i x y e1 e2 => by
    match i, e1, e2 with
    | 0, e1, e2 => cases e1; cases e2; exact a
    | 1, e1, e2 => cases e1; cases e2; exact b
    | 2, e1, e2 => cases e1; cases e2; exact like_leaf hz
    | i + 3, e1, e2 => cases e1⟩
end
theorem row_like {H4 : Hp} {t0 l1 l2 l3 t6 sA : Addr} {us ts : List (Addr × Hd)} {xs : List Int} {z : V} (h0 : H4 t0 = some (.tup [.ref l1, .ref l2, z])) (hl1 : H4 l1 = some (.lst (xs.map V.int))) (hl2 : H4 l2 = some (.lst (hdR us))) (hat : ∀ t ∈ us, AtHd H4 t) (hs : H4 sA = some (.lst (xs.map V.int))) (hts : ∀ t ∈ ts, AtHd H4 t)
    (n3 : H4 l3 = none) (n6 : upd H4 l3 (.lst (hdR ts)) t6 = none) (e : us.map Prod.snd = ts.map Prod.snd) (n1 : xs.length ≤ 1000) (n2 : us.length ≤ 1000) (hz : Leaf z) : LikeD (upd (upd H4 l3 (.lst (hdR ts))) t6 (.tup [.ref sA, .ref l3, z])) 4 (.ref t0) (.ref t6) := by
  have k5 : ∀ u o, H4 u = some o → upd H4 l3 (.lst (hdR ts)) u = some o := fun u o e => by rw [upd_ne (ne_of_none e n3)]; exact e
  have k6 : ∀ u o, upd H4 l3 (.lst (hdR ts)) u = some o → upd (upd H4 l3 (.lst (hdR ts))) t6 (.tup [.ref sA, .ref l3, z]) u = some o := fun u o e => by rw [upd_ne (ne_of_none e n6)]; exact e
  have h3 := k6 l3 _ upd_same
  exact like_tup (k6 _ _ (k5 _ _ h0)) upd_same hz (like_ints (k6 _ _ (k5 _ _ hl1)) (k6 _ _ (k5 _ _ hs)) n1) (like_hds (k6 _ _ (k5 _ _ hl2)) h3 (fun t ht => k6 _ _ (k5 _ _ (hat t ht))) (fun t ht => k6 _ _ (k5 _ _ (hts t ht))) e n2)
/-- how many of the first spots -/
def tot {β : Type} (v : Mp β) (F i : Nat) : Nat := ((List.range i).filter fun j => (v (spotAt F j)).isSome).length
theorem tot_succ {β : Type} (v : Mp β) (F i : Nat) : tot v F (i + 1) = tot v F i + if (v (spotAt F i)).isSome = true then 1 else 0 := by
  unfold tot
  rw [List.range_succ, List.filter_append, List.length_append]
  congr 1
  cases h : (v (spotAt F i)).isSome with
  | true => simp [h]
  | false => simp [h]
theorem tot_le {β : Type} (v : Mp β) (F : Nat) : ∀ i, tot v F i ≤ i
  | 0 => Nat.le_refl _
  | i + 1 => by
    rw [tot_succ]
    have := tot_le v F i
    split <;> omega
theorem tot_frames {β : Type} (v : Mp β) (F : Nat) : ∀ i, i ≤ F → tot v F i = cnt v false i
  | 0, _ => rfl
  | i + 1, h => by
    rw [tot_succ, cnt_succ, tot_frames v F i (by omega)]
    rw [show spotAt F i = (false, i) from if_pos (by omega)]
theorem tot_all {β : Type} (v : Mp β) (F : Nat) : ∀ g, tot v F (F + g) = cnt v false F + cnt v true g
  | 0 => tot_frames v F F (Nat.le_refl _)
  | g + 1 => by
    rw [show F + (g + 1) = (F + g) + 1 from rfl, tot_succ, cnt_succ, tot_all v F g]
    rw [show spotAt F (F + g) = (true, g) from (if_neg (by omega)).trans (by rw [show F + g - F = g by omega])]
    omega
def spTrue (a : Ad) : Sp := fun vs H Q _ => ∃ (S : Sh) (W : Wh) (n : Nat), vs = [.ref S.p, .ref W.w] ∧ Tog a H S W n ∧ n ≤ 63 ∧ ∀ H' : Hp, (∀ u o, H u = some o → H' u = some o) → Q (.bl true) H'
section
variable {P : Program} {w : World} {K : PySem.W.Frag} {mg : Str → Option Value} {base : Heap} {a : Ad}
theorem ok_true (T : Top K mg a) : FnOk P w K mg base CX0 5 a.fTrue a.dTrue ["_law_sheets", "_law_where"] (spTrue a) := by
  have GF : FnOk P w K mg base CX0 4 a.fToldF a.dToldF ["self"] (spToldR a false) := ok_toldF T
  have GS : FnOk P w K mg base CX0 4 a.fToldS a.dToldS ["self"] (spToldR a true) := ok_toldS T
  have GV : FnOk P w K mg base CX0 3 a.fLive a.dLive ["self"] (spLive a) := ok_live T
  have GL : FnOk P w K mg base CX0 4 a.fLike a.dLike ["_law_found", "_law_due"] (spLike 4) := ok_like T 4
  refine T.FTrue.ok scTrue (fun vs H Q E h => ?_) (fun cdv A outer s H vs Q E hr h => ?_)
  · obtain ⟨S, W, n, rfl, _⟩ := h
    rfl
  · obtain ⟨S, W, n, rfl, t, hn, q⟩ := h
    refine ⟨_, (pss_cons (ps_set (i := 2) scTrue.nd rfl (.inl rfl) (pe_meth0 (pv 0) T.clS T.mToldF GF hr T.bToldF .nil pass0))
      (pss_cons (ps_set (i := 3) scTrue.nd rfl (.inl rfl) (pe_meth0 (pv 0) T.clS T.mToldS GS hr T.bToldS .nil pass0))
      (pss_cons (ps_if (PW.pt (pw_or (pt_not (pt_val (pe_callB call_isi (by rfl) T.zisinstance (by decide +kernel) (pa_cons (pv 2) (pa_cons (pe_bltn (v := .ty "list") (by rfl) T.zlist (by decide +kernel) rfl) pa_nil))))) (pw_or1 (pt_not (pt_val (pe_callB call_isi (by rfl) T.zisinstance (by decide +kernel) (pa_cons (pv 3) (pa_cons (pe_bltn (v := .ty "list") (by rfl) T.zlist (by decide +kernel) rfl) pa_nil)))))))) (pss_one (ps_ret pe_bl)) pss_nil)
      (pss_cons (ps_if (PW.pt (pw_or (pt_cmpR op_ne (pe_callB call_len_seq (by rfl) T.zlen PySem.boot_len (pa_cons (pv 2) pa_nil)) (pe_callB call_len_seq (by rfl) T.zlen PySem.boot_len (pa_cons (pe_ix ix_list (pv 1) pe_int (fun _ _ => rfl)) pa_nil)) (nomark _)) (pw_or1 (pt_cmpR op_ne (pe_callB call_len_seq (by rfl) T.zlen PySem.boot_len (pa_cons (pv 3) pa_nil)) (pe_callB call_len_seq (by rfl) T.zlen PySem.boot_len (pa_cons (pe_ix ix_list (pv 1) pe_int (fun _ _ => rfl)) pa_nil)) (nomark _))))) (pss_one (ps_ret pe_bl)) pss_nil)
      (C8.pss_cut (ps_for PassesOwn.never rfl (pi_enum (by rfl) T.zenumerate (pa_cons (pe_ix ix_list (pv 1) pe_int (fun _ _ => rfl)) pa_nil)) (pg_tup rfl (pgs_cons (pg_name (i := 4) scTrue.nd rfl (.inl rfl)) (pgs_cons (pg_name (i := 5) scTrue.nd rfl (.inl rfl)) pgs_nil))) (pss_cons (ps_if (PW.pt (pw_and (pt_cmpR op_isN (pv 5) pe_non (nomark _)) (pw_and1 (pt_cmpR op_notN (pe_ix ix_list (pv 2) (pv 4) (fun _ _ => rfl)) pe_non (nomark _))))) (pss_one (ps_ret pe_bl)) pss_nil)
      (pss_one (ps_if (pt_cmpR op_notN (pv 5) pe_non (nomark _)) (pss_cons (ps_set (i := 6) scTrue.nd rfl (.inl rfl) (pe_ix ix_tup (pe_ix ix_list (pv 2) (pv 4) (fun _ _ => rfl)) pe_int (fun _ _ => rfl)))
      (pss_cons (ps_if (pt_not (pt_val (pe_call GL hr rfl T.gLike T.FLike.kp T.bLike .nil pass0 (pa_cons (pe_ix ix_list (pv 2) (pv 4) (fun _ _ => rfl)) (pa_cons (pe_tup (pa_cons (pe_ix ix_list (pv 5) pe_int (fun _ _ => rfl)) (pa_cons (pe_callB cr_sortHd (by rfl) T.zsorted (by decide +kernel) (pa_cons (pe_ix ix_list (pv 5) pe_int (fun _ _ => rfl)) pa_nil)) (pa_cons (pv 6) pa_nil)))) pa_nil))))) (pss_one (ps_ret pe_bl)) pss_nil)
      (pss_one (ps_if (PW.pt (pw_and (pt_cmpR op_notN (pv 6) pe_non (nomark _)) (pw_and1 (pt_not (pt_val (pe_call GL hr rfl T.gLike T.FLike.kp T.bLike .nil pass0 (pa_cons (pe_ix ix_list (pv 3) (pv 6) (fun _ _ => rfl)) (pa_cons (pe_tup (pa_cons (pe_ix ix_list (pv 5) pe_int (fun _ _ => rfl)) (pa_cons (pe_lst pa_nil) (pa_cons (pv 4) pa_nil)))) pa_nil)))))))) (pss_one (ps_ret pe_bl)) pss_nil)))) pss_nil)))) (C8.pss_cut (ps_for PassesOwn.never rfl (pi_enum (by rfl) T.zenumerate (pa_cons (pe_ix ix_list (pv 1) pe_int (fun _ _ => rfl)) pa_nil)) (pg_tup rfl (pgs_cons (pg_name (i := 4) scTrue.nd rfl (.inl rfl)) (pgs_cons (pg_name (i := 5) scTrue.nd rfl (.inl rfl)) pgs_nil))) (pss_cons (ps_if (PW.pt (pw_and (pt_cmpR op_notN (pv 5) pe_non (nomark _)) (pw_and1 (pt_not (pt_val (pe_call GL hr rfl T.gLike T.FLike.kp T.bLike .nil pass0 (pa_cons (pe_ix ix_list (pv 3) (pv 4) (fun _ _ => rfl)) (pa_cons (pe_tup (pa_cons (pe_ix ix_list (pv 5) pe_int (fun _ _ => rfl)) (pa_cons (pe_callB cr_sortHd (by rfl) T.zsorted (by decide +kernel) (pa_cons (pe_ix ix_list (pv 5) pe_int (fun _ _ => rfl)) pa_nil)) (pa_cons pe_non pa_nil)))) pa_nil)))))))) (pss_one (ps_ret pe_bl)) pss_nil)
      (pss_one (ps_if (PW.pt (pw_and (pt_cmpR op_isN (pv 5) pe_non (nomark _)) (pw_and (pt_cmpR op_notN (pe_ix ix_list (pv 3) (pv 4) (fun _ _ => rfl)) pe_non (nomark _)) (pw_and1 (pt_not (pt_val (pe_call GL hr rfl T.gLike T.FLike.kp T.bLike .nil pass0 (pa_cons (pe_ix ix_tup (pe_ix ix_list (pv 2) (pe_ix ix_tup (pe_ix ix_list (pv 3) (pv 4) (fun _ _ => rfl)) pe_int (fun _ _ => rfl)) (fun _ _ => rfl)) pe_int (fun _ _ => rfl)) (pa_cons (pv 4) pa_nil))))))))) (pss_one (ps_ret pe_bl)) pss_nil)))) (pss_cons (ps_set (i := 7) scTrue.nd rfl (.inl rfl) (pe_callB call_len_seq (by rfl) T.zlen PySem.boot_len (pa_cons (pe_lc (own := [("_law_one", 5)]) (g := gName 5) (tt := _) (te := tVar 5) rfl scTrue.nd (pi_list (pe_op op_cat (pe_ix ix_list (pv 1) pe_int (fun _ _ => rfl)) (pe_ix ix_list (pv 1) pe_int (fun _ _ => rfl)))) (blkOk_by (N := NTrue) (sc := defScope sTrue) (by decide +kernel)) (fun _ _ _ _ _ => pg_name (i := 5) scTrue.nd rfl (Or.inl rfl)) (fun _ _ _ _ _ => pts_one (pt_cmpR op_notN (pv 5) pe_non (nomark _))) (fun _ _ _ _ _ => (pv 5))) pa_nil)))
      (pss_one (ps_ret (pe_call GL hr rfl T.gLike T.FLike.kp T.bLike .nil pass0 (pa_cons (pe_meth0 (pv 0) T.clS T.mLive GV (hr.mono (by decide)) T.bLive .nil pass0) (pa_cons (pv 7) pa_nil)))))))))))), ?_⟩
    have few := t.few hn
    refine ⟨_, rfl, S.p, S.dx, _, rfl, t.sh.p, shF_no (by decide +kernel), S, rfl, t.sh, Nat.le_trans t.F64 (by decide), fun i c h => few _ c h, fun H1 lF zF s1 nlF hlF lenF tF => ?_⟩
    have t1 : Tog a H1 S W n := t.same s1
    refine ⟨_, rfl, S.p, S.dx, _, rfl, t1.sh.p, shF_no (by decide +kernel), S, rfl, t1.sh, Nat.le_trans t.G64 (by decide), fun i c h => few _ c h, fun H2 lS zS s2 nlS hlS lenS tS => ?_⟩
    have t2 : Tog a H2 S W n := t1.same s2
    have hlF2 := s2 _ _ hlF
    have tF2 : ∀ i z, zF[i]? = some z → ToldAt (fun _ => True) H2 z ((S.m (false, i)).map pl) := fun i z e => (tF i z e).keep (fun _ _ => trivial) (fun u o _ e => s2 u o e) (fun u vs e => s2 u _ e)
    have tS2 : ∀ i z, zS[i]? = some z → ToldAt (fun _ => True) H2 z ((S.m (true, i)).map pl) := fun i z e => (tS i z e).keep (fun _ _ => trivial) (fun u o _ e => e) (fun u vs e => e)
    have s02 : Same H H2 := s1.trans s2
    have lenF : zF.length = S.F := lenF
    have lenS : zS.length = S.G := lenS
    clear tF tS hlF s1 s2 t1
    have getF : ∀ i, i < S.F → ∃ z, zF[i]? = some z := fun i hi => ⟨zF[i]'(by omega), List.getElem?_eq_getElem (by omega)⟩
    have getS : ∀ i, i < S.G → ∃ z, zS[i]? = some z := fun i hi => ⟨zS[i]'(by omega), List.getElem?_eq_getElem (by omega)⟩
    refine ⟨_, rfl, _, .ty "list", .type "list", .type "list", true, rfl, .ty _, .base (.lst hlF2), kit_ty (by decide +kernel), _, rfl, iteF ⟨_, rfl, _, .ty "list", .type "list", .type "list", true, rfl, .ty _, .base (.lst hlS), kit_ty (by decide +kernel), _, rfl, iteF ?_⟩⟩
    refine ⟨_, rfl, lF, _, rfl, .inl (SqL.of hlF2), _, rfl, W.w, _, _, _, rfl, rfl, SqL.of t2.wat.w, atI_nat (j := 0) rfl, W.f, _, rfl, .inl (SqL.of t2.wat.f), rfl, _, rfl, ?_⟩
    rw [row_length, lenF, t.eF, decide_eq_true rfl]
    refine iteF ⟨_, rfl, lS, _, rfl, .inl (SqL.of hlS), _, rfl, W.w, _, _, _, rfl, rfl, SqL.of t2.wat.w, atI_nat (j := 1) rfl, W.s, _, rfl, .inl (SqL.of t2.wat.s), rfl, _, rfl, ?_⟩
    rw [row_length, lenS, t.eG, decide_eq_true rfl]
    refine iteF ?_
    have three : 3 ≤ sizeLine := by decide
    -- the frames
    refine ⟨fun σ H' => Same H2 H' ∧ ∃ z4 z5 z6 : Option V, σ = [some (.ref S.p), some (.ref W.w), some (.ref lF), some (.ref lS), z4, z5, z6, none], ?_, ?_⟩
    · refine ⟨_, rfl, W.w, _, _, _, rfl, rfl, SqL.of t2.wat.w, atI_nat (j := 0) rfl, W.f, _, rfl, SqL.of t2.wat.f, ?_⟩
      refine for_it walk_enum (fun i σ H' => Same H2 H' ∧ ∃ z4 z5 z6 : Option V, σ = [some (.ref S.p), some (.ref W.w), some (.ref lF), some (.ref lS), z4, z5, z6, none]) ⟨Same.refl H2, _, _, _, rfl⟩ (fun i σ H' _ hh => SqL.of (hh.1 _ _ t2.wat.f)) ?_ ?_
      · rintro i x σ H3 H4 hi ⟨sm, z4, z5, z6, rfl⟩ ⟨tt, x1, x2, rfl, nt, rfl, e1, e2⟩
        injection e1 with e1
        subst e1
        obtain ⟨hin, rfl⟩ := row_of e2
        have s4 : Same H2 (upd H3 tt (.tup [.int (i : Nat), optV oV (W.m (false, i))])) := fun b o e => by
          have e' := sm b o e
          rw [upd_ne (ne_of_none e' nt)]
          exact e'
        refine ⟨tt, _, rfl, SqT.of upd_same, rfl, _, _, rfl, _, _, rfl, rfl, ?_⟩
        generalize upd H3 tt (.tup [.int (i : Nat), optV oV (W.m (false, i))]) = H4 at s4
        have hin : i < S.F := by rw [← t.eF]; exact hin
        obtain ⟨z, hz⟩ := getF i hin
        have tz := tF2 i z hz
        refine ⟨_, rfl, rfl, _, rfl, ?_⟩
        cases hm : W.m (false, i) with
        | none =>
          have hsm : S.m (false, i) = none := by
            cases e : S.m (false, i) with
            | none => rfl
            | some c =>
              have h1 := vw_sh e isSh_frame
              rw [t.ev, wv_none hm] at h1
              cases h1
          rw [hsm] at tz
          have tz : z = .non := tz
          subst tz
          refine iteT ⟨_, rfl, _, rfl, lF, _, _, _, rfl, rfl, SqL.of (s4 _ _ hlF2), atI_nat hz, rfl, _, rfl, iteF ⟨_, rfl, rfl, _, rfl, iteF ⟨s4, _, _, _, rfl⟩⟩⟩
        | some c =>
          obtain ⟨cc, hcc, hsh, ex, eh⟩ := t.at_ hm
          rw [hcc] at tz
          obtain ⟨t0, l1, l2, us, rfl, _, _, _, h0, hl1, hl2, hus, hat⟩ := tz
          have hc4 := (t2.same s4).wat.cs _ _ hm
          have hfew := few _ _ hcc
          have f1 : c.hs.length < 64 := by have := hfew.1; rwa [eh, List.length_map] at this
          have x2 : c.xs.length = 2 := (t.one hm).two
          refine iteF ?_
          refine iteF ?_
          refine ⟨_, rfl, rfl, _, rfl, iteT ⟨_, rfl, _, rfl, lF, _, _, _, rfl, rfl, SqL.of (s4 _ _ hlF2), atI_nat hz, t0, _, _, _, rfl, rfl, SqT.of (s4 _ _ h0), atI_nat (j := 2) rfl, ?_⟩⟩
          refine ⟨_, rfl, _, rfl, lF, _, _, _, rfl, rfl, SqL.of (s4 _ _ hlF2), atI_nat hz, _, rfl, c.o, _, _, _, rfl, rfl, SqL.of hc4.o, atI_nat (j := 0) rfl, _, rfl, c.o, _, _, _, rfl, rfl, SqL.of hc4.o, atI_nat (j := 1) rfl, c.h, c.hs, rfl, SqL.of hc4.h, f1, fun r hr => ⟨hc4.at_ r hr, hfew.2 _ (by rw [eh]; exact List.mem_map.mpr ⟨r, hr, rfl⟩)⟩, fun ts l3 perm pw n3 => ?_⟩
          have ets : ts.map Prod.snd = sortH cc.hs := sort_is (by rw [eh]; exact perm.map Prod.snd) pw fun r hr => hfew.2 r hr
          have tat : ∀ r ∈ ts, AtHd (upd H4 l3 (.lst (hdR ts))) r := fun r hr => by
            have := hc4.at_ r (perm.mem_iff.mp hr)
            show upd H4 l3 _ r.1 = _
            rw [upd_ne (ne_of_none this n3)]; exact this
          have lus : us.length ≤ 1000 := by
            have h1 := congrArg List.length hus
            have h2 := (sortH_perm cc.hs).length_eq
            rw [List.length_map, h2] at h1
            have := hfew.1
            have h1 : us.length = cc.hs.length := h1
            omega
          have ex' : cc.xs = c.xs := ex
          have k5 : ∀ u o, H2 u = some o → upd H4 l3 (.lst (hdR ts)) u = some o := fun u o e => by rw [upd_ne (ne_of_none (s4 u o e) n3)]; exact s4 u o e
          refine ⟨_, rfl, three, fun t6 n6 => ?_⟩
          have lk := row_like (s4 _ _ h0) (s4 _ _ hl1) (s4 _ _ hl2) (fun r hr => s4 _ _ (hat r hr)) (by rw [show (pl cc).1 = c.xs from ex']; exact hc4.s) (fun r hr => hc4.at_ r (perm.mem_iff.mp hr)) n3 n6 (hus.trans ets.symm) (by rw [show (pl cc).1 = c.xs from ex', x2]; omega) lus (like_bd cc.bd)
          have k6 : ∀ u o, H2 u = some o → upd (upd H4 l3 (.lst (hdR ts))) t6 (.tup [.ref c.s, .ref l3, bdV cc.bd]) u = some o := fun u o e => by rw [upd_ne (ne_of_none (k5 u o e) n6)]; exact k5 u o e
          have lk : LikeD (upd (upd H4 l3 (.lst (hdR ts))) t6 (.tup [.ref c.s, .ref l3, bdV cc.bd])) 4 (.ref t0) (.ref t6) := lk
          refine ⟨_, _, rfl, lk, true, rfl, iteF ?_⟩
          clear lk
          generalize upd (upd H4 l3 (.lst (hdR ts))) t6 (.tup [.ref c.s, .ref l3, bdV cc.bd]) = H6 at k6
          refine ⟨_, rfl, rfl, _, rfl, ?_⟩
          rw [bdV_non]
          rw [show (pl cc).2.2 = cc.bd from rfl]
          cases hbd : cc.bd with
          | none =>
            refine iteF ?_
            refine iteF ?_
            exact ⟨k6, _, _, _, rfl⟩
          | some j =>
            obtain ⟨c', hc', hb', hx', hh'⟩ := t.tw.tw1 i cc j hcc hbd
            have hj : j < S.G := t.tw.lt t.sl hcc hbd
            obtain ⟨zs, hzs⟩ := getS j hj
            have tzs := tS2 j zs hzs
            rw [hc'] at tzs
            obtain ⟨t0', l1', l2', us', rfl, _, _, _, h0', hl1', hl2', hus', hat'⟩ := tzs
            have hc6 := (t2.same k6).wat.cs _ _ hm
            have eus' : us' = [] := by
              have h1 : us'.map Prod.snd = sortH c'.hs := hus'
              rw [hh'] at h1
              exact List.map_eq_nil_iff.mp h1
            subst eus'
            refine iteT ⟨_, rfl, _, rfl, lS, _, _, _, rfl, rfl, SqL.of (k6 _ _ hlS), atI_nat hzs, _, rfl, c.o, _, _, _, rfl, rfl, SqL.of hc6.o, atI_nat (j := 0) rfl, Nat.zero_le _, fun l7 n7 => ⟨_, rfl, three, fun t8 n8 => ?_⟩⟩
            have lk := row_like (ts := []) (us := []) (z := .int (i : Int)) (by have := k6 _ _ h0'; rw [show (pl c').2.2 = some i from hb'] at this; exact this) (k6 _ _ hl1') (k6 _ _ hl2') (fun r hr => nomatch hr) (by rw [show (pl c').1 = c.xs from hx'.trans ex']; exact hc6.s) (fun r hr => nomatch hr) n7 n8 rfl (by rw [show (pl c').1 = c.xs from hx'.trans ex', x2]; omega) (Nat.zero_le _) (.inr (.inl ⟨_, rfl⟩))
            refine ⟨_, _, rfl, lk, true, rfl, ?_⟩
            refine iteF ?_
            refine ⟨fun u o e => ?_, _, _, _, rfl⟩
            have e7 : upd H6 l7 (.lst []) u = some o := by rw [upd_ne (ne_of_none (k6 u o e) n7)]; exact k6 u o e
            rw [upd_ne (ne_of_none e7 n8)]
            exact e7
      · rintro σ H3 ⟨sm, z4, z5, z6, rfl⟩
        exact ⟨sm, _, _, _, rfl⟩
    · rintro σ H3 ⟨s3, z4, z5, z6, rfl⟩
      have w3 := (t2.same s3).wat
      -- the slots
      refine ⟨fun σ H' => Same H2 H' ∧ ∃ z4 z5 z6 : Option V, σ = [some (.ref S.p), some (.ref W.w), some (.ref lF), some (.ref lS), z4, z5, z6, none], ?_, ?_⟩
      · refine ⟨_, rfl, W.w, _, _, _, rfl, rfl, SqL.of w3.w, atI_nat (j := 1) rfl, W.s, _, rfl, SqL.of w3.s, ?_⟩
        refine for_it walk_enum (fun i σ H' => Same H2 H' ∧ ∃ z4 z5 z6 : Option V, σ = [some (.ref S.p), some (.ref W.w), some (.ref lF), some (.ref lS), z4, z5, z6, none]) ⟨s3, _, _, _, rfl⟩ (fun i σ H' _ hh => SqL.of (hh.1 _ _ t2.wat.s)) ?_ ?_
        · rintro i x σ H3 H4 hi ⟨sm, z4, z5, z6, rfl⟩ ⟨tt, x1, x2, rfl, nt, rfl, e1, e2⟩
          injection e1 with e1
          subst e1
          obtain ⟨hin, rfl⟩ := row_of e2
          have s4 : Same H2 (upd H3 tt (.tup [.int (i : Nat), optV oV (W.m (true, i))])) := fun b o e => by
            have e' := sm b o e
            rw [upd_ne (ne_of_none e' nt)]
            exact e'
          refine ⟨tt, _, rfl, SqT.of upd_same, rfl, _, _, rfl, _, _, rfl, rfl, ?_⟩
          generalize upd H3 tt (.tup [.int (i : Nat), optV oV (W.m (true, i))]) = H4 at s4
          have hin : i < S.G := by rw [← t.eG]; exact hin
          obtain ⟨z, hz⟩ := getS i hin
          have tz := tS2 i z hz
          refine ⟨_, rfl, rfl, _, rfl, ?_⟩
          cases hm : W.m (true, i) with
          | none =>
            refine iteF ?_
            refine iteF ?_
            refine ⟨_, rfl, rfl, _, rfl, iteT ⟨_, rfl, _, rfl, lS, _, _, _, rfl, rfl, SqL.of (s4 _ _ hlS), atI_nat hz, rfl, _, rfl, ?_⟩⟩
            cases hsm : S.m (true, i) with
            | none =>
              rw [hsm] at tz
              have tz : z = .non := tz
              subst tz
              refine iteF ?_
              refine iteF ?_
              exact ⟨s4, _, _, _, rfl⟩
            | some c' =>
              have hno : isSh (true, i) c' = false := by
                cases e : isSh (true, i) c' with
                | false => rfl
                | true =>
                  have h1 := vw_sh hsm e
                  rw [t.ev, wv_none hm] at h1
                  cases h1
              rw [isSh_slot] at hno
              obtain ⟨f, hf⟩ : ∃ f, c'.bd = some f := by
                cases e : c'.bd with
                | none => rw [e] at hno; cases hno
                | some f => exact ⟨f, rfl⟩
              obtain ⟨cc, hcc, hbd⟩ := t.tw.tw2 i c' f hsm hf
              have hfF : f < S.F := t.sl.inb _ _ hcc
              obtain ⟨zf, hzf⟩ := getF f hfF
              have tzf := tF2 f zf hzf
              rw [hcc] at tzf
              rw [hsm] at tz
              obtain ⟨t0, l1, l2, us, rfl, _, _, _, h0, _⟩ := tz
              obtain ⟨t1, l3, l4, us', rfl, _, _, _, h1, _⟩ := tzf
              have h0 : H2 t0 = some (.tup [.ref l1, .ref l2, bdV c'.bd]) := h0
              have h1 : H2 t1 = some (.tup [.ref l3, .ref l4, bdV cc.bd]) := h1
              rw [hf] at h0
              rw [hbd] at h1
              refine iteT ⟨_, rfl, _, rfl, _, rfl, lS, _, _, _, rfl, rfl, SqL.of (s4 _ _ hlS), atI_nat hz, t0, _, _, _, rfl, rfl, SqT.of (s4 _ _ h0), atI_nat (j := 2) rfl, lF, _, _, _, rfl, rfl, SqL.of (s4 _ _ hlF2), atI_nat hzf, t1, _, _, _, rfl, rfl, SqT.of (s4 _ _ h1), atI_nat (j := 2) rfl, _, rfl, _, _, rfl, like_leaf (.inr (.inl ⟨_, rfl⟩)), true, rfl, ?_⟩
              refine iteF ?_
              exact ⟨s4, _, _, _, rfl⟩
          | some c =>
            obtain ⟨cc, hcc, hsh, ex, eh⟩ := t.at_ hm
            have hbd : cc.bd = none := by rw [isSh_slot] at hsh; simpa using hsh
            rw [hcc] at tz
            obtain ⟨t0, l1, l2, us, rfl, _, _, _, h0, hl1, hl2, hus, hat⟩ := tz
            have h0 : H2 t0 = some (.tup [.ref l1, .ref l2, bdV cc.bd]) := h0
            rw [hbd] at h0
            have hc4 := (t2.same s4).wat.cs _ _ hm
            have hfew := few _ _ hcc
            have f1 : c.hs.length < 64 := by have := hfew.1; rwa [eh, List.length_map] at this
            have x2 : c.xs.length = 2 := (t.one hm).two
            refine iteT ⟨_, rfl, _, rfl, lS, _, _, _, rfl, rfl, SqL.of (s4 _ _ hlS), atI_nat hz, _, rfl, c.o, _, _, _, rfl, rfl, SqL.of hc4.o, atI_nat (j := 0) rfl, _, rfl, c.o, _, _, _, rfl, rfl, SqL.of hc4.o, atI_nat (j := 1) rfl, c.h, c.hs, rfl, SqL.of hc4.h, f1, fun r hr => ⟨hc4.at_ r hr, hfew.2 _ (by rw [eh]; exact List.mem_map.mpr ⟨r, hr, rfl⟩)⟩, fun ts l3 perm pw n3 => ⟨three, fun t6 n6 => ?_⟩⟩
            have ets : ts.map Prod.snd = sortH cc.hs := sort_is (by rw [eh]; exact perm.map Prod.snd) pw fun r hr => hfew.2 r hr
            have lus : us.length ≤ 1000 := by
              have h1 := congrArg List.length hus
              have h2 := (sortH_perm cc.hs).length_eq
              rw [List.length_map] at h1
              have := hfew.1
              have h1 : us.length = (sortH cc.hs).length := h1
              omega
            have ex' : cc.xs = c.xs := ex
            have k5 : ∀ u o, H2 u = some o → upd H4 l3 (.lst (hdR ts)) u = some o := fun u o e => by rw [upd_ne (ne_of_none (s4 u o e) n3)]; exact s4 u o e
            have lk := row_like (s4 _ _ h0) (s4 _ _ hl1) (s4 _ _ hl2) (fun r hr => s4 _ _ (hat r hr)) (by rw [show (pl cc).1 = c.xs from ex']; exact hc4.s) (fun r hr => hc4.at_ r (perm.mem_iff.mp hr)) n3 n6 (hus.trans ets.symm) (by rw [show (pl cc).1 = c.xs from ex', x2]; omega) lus (.inl rfl)
            have k6 : ∀ u o, H2 u = some o → upd (upd H4 l3 (.lst (hdR ts))) t6 (.tup [.ref c.s, .ref l3, bdV none]) u = some o := fun u o e => by rw [upd_ne (ne_of_none (k5 u o e) n6)]; exact k5 u o e
            refine ⟨_, _, rfl, lk, true, rfl, ?_⟩
            refine iteF ?_
            refine ⟨_, rfl, rfl, _, rfl, ?_⟩
            refine iteF ?_
            refine iteF ?_
            exact ⟨k6, _, _, _, rfl⟩
        · rintro σ H3 ⟨sm, z4, z5, z6, rfl⟩
          exact ⟨sm, _, _, _, rfl⟩
      · rintro σ H4 ⟨s4, z4, z5, z6, rfl⟩
        have w4 := (t2.same s4).wat
        refine ⟨_, rfl, W.w, _, _, _, rfl, rfl, SqL.of w4.w, atI_nat (j := 0) rfl, _, rfl, W.w, _, _, _, rfl, rfl, SqL.of w4.w, atI_nat (j := 1) rfl, W.f, W.s, _, _, rfl, rfl, w4.f, w4.s, ?_, fun pl npl => ?_⟩
        · rw [row_length, row_length, t.eF, t.eG]
          exact Nat.le_trans (Nat.add_le_add t.F64 t.G64) (by decide)
        have k5 : ∀ u o, H4 u = some o → upd H4 pl (.lst (row oV W.m false W.F ++ row oV W.m true W.G)) u = some o := fun u o e => by rw [upd_ne (ne_of_none e npl)]; exact e
        have hpl : upd H4 pl (.lst (row oV W.m false W.F ++ row oV W.m true W.G)) pl = some (.lst (row oV W.m false W.F ++ row oV W.m true W.G)) := upd_same
        generalize upd H4 pl (.lst (row oV W.m false W.F ++ row oV W.m true W.G)) = H5 at k5 hpl
        refine ⟨pl, rfl, ⟨_, SqL.of hpl⟩, fun D hD => lc_list (xs := row oV W.m false W.F ++ row oV W.m true W.G) (fun i H' => (∃ acc, H' D = some (.lst acc) ∧ acc.length = tot (wv W.m) W.F i) ∧ Same H5 H') ⟨⟨[], upd_same, rfl⟩, fun u o e => by rw [upd_ne (ne_of_none e hD)]; exact e⟩ (fun i H' _ h => SqL.of (h.2 _ _ hpl)) ?_ ?_⟩
        · rintro i x H' hx ⟨⟨acc, h1, h2⟩, h3⟩
          obtain ⟨hi, rfl⟩ := rows_get hx
          refine ⟨rfl, _, rfl, rfl, _, rfl, ?_⟩
          cases hm : W.m (spotAt W.F i) with
          | none =>
            refine iteF ⟨⟨acc, h1, ?_⟩, h3⟩
            rw [tot_succ, wv_none hm, h2]; rfl
          | some c =>
            refine iteT ⟨_, rfl, acc, h1, ?_, ⟨_, upd_same, ?_⟩, fun u o e => ?_⟩
            · have h4 := tot_le (wv W.m) W.F i
              have h5 := t.eF
              have h6 := t.eG
              have h7 := t.F64
              have h8 := t.G64
              exact Nat.lt_of_lt_of_le (by omega : acc.length < 40) (by decide)
            · rw [tot_succ, wv_some hm, List.length_append, h2]; rfl
            · rw [upd_ne (ne_of_none e hD)]; exact h3 u o e
        · rintro H6 ⟨⟨acc, h1, h2⟩, h3⟩
          have k6 : ∀ u o, H u = some o → H6 u = some o := fun u o e => h3 u o (k5 u o (s4 u o (s02 u o e)))
          refine ⟨D, _, rfl, .inl (SqL.of h1), ?_⟩
          have t6 := t.same k6
          refine ⟨_, rfl, S.p, S.dx, _, rfl, t6.sh.p, shF_no (by decide +kernel), S, rfl, t6.sh, _, rfl, _, _, rfl, .inl ⟨?_, .inr (.inl ⟨_, rfl⟩)⟩, ?_⟩
          · rw [h2, List.length_append, row_length, row_length, tot_all, t.ev, t.eF, t.eG]
          · exact q H6 k6
end
end Fl

set_option Elab.async false
set_option linter.all false
set_option maxRecDepth 100000
set_option maxHeartbeats 4000000
/-! copied. -/
namespace Fl
open PySem L2
def spCopied (a : Ad) : Sp := fun vs H Q _ => ∃ (l : Addr) (zs : List V) (os : Nat → Option (List Int × List Hd × Option Nat)), vs = [.ref l] ∧ H l = some (.lst zs) ∧ zs.length ≤ 64 ∧ (∀ i z, zs[i]? = some z → ToldAt (fun _ => True) H z (os i)) ∧
  ∀ (H' : Hp) (l' : Addr) (zs' : List V), Same H H' → H l' = none → H' l' = some (.lst zs') → zs'.length = zs.length → (∀ i z, zs'[i]? = some z → ToldAt (fun u => H u = none) H' z (os i)) → Q (.ref l') H'
section
variable {P : Program} {w : World} {K : PySem.W.Frag} {mg : Str → Option Value} {base : Heap} {a : Ad}
theorem ok_copied (T : Top K mg a) : FnOk P w K mg base CX0 1 a.fCopied a.dCopied ["_law_row"] (spCopied a) := by
  refine T.FCopied.ok scCopied (fun vs H Q E h => ?_) (fun cdv A outer s H vs Q E hr h => ?_)
  · obtain ⟨l, zs, os, rfl, _⟩ := h
    rfl
  · obtain ⟨l, zs, os, rfl, hl, h64, hz, q⟩ := h
    refine ⟨_, (pss_one (ps_ret (pe_lc (own := [("_law_one", 1)]) (g := gName 1) (tt := tYes) (te := tIf _ (tC .non) (tTup (tCons (tCB (rListOf K) (tCons (tOp (rIxT K) (tVar 1) (tC (.int 0))) tNil)) (tCons (tCB (rListOf K) (tCons (tOp (rIxT K) (tVar 1) (tC (.int 1))) tNil)) (tCons (tOp (rIxT K) (tVar 1) (tC (.int 2))) tNil))))) rfl scCopied.nd (pi_list (pv 0)) (blkOk_by (N := NCopied) (sc := defScope sCopied) (by decide +kernel)) (fun _ _ _ _ _ => pg_name (i := 1) scCopied.nd rfl (Or.inl rfl)) (fun _ _ _ _ _ => pts_nil) (fun _ _ _ _ _ => (pe_ifExp (pt_cmpR op_isN (pv 1) pe_non (nomark _)) pe_non (pe_tup (pa_cons (pe_callTy (T := "list") call_list_of (by rfl) T.zlist (by decide +kernel) (pa_cons (pe_ix ix_tup (pv 1) pe_int (fun _ _ => rfl)) pa_nil)) (pa_cons (pe_callTy (T := "list") call_list_of (by rfl) T.zlist (by decide +kernel) (pa_cons (pe_ix ix_tup (pv 1) pe_int (fun _ _ => rfl)) pa_nil)) (pa_cons (pe_ix ix_tup (pv 1) pe_int (fun _ _ => rfl)) pa_nil))))))))), ?_⟩
    have three : 3 ≤ sizeLine := by decide
    have fb : ∀ {H1 : Hp} {u : Addr}, (∀ u o, H u = some o → H1 u = some o) → H1 u = none → H u = none := fun {H1 u} k h => by
      cases e : H u with
      | none => rfl
      | some o => rw [k u o e] at h; cases h
    refine ⟨_, rfl, l, rfl, ⟨_, SqL.of hl⟩, fun D hD => lc_list (xs := zs) (fun i H' => (∃ acc, H' D = some (.lst acc) ∧ acc.length = i ∧ ∀ j z, acc[j]? = some z → ToldAt (fun u => H u = none ∧ u ≠ D) H' z (os j)) ∧ Same H H') ⟨⟨[], upd_same, rfl, fun j z e => nomatch e⟩, fun u o e => by rw [upd_ne (ne_of_none e hD)]; exact e⟩ (fun i H' _ h => SqL.of (h.2 _ _ hl)) ?_ ?_⟩
    · rintro i x H' hx ⟨⟨acc, h1, h2, h3⟩, k⟩
      have hi : i < zs.length := (List.getElem?_eq_some_iff.mp hx).1
      have tx := hz i x hx
      have lacc : acc.length < sizeLine := by rw [h2]; exact Nat.lt_of_lt_of_le hi (Nat.le_trans h64 (by decide))
      -- the turn's end
      have fin : ∀ (H4 : Hp) (y : V), H4 D = some (.lst acc) → (∀ u o, H' u = some o → H4 u = some o) → ToldAt (fun u => H u = none ∧ u ≠ D) H4 y (os i) → (∃ acc', upd H4 D (.lst (acc ++ [y])) D = some (.lst acc') ∧ acc'.length = i + 1 ∧ ∀ j z, acc'[j]? = some z → ToldAt (fun u => H u = none ∧ u ≠ D) (upd H4 D (.lst (acc ++ [y]))) z (os j)) ∧ Same H (upd H4 D (.lst (acc ++ [y]))) := fun H4 y hD4 k4 ty => by
        have kU : ∀ u o, (H u = none ∧ u ≠ D) → H4 u = some o → upd H4 D (.lst (acc ++ [y])) u = some o := fun u o hu e => by rw [upd_ne hu.2]; exact e
        have kt : ∀ u vs, H4 u = some (.tup vs) → upd H4 D (.lst (acc ++ [y])) u = some (.tup vs) := fun u vs e => by rw [upd_ne (ne_of e hD4 (by intro z; cases z))]; exact e
        refine ⟨⟨_, upd_same, by rw [List.length_append, h2]; rfl, fun j z e => ?_⟩, fun u o e => ?_⟩
        · by_cases hj : j < acc.length
          · rw [List.getElem?_append_left hj] at e
            refine (h3 j z e).keep (fun _ h => h) (fun u o hu e => kU u o hu (k4 u o e)) (fun u vs e => kt u vs (k4 u _ e))
          · rw [List.getElem?_append_right (by omega)] at e
            cases e2 : j - acc.length with
            | zero =>
              rw [e2] at e
              cases e
              have : j = i := by omega
              subst this
              exact ty.keep (fun _ h => h) kU kt
            | succ m => rw [e2] at e; cases e
        · rw [upd_ne (ne_of_none e hD)]; exact k4 u o (k u o e)
      refine ⟨rfl, _, rfl, rfl, _, rfl, ?_⟩
      cases ho : os i with
      | none =>
        rw [ho] at tx
        have tx : x = .non := tx
        subst tx
        exact iteT ⟨acc, h1, lacc, fin H' _ h1 (fun u o e => e) (by rw [ho]; rfl)⟩
      | some o =>
        rw [ho] at tx
        obtain ⟨t0, l1, l2, us, rfl, _, _, _, e0, e1, e2, e3, e4⟩ := tx
        have f0 := k _ _ e0
        have f1 := k _ _ e1
        have f2 := k _ _ e2
        refine iteF ⟨_, rfl, t0, _, _, _, rfl, rfl, SqT.of f0, atI_nat (j := 0) rfl, l1, _, rfl, .inl (SqL.of f1), fun n1 nn1 => ?_⟩
        have k1 : ∀ u q, H' u = some q → upd H' n1 (.lst (o.1.map V.int)) u = some q := fun u q e => by rw [upd_ne (ne_of_none e nn1)]; exact e
        have g1 : upd H' n1 (.lst (o.1.map V.int)) n1 = some (.lst (o.1.map V.int)) := upd_same
        have m1 : n1 ≠ D := fun e => by rw [e, h1] at nn1; cases nn1
        have v1 : H n1 = none := fb k nn1
        clear nn1
        generalize upd H' n1 (.lst (o.1.map V.int)) = H1 at k1 g1
        refine ⟨_, rfl, t0, _, _, _, rfl, rfl, SqT.of (k1 _ _ f0), atI_nat (j := 1) rfl, l2, _, rfl, .inl (SqL.of (k1 _ _ f2)), fun n2 nn2 => ?_⟩
        have k2 : ∀ u o, H1 u = some o → upd H1 n2 (.lst (hdR us)) u = some o := fun u o e => by rw [upd_ne (ne_of_none e nn2)]; exact e
        have g2 : upd H1 n2 (.lst (hdR us)) n2 = some (.lst (hdR us)) := upd_same
        have m2 : n2 ≠ D := fun e => by rw [e, k1 _ _ h1] at nn2; cases nn2
        have v2 : H n2 = none := fb (fun u o e => k1 u o (k u o e)) nn2
        clear nn2
        have kk : ∀ u o, H' u = some o → upd H1 n2 (.lst (hdR us)) u = some o := fun u o e => k2 u o (k1 u o e)
        have g1' := k2 _ _ g1
        generalize upd H1 n2 (.lst (hdR us)) = H2 at g2 kk g1'
        refine ⟨_, rfl, t0, _, _, _, rfl, rfl, SqT.of (kk _ _ f0), atI_nat (j := 2) rfl, three, fun t6 n6 => ?_⟩
        have k3 : ∀ u q, H2 u = some q → upd H2 t6 (.tup [.ref n1, .ref n2, bdV o.2.2]) u = some q := fun u q e => by rw [upd_ne (ne_of_none e n6)]; exact e
        have g3 : upd H2 t6 (.tup [.ref n1, .ref n2, bdV o.2.2]) t6 = some (.tup [.ref n1, .ref n2, bdV o.2.2]) := upd_same
        have m3 : t6 ≠ D := fun e => by rw [e, kk _ _ h1] at n6; cases n6
        have v3 : H t6 = none := fb (fun u o e => kk u o (k u o e)) n6
        generalize upd H2 t6 (.tup [.ref n1, .ref n2, bdV o.2.2]) = H3 at k3 g3
        have kkk : ∀ u o, H' u = some o → H3 u = some o := fun u o e => k3 u o (kk u o e)
        refine ⟨acc, kkk _ _ h1, lacc, fin H3 _ (kkk _ _ h1) kkk ?_⟩
        rw [ho]
        exact ⟨t6, n1, n2, us, rfl, ⟨v3, m3⟩, ⟨v1, m1⟩, ⟨v2, m2⟩, g3, k3 _ _ g1', k3 _ _ g2, e3, fun r hr => kkk _ _ (k _ _ (e4 r hr))⟩
    · rintro H' ⟨⟨acc, h1, h2, h3⟩, k⟩
      exact q H' D acc k hD h1 h2 fun i z e => (h3 i z e).keep (fun _ h => h.1) (fun _ _ _ e => e) (fun _ _ e => e)
end
end Fl

set_option Elab.async false
set_option linter.all false
set_option maxRecDepth 100000
set_option maxHeartbeats 4000000
/-! deed. -/
namespace Fl
open PySem L2
theorem sps_lay (fl : List (Addr × Nat)) : PySem.SeqAt.shaped (.list (fl.map fun p => spD (false, p.2))) = true := shaped_all (n := 1) (by decide) fun d hd => by
  obtain ⟨p, _, rfl⟩ := List.mem_map.mp hd
  have e : PyData.strOk (sn false) = true := by decide +kernel
  exact ⟨by simp [PyData.canLay0, PyData.canLayAll0, e], by simp [PyData.depth, PyData.depthAll]⟩
theorem nats_lay (sl : List Nat) : PySem.SeqAt.shaped (.list (sl.map fun j : Nat => .int (j : Int))) = true := shaped_all (n := 0) (by decide) fun d hd => by
  obtain ⟨p, _, rfl⟩ := List.mem_map.mp hd
  exact ⟨by simp [PyData.canLay0], by simp [PyData.depth]⟩
/-- way < 2 or full == [] -/
def tFreshT : TT := fun σ H Q => ∃ (way : Int) (E : Addr) (fl : List (Addr × Nat)), σ[8]? = some (some (.int way)) ∧ σ[9]? = some (some (.ref E)) ∧ H E = some (.lst (fl.map fun p => V.ref p.1)) ∧ (∀ p ∈ fl, H p.1 = some (.tup (spV (false, p.2)))) ∧ fl.length ≤ 60 ∧ ∀ H' : Hp, (∀ u o, H u = some o → H' u = some o) → Q (decide (way < 2) || fl.isEmpty) H'
/-- way in (2, 3) and some != [] -/
def tBackT : TT := fun σ H Q => ∃ (way : Int) (G1 : Addr) (sl : List Nat), σ[8]? = some (some (.int way)) ∧ σ[10]? = some (some (.ref G1)) ∧ H G1 = some (.lst (sl.map fun j : Nat => V.int (j : Int))) ∧ sl.length ≤ 60 ∧ ∀ H' : Hp, (∀ u o, H u = some o → H' u = some o) → Q ((decide (way = 2) || decide (way = 3)) && !sl.isEmpty) H'
def spDeed (a : Ad) : Sp := fun vs H Q _ => ∃ (S : Sh) (W : Wh) (n : Nat) (z : Int), vs = [.ref S.p, .ref W.w, .int z, .int (n : Int)] ∧ Tog a H S W n ∧ n ≤ 62 ∧ ∀ (H' : Hp) (S' : Sh) (W' : Wh), Tog a H' S' W' (n + 1) → Stay No S W S' W' H H' → Q (.bl true) H'
section
variable {P : Program} {w : World} {K : PySem.W.Frag} {mg : Str → Option Value} {base : Heap} {a : Ad}
theorem ok_deed (T : Top K mg a) : FnOk P w K mg base CX0 6 a.fDeed a.dDeed ["_law_sheets", "_law_where", "_law_number_here", "_law_k"] (spDeed a) := by
  have GF : FnOk P w K mg base CX0 5 a.fLfresh a.dLfresh ["_law_sheets", "_law_where", "_law_one", "_law_marks"] (spLfresh a) := ok_lfresh T
  have GB : FnOk P w K mg base CX0 5 a.fLback a.dLback ["_law_sheets", "_law_where", "_law_slot", "_law_marks"] (spLback a) := ok_lback T
  have GO : FnOk P w K mg base CX0 4 a.fFolded a.dFolded ["_law_sheets", "_law_where"] (spFolded a) := ok_folded T
  have GC : FnOk P w K mg base CX0 4 a.fChanged a.dChanged ["_law_sheets", "_law_where", "_law_spot", "_law_way", "_law_number_here", "_law_holder"] (spChanged a) := ok_changed T
  refine T.FDeed.ok scDeed (fun vs H Q E h => ?_) (fun cdv A outer s H vs Q E hr h => ?_)
  · obtain ⟨S, W, n, z, rfl, _⟩ := h
    rfl
  · obtain ⟨S, W, n, z, rfl, t, hn, q⟩ := h
    have hr4 : Room 4 _ := hr.mono (by decide)
    refine ⟨_, (pss_cons (ps_setLc (i := 4) (own := [("_law_j", 13)]) (g := gName 13) (tt := tYes) (te := _) rfl scDeed.nd rfl rfl (sw_true rfl rfl rfl (by decide +kernel)) (pi_range1 rfl T.zrange (pa_cons (pe_callB call_len_seq (by rfl) T.zlen PySem.boot_len (pa_cons (pe_ix ix_list (pv 1) pe_int (fun _ _ => rfl)) pa_nil)) pa_nil)) (blkOk_by (N := NDeed) (sc := defScope sDeed) (by decide +kernel)) (fun _ _ _ _ _ => pg_name (i := 13) scDeed.nd rfl (Or.inl rfl)) (fun _ _ _ _ _ => pts_nil) (fun _ _ _ _ _ => (pe_cmpR op_eq (pe_op op_mod (pe_op op_shr (pv 2) (pe_op op_mod (pv 13) pe_int)) pe_int) pe_int (nomark _))))
      (pss_cons (ps_set (i := 5) scDeed.nd rfl (.inl rfl) (pe_op op_fdiv (pv 2) pe_int))
      (pss_cons (ps_set (i := 6) scDeed.nd rfl (.inl rfl) (pe_lst (pa_cons (pe_op op_mod (pe_op op_fdiv (pv 5) pe_int) (pe_op op_pow pe_int pe_int)) (pa_cons (pe_op op_mod (pe_op op_fdiv (pv 5) pe_int) pe_int) pa_nil))))
      (C8.pss_cut (ps_if (pt_cmpR op_eq (pe_op op_mod (pv 5) pe_int) pe_int (nomark _)) (pss_one (ps_set (i := 6) scDeed.nd rfl (.inl rfl) (pe_lst (pa_cons (pe_op op_mod (pe_op op_fdiv (pv 5) pe_int) pe_int) (pa_cons (pe_op op_mod (pe_op op_fdiv (pv 5) pe_int) pe_int) pa_nil))))) pss_nil) (pss_cons (ps_set (i := 7) scDeed.nd rfl (.inl rfl) (pe_tup (pa_cons (pe_ix ix_list (pe_lst (pa_cons pe_str (pa_cons pe_str pa_nil))) (pe_op op_fdiv (pe_op op_mod (pe_op op_fdiv (pv 5) pe_int) pe_int) pe_int) (fun _ _ => rfl)) (pa_cons (pv 3) (pa_cons (pe_op op_mod (pe_op op_fdiv (pv 5) pe_int) pe_int) pa_nil)))))
      (pss_cons (ps_set (i := 8) scDeed.nd rfl (.inl rfl) (pe_op op_mod (pe_op op_fdiv (pv 5) pe_int) pe_int))
      (pss_cons (ps_setLc (i := 9) (own := [("_law_j", 13)]) (g := gName 13) (tt := tTest (tOp _ (tOp (rIxL K) (tOp (rIxL K) (tVar 1) (tC (.int 0))) (tVar 13)) (tC .non))) (te := _) rfl scDeed.nd rfl rfl (sw_true rfl rfl rfl (by decide +kernel)) (pi_range1 rfl T.zrange (pa_cons (pe_callB call_len_seq (by rfl) T.zlen PySem.boot_len (pa_cons (pe_ix ix_list (pv 1) pe_int (fun _ _ => rfl)) pa_nil)) pa_nil)) (blkOk_by (N := NDeed) (sc := defScope sDeed) (by decide +kernel)) (fun _ _ _ _ _ => pg_name (i := 13) scDeed.nd rfl (Or.inl rfl)) (fun _ _ _ _ _ => pts_one (pt_cmpR op_notN (pe_ix ix_list (pe_ix ix_list (pv 1) pe_int (fun _ _ => rfl)) (pv 13) (fun _ _ => rfl)) pe_non (nomark _))) (fun _ _ _ _ _ => (pe_tup (pa_cons pe_str (pa_cons (pv 13) pa_nil)))))
      (pss_cons (ps_setLc (i := 10) (own := [("_law_j", 13)]) (g := gName 13) (tt := tTest (tOp _ (tOp (rIxL K) (tOp (rIxL K) (tVar 1) (tC (.int 1))) (tVar 13)) (tC .non))) (te := _) rfl scDeed.nd rfl rfl (sw_true rfl rfl rfl (by decide +kernel)) (pi_range1 rfl T.zrange (pa_cons (pe_callB call_len_seq (by rfl) T.zlen PySem.boot_len (pa_cons (pe_ix ix_list (pv 1) pe_int (fun _ _ => rfl)) pa_nil)) pa_nil)) (blkOk_by (N := NDeed) (sc := defScope sDeed) (by decide +kernel)) (fun _ _ _ _ _ => pg_name (i := 13) scDeed.nd rfl (Or.inl rfl)) (fun _ _ _ _ _ => pts_one (pt_cmpR op_notN (pe_ix ix_list (pe_ix ix_list (pv 1) pe_int (fun _ _ => rfl)) (pv 13) (fun _ _ => rfl)) pe_non (nomark _))) (fun _ _ _ _ _ => (pv 13)))
      (pss_cons (ps_if (pt_imp (t' := tFreshT) (PW.pt (pw_or (pt_cmpR op_lt (pv 8) pe_int (nomark _)) (pw_or1 (pt_cmpR (op_eqD hr.units) (pv 9) (pe_lst pa_nil) (nomark _))))) (by
          rintro σ H Q ⟨way, E, fl, e8, e9, hE, hfl, lfl, q⟩
          refine ⟨_, e8, _, _, rfl, rfl, _, rfl, ?_⟩
          cases hw : decide (way < 2) with
          | true =>
            have := q H (fun u o e => e)
            rw [hw] at this
            exact iteT this
          | false =>
            refine iteF ⟨_, e9, Nat.zero_le _, fun l2 nl2 => ?_⟩
            have k3 : ∀ u o, H u = some o → upd H l2 (.lst []) u = some o := fun u o e => by rw [upd_ne (ne_of_none e nl2)]; exact e
            refine ⟨.list (fl.map fun p => spD (false, p.2)), .list [], .lst (SqL.of (k3 _ _ hE)) (dp_map fun p hp => sp_dp (k3 _ _ (hfl p hp))), .lst (SqL.of upd_same) .nil, sps_lay _, by decide +kernel, _, rfl, ?_⟩
            have := q _ k3
            rw [hw] at this
            have e0 : PyData.eqv (.list (fl.map fun p => spD (false, p.2))) (.list []) = fl.isEmpty := by
              cases fl with
              | nil => simp [PyData.eqv, PyData.eqvAll]
              | cons a r => simp [PyData.eqv, PyData.eqvAll]
            rw [e0]
            exact this)) (pss_one (ps_ret (pe_call GF hr rfl T.gLfresh T.FLfresh.kp T.bLfresh .nil pass0 (pa_cons (pv 0) (pa_cons (pv 1) (pa_cons (pe_lst (pa_cons (pv 6) (pa_cons (pe_lst (pa_cons (pv 7) pa_nil)) pa_nil))) (pa_cons (pv 4) pa_nil))))))) pss_nil)
      (C8.pss_cut (ps_if (pt_imp (t' := tBackT) (PW.pt (pw_and (pt_cmpR op_in_seq (pv 8) (pe_tup (pa_cons pe_int (pa_cons pe_int pa_nil))) (by rfl)) (pw_and1 (pt_cmpR (op_neD hr.units) (pv 10) (pe_lst pa_nil) (nomark _))))) (by
          rintro σ H Q ⟨way, G1, sl, e8, e10, hG, lsl, q⟩
          have two : 2 ≤ sizeLine := by decide
          refine ⟨_, e8, two, fun tp ntp => ?_⟩
          have k1 : ∀ u o, H u = some o → upd H tp (.tup [.int 2, .int 3]) u = some o := fun u o e => by rw [upd_ne (ne_of_none e ntp)]; exact e
          have htp : upd H tp (.tup [.int 2, .int 3]) tp = some (.tup [.int 2, .int 3]) := upd_same
          refine ⟨tp, _, rfl, .inr (SqT.of htp), rfl, rfl, _, rfl, ?_⟩
          have ei : inV (.int way) [.int 2, .int 3] = (decide (way = 2) || decide (way = 3)) := by
            show ((2 == way) || ((3 == way) || false)) = _
            rw [Bool.or_false]
            congr 1
            · by_cases h : way = 2
              · subst h; rfl
              · rw [decide_eq_false h]; exact beq_eq_false_iff_ne.mpr (Ne.symm h)
            · by_cases h : way = 3
              · subst h; rfl
              · rw [decide_eq_false h]; exact beq_eq_false_iff_ne.mpr (Ne.symm h)
          rw [if_neg Bool.false_ne_true, ei]
          generalize upd H tp (.tup [.int 2, .int 3]) = H1 at k1
          cases hw : (decide (way = 2) || decide (way = 3)) with
          | false =>
            have := q H1 k1
            rw [hw] at this
            exact iteF this
          | true =>
            refine iteT ⟨_, e10, Nat.zero_le _, fun l2 nl2 => ?_⟩
            have k3 : ∀ u o, H1 u = some o → upd H1 l2 (.lst []) u = some o := fun u o e => by rw [upd_ne (ne_of_none e nl2)]; exact e
            refine ⟨.list (sl.map fun j : Nat => .int (j : Int)), .list [], .lst (SqL.of (k3 _ _ (k1 _ _ hG))) (dp_map fun p hp => .int _), .lst (SqL.of upd_same) .nil, nats_lay _, by decide +kernel, _, rfl, ?_⟩
            have := q _ (fun u o e => k3 u o (k1 u o e))
            rw [hw] at this
            have e0 : (!PyData.eqv (.list (sl.map fun j : Nat => .int (j : Int))) (.list [])) = !sl.isEmpty := by
              cases sl with
              | nil => simp [PyData.eqv, PyData.eqvAll]
              | cons a r => simp [PyData.eqv, PyData.eqvAll]
            rw [e0]
            exact this)) (pss_one (ps_expr (pe_call GB hr rfl T.gLback T.FLback.kp T.bLback .nil pass0 (pa_cons (pv 0) (pa_cons (pv 1) (pa_cons (pe_ix ix_list (pv 10) (pe_op op_mod (pe_op op_fdiv (pv 5) pe_int) (pe_callB call_len_seq (by rfl) T.zlen PySem.boot_len (pa_cons (pv 10) pa_nil))) (fun _ _ => rfl)) (pa_cons (pv 4) pa_nil))))))) pss_nil) (pss_cons (ps_if (pt_cmpR op_eq (pv 8) pe_int (nomark _)) (pss_one (ps_ret (pe_call GO hr4 rfl T.gFolded T.FFolded.kp T.bFolded .nil pass0 (pa_cons (pv 0) (pa_cons (pv 1) pa_nil))))) pss_nil)
      (pss_cons (ps_set (i := 11) scDeed.nd rfl (.inl rfl) (pe_op op_cat (pv 9) (pe_lc (own := [("_law_j", 13)]) (g := gName 13) (tt := tYes) (te := _) rfl scDeed.nd (pi_list (pv 10)) (blkOk_by (N := NDeed) (sc := defScope sDeed) (by decide +kernel)) (fun _ _ _ _ _ => pg_name (i := 13) scDeed.nd rfl (Or.inl rfl)) (fun _ _ _ _ _ => pts_nil) (fun _ _ _ _ _ => (pe_tup (pa_cons pe_str (pa_cons (pv 13) pa_nil)))))))
      (pss_cons (ps_set (i := 12) scDeed.nd rfl (.inl rfl) (pe_op op_mod (pe_op op_fdiv (pv 5) pe_int) (pe_callB call_len_seq (by rfl) T.zlen PySem.boot_len (pa_cons (pv 11) pa_nil))))
      (pss_one (ps_ret (pe_call GC hr4 rfl T.gChanged T.FChanged.kp T.bChanged .nil pass0 (pa_cons (pv 0) (pa_cons (pv 1) (pa_cons (pe_ix ix_list (pv 11) (pv 12) (fun _ _ => rfl)) (pa_cons (pv 8) (pa_cons (pe_op op_fdiv (pe_op op_fdiv (pv 5) pe_int) (pe_callB call_len_seq (by rfl) T.zlen PySem.boot_len (pa_cons (pv 11) pa_nil))) (pa_cons (pv 7) pa_nil)))))))))))))))))))))), ?_⟩
    have hF := t.F64
    have hG := t.G64
    have eF := t.eF
    have eG := t.eG
    have p2 : (0 : Int) < 2 := by decide
    have p3 : (0 : Int) < 3 := by decide
    have nR : ∀ u, H u = none → ¬ Reg S u ∧ ¬ WReg W u := fun u h => ⟨fun r => (by
      obtain ⟨o, ho⟩ := t.sh.there r
      rw [h] at ho; cases ho), fun r => (by
      obtain ⟨o, ho⟩ := t.wat.there r
      rw [h] at ho; cases ho)⟩
    -- marks
    refine ⟨_, rfl, W.w, _, _, _, rfl, rfl, SqL.of t.wat.w, atI_nat (j := 0) rfl, W.f, _, rfl, .inl (SqL.of t.wat.f), ?_⟩
    rw [row_length]
    refine ⟨_, rfl, by omega, by omega, fun D hD => ?_⟩
    refine lc_range (n := W.F) (fun i H' => (∃ bs : List Bool, bs.length = i ∧ H' D = some (.lst (bs.map V.bl))) ∧ ∀ u o, H u = some o → H' u = some o) ⟨⟨[], rfl, upd_same⟩, fun u o e => by rw [upd_ne (ne_of_none e hD)]; exact e⟩ ?_ ?_
    · rintro i H' hi ⟨⟨bs, hl, h1⟩, k⟩
      rw [Int.zero_add]
      refine ⟨rfl, _, rfl, _, rfl, _, _, rfl, rfl, (by show (0 : Int) < 12; decide), _, _, rfl, rfl, ?_, _, _, rfl, rfl, p2, rfl, _, h1, ?_, ⟨bs ++ [decide (V.int ((z / 2 ^ ((i : Int) % 12).toNat) % 2) = V.int 1)], ?_, ?_⟩, fun u o e => ?_⟩
      · show (0 : Int) ≤ (i : Int) % 12
        omega
      · rw [List.length_map, hl]
        exact Nat.lt_of_lt_of_le (by omega : i < 40) (by decide)
      · rw [List.length_append, hl]; rfl
      · rw [upd_same, List.map_append]; rfl
      · rw [upd_ne (ne_of_none e hD)]; exact k u o e
    · rintro H1 ⟨⟨bs, lbs, hD1⟩, k1⟩
      have nD := nR D hD
      clear hD
      have two : 2 ≤ sizeLine := by decide
      have three : 3 ≤ sizeLine := by decide
      have fb : ∀ {H1 : Hp} {u : Addr}, (∀ u o, H u = some o → H1 u = some o) → H1 u = none → H u = none := fun {H1 u} k h => by
        cases e : H u with
        | none => rfl
        | some o => rw [k u o e] at h; cases h
      -- rest, sheet
      refine ⟨_, rfl, _, _, rfl, rfl, ⟨by decide, by decide⟩, ?_⟩
      refine ⟨_, rfl, _, _, rfl, rfl, ⟨by decide, by decide⟩, _, _, rfl, rfl, ⟨by decide, by decide, by decide⟩, _, _, rfl, rfl, (by show (0 : Int) < 10 ^ Int.toNat 30; decide), _, rfl, _, _, rfl, rfl, ⟨by decide, by decide⟩, _, _, rfl, rfl, p3, two, fun s1 ns1 => ?_⟩
      refine ⟨fun σ H' => ∃ (sh : Addr) (xs : List Int), σ = [some (.ref S.p), some (.ref W.w), some (.int z), some (.int (n : Int)), some (.ref D), some (.int (z / 4096)), some (.ref sh), none, none, none, none, none, none, none] ∧ xs.length = 2 ∧ H' sh = some (.lst (xs.map V.int)) ∧ H sh = none ∧ ∀ u o, H1 u = some o → H' u = some o, ?_, ?_⟩
      · refine ⟨_, rfl, _, _, rfl, rfl, p2, rfl, _, rfl, ?_⟩
        have k2 : ∀ u o, H1 u = some o → upd H1 s1 (.lst [.int (z / 4096 / 100000 % 10 ^ Int.toNat 30), .int (z / 4096 / 2 % 3)]) u = some o := fun u o e => by rw [upd_ne (ne_of_none e ns1)]; exact e
        cases decide (V.int (z / 4096 % 2) = V.int 1) with
        | false => exact iteF ⟨s1, [z / 4096 / 100000 % 10 ^ Int.toNat 30, z / 4096 / 2 % 3], rfl, rfl, upd_same, fb k1 ns1, k2⟩
        | true =>
          refine iteT ⟨_, rfl, _, _, rfl, rfl, ⟨by decide, by decide⟩, _, _, rfl, rfl, p3, _, rfl, _, _, rfl, rfl, ⟨by decide, by decide⟩, _, _, rfl, rfl, p3, two, fun s2 ns2 => ?_⟩
          exact ⟨s2, [z / 4096 / 2 % 3, z / 4096 / 6 % 3], rfl, rfl, upd_same, fb (fun u o e => k2 u o (k1 u o e)) ns2, fun u o e => by rw [upd_ne (ne_of_none (k2 u o e) ns2)]; exact k2 u o e⟩
      · rintro σ H2 ⟨sh, xs, rfl, lxs, hsh, nsh, k2⟩
        have nS := nR sh nsh
        have k02 : ∀ u o, H u = some o → H2 u = some o := fun u o e => k2 u o (k1 u o e)
        have hD2 := k2 _ _ hD1
        clear k1 k2 hD1
        generalize z / 4096 = r
        -- holder
        obtain ⟨bk, eb⟩ : ∃ bk : Bool, r / 18 % 5 / 4 = (if bk = true then 1 else 0 : Int) := by
          have h : r / 18 % 5 / 4 = 0 ∨ r / 18 % 5 / 4 = 1 := by omega
          rcases h with h | h
          · exact ⟨false, h⟩
          · exact ⟨true, h⟩
        obtain ⟨hn, ehn, hn5⟩ : ∃ hn : Nat, r / 90 % 5 = (hn : Int) ∧ hn < 5 := ⟨(r / 90 % 5).toNat, by omega, by omega⟩
        refine ⟨two, fun lb nlb => ?_⟩
        have k3 : ∀ u o, H2 u = some o → upd H2 lb (.lst [.str "task", .str "bank"]) u = some o := fun u o e => by rw [upd_ne (ne_of_none e nlb)]; exact e
        have hlb : upd H2 lb (.lst [.str "task", .str "bank"]) lb = some (.lst [.str "task", .str "bank"]) := upd_same
        generalize upd H2 lb (.lst [.str "task", .str "bank"]) = H3 at k3 hlb
        have iat : atI [V.str "task", V.str "bank"] (r / 18 % 5 / 4) = some (.str (Hd.txt ⟨bk, n, hn⟩)) := by rw [eb]; cases bk <;> rfl
        refine ⟨_, rfl, _, _, rfl, rfl, ⟨by decide, by decide⟩, _, _, rfl, rfl, (by show (0 : Int) < 5; decide), _, _, rfl, rfl, ⟨by decide, by decide⟩, lb, _, _, _, rfl, rfl, SqL.of hlb, iat, _, rfl, _, rfl, _, _, rfl, rfl, ⟨by decide, by decide⟩, _, _, rfl, rfl, (by show (0 : Int) < 5; decide), three, fun g ng => ?_⟩
        have hg : upd H3 g (.tup [.str (Hd.txt ⟨bk, n, hn⟩), .int (n : Int), .int (r / 90 % 5)]) g = some (.tup (Hd.vs ⟨bk, n, hn⟩)) := by
          rw [upd_same, ehn]; rfl
        have k4 : ∀ u o, H2 u = some o → upd H3 g (.tup [.str (Hd.txt ⟨bk, n, hn⟩), .int (n : Int), .int (r / 90 % 5)]) u = some o := fun u o e => by rw [upd_ne (ne_of_none (k3 u o e) ng)]; exact k3 u o e
        generalize upd H3 g (.tup [.str (Hd.txt ⟨bk, n, hn⟩), .int (n : Int), .int (r / 90 % 5)]) = H4 at hg k4
        have k04 : ∀ u o, H u = some o → H4 u = some o := fun u o e => k4 u o (k02 u o e)
        have hsh4 := k4 _ _ hsh
        have hD4 := k4 _ _ hD2
        clear k3 hlb nlb ng k4 k02 hsh hD2
        have w4 := (t.same k04).wat
        refine ⟨_, rfl, _, _, rfl, rfl, ⟨by decide, by decide⟩, _, _, rfl, rfl, (by show (0 : Int) < 8; decide), ?_⟩
        -- full
        refine ⟨_, rfl, W.w, _, _, _, rfl, rfl, SqL.of w4.w, atI_nat (j := 0) rfl, W.f, _, rfl, .inl (SqL.of w4.f), ?_⟩
        rw [row_length]
        refine ⟨_, rfl, by omega, by omega, fun E hE => ?_⟩
        refine lc_range (n := W.F) (fun i H' => (∃ fl : List (Addr × Nat), fl.length ≤ i ∧ H' E = some (.lst (fl.map fun p => V.ref p.1)) ∧ ∀ p ∈ fl, H' p.1 = some (.tup (spV (false, p.2))) ∧ ∃ c, W.m (false, p.2) = some c) ∧ ∀ u o, H4 u = some o → H' u = some o) ⟨⟨[], Nat.le_refl _, upd_same, fun p hp => nomatch hp⟩, fun u o e => by rw [upd_ne (ne_of_none e hE)]; exact e⟩ ?_ ?_
        · rintro i H' hi ⟨⟨fl, lfl, h1, h2⟩, k⟩
          rw [Int.zero_add]
          have w' := (t.same (fun u o e => k u o (k04 u o e))).wat
          refine ⟨rfl, _, rfl, W.w, _, _, _, rfl, rfl, SqL.of w'.w, atI_nat (j := 0) rfl, _, rfl, W.f, _, _, _, rfl, rfl, SqL.of w'.f, atI_nat (row_get hi), rfl, _, rfl, ?_⟩
          cases hm : W.m (false, i) with
          | none => exact iteF ⟨⟨fl, Nat.le_succ_of_le lfl, h1, h2⟩, k⟩
          | some c =>
            refine iteT ⟨_, rfl, two, fun tp ntp => ⟨fl.map fun p => V.ref p.1, by rw [upd_ne (ne_of_none h1 ntp)]; exact h1, ?_, ⟨fl ++ [(tp, i)], ?_, ?_, fun p hp => ?_⟩, fun u o e => ?_⟩⟩
            · rw [List.length_map]
              exact Nat.lt_of_lt_of_le (by omega : fl.length < 40) (by decide)
            · rw [List.length_append]; exact Nat.succ_le_succ lfl
            · rw [upd_same, List.map_append]; rfl
            · rcases List.mem_append.mp hp with hp | hp
              · obtain ⟨e1, e2⟩ := h2 p hp
                refine ⟨?_, e2⟩
                rw [upd_ne (ne_of e1 h1 (by intro z; cases z)), upd_ne (ne_of_none e1 ntp)]
                exact e1
              · rw [List.mem_singleton.mp hp]
                refine ⟨?_, c, hm⟩
                rw [upd_ne (Ne.symm (ne_of_none h1 ntp)), upd_same]
                rfl
            · have := k u o e
              rw [upd_ne (ne_of_none e hE), upd_ne (ne_of_none this ntp)]
              exact this
        rintro H5 ⟨⟨fl, lfl, hE5, hfl⟩, k45⟩
        have nE := nR E (fb k04 hE)
        have k05 : ∀ u o, H u = some o → H5 u = some o := fun u o e => k45 u o (k04 u o e)
        have w5 := (t.same k05).wat
        -- some
        refine ⟨_, rfl, W.w, _, _, _, rfl, rfl, SqL.of w5.w, atI_nat (j := 1) rfl, W.s, _, rfl, .inl (SqL.of w5.s), ?_⟩
        rw [row_length]
        refine ⟨_, rfl, by omega, by omega, fun G1 hG1 => ?_⟩
        refine lc_range (n := W.G) (fun i H' => (∃ sl : List Nat, sl.length ≤ i ∧ H' G1 = some (.lst (sl.map fun j : Nat => V.int (j : Int))) ∧ ∀ j ∈ sl, ∃ c, W.m (true, j) = some c) ∧ ∀ u o, H5 u = some o → H' u = some o) ⟨⟨[], Nat.le_refl _, upd_same, fun p hp => nomatch hp⟩, fun u o e => by rw [upd_ne (ne_of_none e hG1)]; exact e⟩ ?_ ?_
        · rintro i H' hi ⟨⟨sl, lsl, h1, h2⟩, k⟩
          rw [Int.zero_add]
          have w' := (t.same (fun u o e => k u o (k05 u o e))).wat
          refine ⟨rfl, _, rfl, W.w, _, _, _, rfl, rfl, SqL.of w'.w, atI_nat (j := 1) rfl, _, rfl, W.s, _, _, _, rfl, rfl, SqL.of w'.s, atI_nat (row_get hi), rfl, _, rfl, ?_⟩
          cases hm : W.m (true, i) with
          | none => exact iteF ⟨⟨sl, Nat.le_succ_of_le lsl, h1, h2⟩, k⟩
          | some c =>
            refine iteT ⟨_, rfl, _, h1, ?_, ⟨sl ++ [i], ?_, ?_, fun p hp => ?_⟩, fun u o e => ?_⟩
            · rw [List.length_map]
              exact Nat.lt_of_lt_of_le (by omega : sl.length < 40) (by decide)
            · rw [List.length_append]; exact Nat.succ_le_succ lsl
            · rw [upd_same, List.map_append]; rfl
            · rcases List.mem_append.mp hp with hp | hp
              · exact h2 p hp
              · rw [List.mem_singleton.mp hp]; exact ⟨c, hm⟩
            · rw [upd_ne (ne_of_none e hG1)]; exact k u o e
        rintro H6 ⟨⟨sl, lsl, hG6, hsl⟩, k56⟩
        have nG := nR G1 (fb k05 hG1)
        have k06 : ∀ u o, H u = some o → H6 u = some o := fun u o e => k56 u o (k05 u o e)
        have hE6 := k56 _ _ hE5
        have hfl6 : ∀ p ∈ fl, H6 p.1 = some (.tup (spV (false, p.2))) ∧ ∃ c, W.m (false, p.2) = some c := fun p hp => ⟨k56 _ _ (hfl p hp).1, (hfl p hp).2⟩
        have hg6 := k56 _ _ (k45 _ _ hg)
        have hsh6 := k56 _ _ (k45 _ _ hsh4)
        have hD6 := k56 _ _ (k45 _ _ hD4)
        clear hE5 hfl hg hsh4 hD4 k45 k56 hE hG1 k04 k05 w4 w5
        have t6 := t.same k06
        have lfl' : fl.length ≤ 60 := by omega
        have lsl' : sl.length ≤ 60 := by omega
        refine ⟨r / 450 % 8, E, fl, rfl, rfl, hE6, fun p hp => (hfl6 p hp).1, lfl', fun H7 k7 => ?_⟩
        have t7 := t6.same k7
        have hE7 := k7 _ _ hE6
        have hfl7 : ∀ p ∈ fl, H7 p.1 = some (.tup (spV (false, p.2))) ∧ ∃ c, W.m (false, p.2) = some c := fun p hp => ⟨k7 _ _ (hfl6 p hp).1, (hfl6 p hp).2⟩
        have hG7 := k7 _ _ hG6
        have hg7 := k7 _ _ hg6
        have hsh7 := k7 _ _ hsh6
        have hD7 := k7 _ _ hD6
        have k07 : ∀ u o, H u = some o → H7 u = some o := fun u o e => k7 u o (k06 u o e)
        clear hE6 hfl6 hG6 hg6 hsh6 hD6 k06 k7 t6
        have lbs' : bs.length = S.F := lbs.trans eF
        cases hf : (decide (r / 450 % 8 < 2) || fl.isEmpty) with
        | true =>
          refine iteT ⟨_, rfl, _, rfl, _, rfl, _, rfl, (by decide : 1 ≤ sizeLine), fun lh nlh => ⟨two, fun lo nlo => ⟨_, rfl, ?_⟩⟩⟩
          have k8 : ∀ u o, H7 u = some o → upd H7 lh (.lst [.ref g]) u = some o := fun u o e => by rw [upd_ne (ne_of_none e nlh)]; exact e
          have hlh : upd H7 lh (.lst [.ref g]) lh = some (.lst [.ref g]) := upd_same
          have n1 : sh ≠ lh := ne_of_none hsh7 nlh
          generalize upd H7 lh (.lst [.ref g]) = H8 at k8 hlh nlo
          have k9 : ∀ u o, H8 u = some o → upd H8 lo (.lst [.ref sh, .ref lh]) u = some o := fun u o e => by rw [upd_ne (ne_of_none e nlo)]; exact e
          have hlo : upd H8 lo (.lst [.ref sh, .ref lh]) lo = some (.lst [.ref sh, .ref lh]) := upd_same
          have n2 : lo ≠ sh := Ne.symm (ne_of_none (k8 _ _ hsh7) nlo)
          have n3 : lo ≠ lh := Ne.symm (ne_of_none hlh nlo)
          have nlo' : H lo = none := fb (fun u o e => k8 u o (k07 u o e)) nlo
          have nlh' : H lh = none := fb k07 nlh
          generalize upd H8 lo (.lst [.ref sh, .ref lh]) = H9 at k9 hlo
          have k79 : ∀ u o, H7 u = some o → H9 u = some o := fun u o e => k9 u o (k8 u o e)
          refine ⟨S, W, n, ⟨lo, sh, lh, xs, [(g, ⟨bk, n, hn⟩)]⟩, g, ⟨bk, n, hn⟩, D, bs, rfl, t7.same k79, by omega, ⟨hlo, k79 _ _ hsh7, k9 _ _ hlh, fun p hp => ?_⟩, rfl, lxs, rfl, hn5, ⟨n2, n3, n1⟩, fun u hu => ?_, k79 _ _ hD7, lbs', nD.1, fun H' S' W' t' st => q H' S' W' t' (st.gone (fun u o e => k79 u o (k07 u o e)) fun u hu => ?_)⟩
          · rw [List.mem_singleton.mp hp]; exact k79 _ _ hg7
          · rcases mem_wadr.mp hu with e | e | e
            · rw [e]; exact nR _ nlo'
            · rw [e]; exact nS
            · rw [e]; exact nR _ nlh'
          · rcases mem_wadr.mp hu with e | e | e
            · rw [e]; exact nlo'
            · rw [e]; exact nsh
            · rw [e]; exact nlh'
        | false =>
          obtain ⟨hw2, hfe⟩ := Bool.or_eq_false_iff.mp hf
          have hw2 : ¬ r / 450 % 8 < 2 := of_decide_eq_false hw2
          have fl0 : 0 < fl.length := by
            cases e : fl with
            | nil => rw [e] at hfe; cases hfe
            | cons a b => simp
          refine iteF ?_
          refine ⟨fun σ H' => ∃ (S' : Sh) (W' : Wh), σ = [some (.ref S.p), some (.ref W.w), some (.int z), some (.int (n : Int)), some (.ref D), some (.int r), some (.ref sh), some (.ref g), some (.int (r / 450 % 8)), some (.ref E), some (.ref G1), none, none, none] ∧ Tog a H' S' W' n ∧ Stay No S W S' W' H H' ∧ (W' = W ∨ r / 450 % 8 = 2 ∨ r / 450 % 8 = 3) ∧ H' E = some (.lst (fl.map fun p => V.ref p.1)) ∧ (∀ p ∈ fl, H' p.1 = some (.tup (spV (false, p.2)))) ∧ H' G1 = some (.lst (sl.map fun j : Nat => V.int (j : Int))) ∧ AtHd H' (g, ⟨bk, n, hn⟩), ?_, ?_⟩
          · refine ⟨r / 450 % 8, G1, sl, rfl, rfl, hG7, lsl', fun H8 k8 => ?_⟩
            have t8 := t7.same k8
            have hG8 := k8 _ _ hG7
            have k08 : ∀ u o, H u = some o → H8 u = some o := fun u o e => k8 u o (k07 u o e)
            cases hb : ((decide (r / 450 % 8 = 2) || decide (r / 450 % 8 = 3)) && !sl.isEmpty) with
            | false => exact iteF ⟨S, W, rfl, t8, Stay.same k08, .inl rfl, k8 _ _ hE7, fun p hp => k8 _ _ (hfl7 p hp).1, hG8, k8 _ _ hg7⟩
            | true =>
              obtain ⟨hb1, hb2⟩ := Bool.and_eq_true_iff.mp hb
              have hw23 : r / 450 % 8 = 2 ∨ r / 450 % 8 = 3 := by
                rcases Bool.or_eq_true_iff.mp hb1 with h | h
                · exact .inl (of_decide_eq_true h)
                · exact .inr (of_decide_eq_true h)
              have sl0 : 0 < sl.length := by
                cases e : sl with
                | nil => rw [e] at hb2; cases hb2
                | cons a b => simp
              obtain ⟨k, ek, hk⟩ : ∃ k : Nat, r / 3600 % (((sl.map fun j : Nat => V.int (j : Int)).length : Nat) : Int) = (k : Int) ∧ k < sl.length := by
                rw [List.length_map]
                have h1 := Int.emod_nonneg (r / 3600) (b := (sl.length : Int)) (by omega)
                have h2 := Int.emod_lt_of_pos (r / 3600) (b := (sl.length : Int)) (by omega)
                exact ⟨(r / 3600 % (sl.length : Int)).toNat, by omega, by omega⟩
              obtain ⟨c, hc⟩ := hsl _ (List.getElem_mem hk)
              have iat : atI (sl.map fun j : Nat => V.int (j : Int)) (r / 3600 % (((sl.map fun j : Nat => V.int (j : Int)).length : Nat) : Int)) = some (.int ((sl[k] : Nat) : Int)) := by
                rw [ek]
                exact atI_nat (by rw [List.getElem?_map, List.getElem?_eq_getElem hk]; rfl)
              have lpos : (0 : Int) < (((sl.map fun j : Nat => V.int (j : Int)).length : Nat) : Int) := by rw [List.length_map]; omega
              refine iteT ⟨_, rfl, _, rfl, _, rfl, _, rfl, _, _, rfl, rfl, ⟨by decide, by decide⟩, _, rfl, G1, _, rfl, .inl (SqL.of hG8), _, _, rfl, rfl, lpos, G1, _, _, _, rfl, rfl, SqL.of hG8, iat, _, rfl, S, W, n, sl[k], c, D, bs, rfl, t8, by omega, hc, k8 _ _ hD7, lbs', nD.1, nD.2, fun H9 S' W' t' st => ?_⟩
              exact ⟨S', W', rfl, t', st.from k08, .inr hw23, st.keep _ _ (k8 _ _ hE7) nE.1 nE.2 (fun z => z), fun p hp => st.tup _ _ (k8 _ _ (hfl7 p hp).1), st.keep _ _ hG8 nG.1 nG.2 (fun z => z), st.tup _ _ (k8 _ _ hg7)⟩
          · rintro σ H8 ⟨S', W', rfl, t8, st, alt, hE8, hfl8, hG8, hg8⟩
            refine ⟨_, rfl, rfl, _, rfl, ?_⟩
            cases decide (V.int (r / 450 % 8) = V.int 7) with
            | true => exact iteT ⟨_, rfl, _, rfl, S', W', n, by rw [st.p, st.w]; rfl, t8, by omega, fun H' S'' W'' t'' st'' => q H' S'' W'' (t''.mono (Nat.le_succ n)) (st.trans st'')⟩
            | false =>
              refine iteF ?_
              have hsz : ∀ s, wsz W' s = wsz W s := fun s => by
                cases s
                · exact t8.eF.trans (st.F.trans t.eF.symm)
                · exact t8.eG.trans (st.G.trans t.eG.symm)
              refine ⟨_, rfl, _, rfl, G1, rfl, ⟨_, SqL.of hG8⟩, fun M hM => lc_list (xs := sl.map fun j : Nat => V.int (j : Int)) (fun i H' => (∃ ml : List (Addr × Nat), ml.length ≤ i ∧ H' M = some (.lst (ml.map fun p => V.ref p.1)) ∧ ∀ p ∈ ml, H' p.1 = some (.tup (spV (true, p.2))) ∧ ∃ c, W.m (true, p.2) = some c) ∧ ∀ u o, H8 u = some o → H' u = some o) ⟨⟨[], Nat.le_refl _, upd_same, fun p hp => nomatch hp⟩, fun u o e => by rw [upd_ne (ne_of_none e hM)]; exact e⟩ (fun i H' _ h => SqL.of (h.2 _ _ hG8)) ?_ ?_⟩
              · rintro i x H' hx ⟨⟨ml, lml, h1, h2⟩, k⟩
                obtain ⟨j, hj, rfl⟩ : ∃ j, sl[i]? = some j ∧ V.int ((j : Nat) : Int) = x := by
                  rw [List.getElem?_map] at hx
                  cases e : sl[i]? with
                  | none => rw [e] at hx; cases hx
                  | some j => rw [e] at hx; exact ⟨j, rfl, Option.some.inj hx⟩
                have hi := (List.getElem?_eq_some_iff.mp hj).1
                refine ⟨rfl, _, rfl, two, fun tp ntp => ⟨ml.map fun p => V.ref p.1, by rw [upd_ne (ne_of_none h1 ntp)]; exact h1, ?_, ⟨ml ++ [(tp, j)], ?_, ?_, fun p hp => ?_⟩, fun u o e => ?_⟩⟩
                · rw [List.length_map]
                  exact Nat.lt_of_lt_of_le (by omega : ml.length < 70) (by decide)
                · rw [List.length_append]; exact Nat.succ_le_succ lml
                · rw [upd_same, List.map_append]; rfl
                · rcases List.mem_append.mp hp with hp | hp
                  · obtain ⟨e1, e2⟩ := h2 p hp
                    refine ⟨?_, e2⟩
                    rw [upd_ne (ne_of e1 h1 (by intro z; cases z)), upd_ne (ne_of_none e1 ntp)]
                    exact e1
                  · rw [List.mem_singleton.mp hp]
                    refine ⟨?_, hsl _ (List.mem_of_getElem? hj)⟩
                    rw [upd_ne (Ne.symm (ne_of_none h1 ntp)), upd_same]
                    rfl
                · have := k u o e
                  rw [upd_ne (ne_of_none e hM), upd_ne (ne_of_none this ntp)]
                  exact this
              · rintro H9 ⟨⟨ml, lml, hM9, hml⟩, k89⟩
                have lml' : ml.length ≤ 60 := by rw [List.length_map] at lml; omega
                have hE9 := k89 _ _ hE8
                refine ⟨E, M, _, _, rfl, rfl, hE9, hM9, ?_, fun L nL => ?_⟩
                · rw [List.length_map, List.length_map]
                  exact Nat.le_trans (by omega : fl.length + ml.length ≤ 120) (by decide)
                have k9 : ∀ u o, H9 u = some o → upd H9 L (.lst ((fl.map fun p => V.ref p.1) ++ (ml.map fun p => V.ref p.1))) u = some o := fun u o e => by rw [upd_ne (ne_of_none e nL)]; exact e
                have hL : upd H9 L (.lst ((fl.map fun p => V.ref p.1) ++ (ml.map fun p => V.ref p.1))) L = some (.lst ((((fl.map fun p => ((p.1, (false, p.2)) : Addr × Spot)) ++ (ml.map fun p => ((p.1, (true, p.2)) : Addr × Spot)))).map fun p => V.ref p.1)) := by
                  rw [upd_same, List.map_append, List.map_map, List.map_map]; rfl
                have hfs : ∀ p ∈ (fl.map fun p => ((p.1, (false, p.2)) : Addr × Spot)) ++ (ml.map fun p => ((p.1, (true, p.2)) : Addr × Spot)), upd H9 L (.lst ((fl.map fun p => V.ref p.1) ++ (ml.map fun p => V.ref p.1))) p.1 = some (.tup (spV p.2)) ∧ ∃ c, W.m p.2 = some c := fun p hp => by
                  rcases List.mem_append.mp hp with hp | hp
                  · obtain ⟨p0, h0, rfl⟩ := List.mem_map.mp hp
                    exact ⟨k9 _ _ (k89 _ _ (hfl8 p0 h0)), (hfl7 p0 h0).2⟩
                  · obtain ⟨p0, h0, rfl⟩ := List.mem_map.mp hp
                    exact ⟨k9 _ _ (hml p0 h0).1, (hml p0 h0).2⟩
                have lfs : ((fl.map fun p => ((p.1, (false, p.2)) : Addr × Spot)) ++ (ml.map fun p => ((p.1, (true, p.2)) : Addr × Spot))).length = fl.length + ml.length := by rw [List.length_append, List.length_map, List.length_map]
                generalize upd H9 L (.lst ((fl.map fun p => V.ref p.1) ++ (ml.map fun p => V.ref p.1))) = H10 at k9 hL hfs
                generalize (fl.map fun p => ((p.1, (false, p.2)) : Addr × Spot)) ++ (ml.map fun p => ((p.1, (true, p.2)) : Addr × Spot)) = fs at hL hfs lfs
                have k810 : ∀ u o, H8 u = some o → H10 u = some o := fun u o e => k9 u o (k89 u o e)
                obtain ⟨k, ek, hk⟩ : ∃ k : Nat, r / 3600 % (((fs.map fun p => V.ref p.1).length : Nat) : Int) = (k : Int) ∧ k < fs.length := by
                  rw [List.length_map]
                  have h1 := Int.emod_nonneg (r / 3600) (b := (fs.length : Int)) (by omega)
                  have h2 := Int.emod_lt_of_pos (r / 3600) (b := (fs.length : Int)) (by omega)
                  exact ⟨(r / 3600 % (fs.length : Int)).toNat, by omega, by omega⟩
                have iat : atI (fs.map fun p => V.ref p.1) (r / 3600 % (((fs.map fun p => V.ref p.1).length : Nat) : Int)) = some (.ref fs[k].1) := by
                  rw [ek]
                  exact atI_nat (by rw [List.getElem?_map, List.getElem?_eq_getElem hk]; rfl)
                have lpos : (0 : Int) < (((fs.map fun p => V.ref p.1).length : Nat) : Int) := by rw [List.length_map]; omega
                have llt : (((fs.map fun p => V.ref p.1).length : Nat) : Int) < 1073741824 := by rw [List.length_map]; omega
                obtain ⟨hsp, c, hc⟩ := hfs fs[k] (List.getElem_mem hk)
                refine ⟨_, rfl, _, _, rfl, rfl, ⟨by decide, by decide⟩, _, rfl, L, _, rfl, .inl (SqL.of hL), _, _, rfl, rfl, lpos, ?_⟩
                refine ⟨_, rfl, _, rfl, _, rfl, _, rfl, L, _, _, _, rfl, rfl, SqL.of hL, iat, _, rfl, _, rfl, _, _, rfl, rfl, ⟨by decide, by decide⟩, _, rfl, L, _, rfl, .inl (SqL.of hL), _, _, rfl, rfl, ⟨lpos, llt⟩, _, rfl, S', W', n, fs[k].2, fs[k].1, r / 450 % 8, _, g, ⟨bk, n, hn⟩, by rw [st.p, st.w]; rfl, t8.same k810, by omega, hsp, ?_, fun h => ?_, k810 _ _ hg8, rfl, hn5, fun H' S'' W'' t'' st'' => q H' S'' W'' t'' (st.trans (st''.from k810))⟩
                · rw [hsz]
                  exact t.wl.inb _ _ hc
                · rcases alt with e | e | e
                  · rw [e]; exact ⟨c, hc⟩
                  · exfalso; omega
                  · exfalso; omega
end
end Fl

set_option Elab.async false
set_option linter.all false
set_option maxRecDepth 100000
set_option maxHeartbeats 4000000
/-! law. -/
namespace Fl
open PySem L2
abbrev lawLevel : Nat := 7
def spLaw (K : PySem.W.Frag) : Sp := fun vs H Q _ => ∃ (a : Addr) (ns : List Int), vs = [.ref a] ∧ SqL K H a (ns.map V.int) ∧ ns.length ≤ 63 ∧ ∀ H' : Hp, Q (.bl true) H'
open Classical in
/-- what stands outside -/
noncomputable def Out (S : Sh) (W : Wh) (H : Hp) : Hp := fun u => if Reg S u ∨ WReg W u then none else H u
section
variable {a : Ad} {H H' : Hp} {S S' : Sh} {W W' : Wh} {n : Nat} {u : Addr} {o : HO}
theorem out_of (h : Out S W H u = some o) : H u = some o ∧ ¬ Reg S u ∧ ¬ WReg W u := by
  unfold Out at h
  by_cases r : Reg S u ∨ WReg W u
  · rw [if_pos r] at h; cases h
  · rw [if_neg r] at h
    exact ⟨h, fun z => r (.inl z), fun z => r (.inr z)⟩
theorem out_in (h : H u = some o) (h1 : ¬ Reg S u) (h2 : ¬ WReg W u) : Out S W H u = some o := by
  unfold Out
  rw [if_neg (fun z => z.elim h1 h2)]
  exact h
theorem out_stay (st : Stay No S W S' W' H H') : ∀ u o, Out S W H u = some o → Out S' W' H' u = some o := fun u o e => by
  obtain ⟨h, h1, h2⟩ := out_of e
  refine out_in (st.keep u o h h1 h2 (fun z => z)) (fun r => ?_) (fun r => ?_)
  · rcases st.new u (.inl r) with z | z | z | z
    · exact h1 z
    · exact h2 z
    · rw [h] at z; cases z
    · exact z
  · rcases st.new u (.inr r) with z | z | z | z
    · exact h1 z
    · exact h2 z
    · rw [h] at z; cases z
    · exact z
theorem out_same (k : ∀ u o, H u = some o → H' u = some o) : ∀ u o, Out S W H u = some o → Out S W H' u = some o := fun u o e => by
  obtain ⟨h, h1, h2⟩ := out_of e
  exact out_in (k u o h) h1 h2
theorem out_tup (t : Tog a H S W n) {vs : List V} (h : H u = some (.tup vs)) : Out S W H u = some (.tup vs) := out_in h (t.sh.notup h) (t.wat.notup h)
theorem out_told (t : Tog a H S W n) {U : Addr → Prop} {z : V} {c : Option (List Int × List Hd × Option Nat)} (x : ToldAt U H z c) (hu : ∀ u, U u → ¬ Reg S u ∧ ¬ WReg W u) : ToldAt (fun _ => True) (Out S W H) z c :=
  x.keep (fun _ _ => trivial) (fun u o h e => out_in e (hu u h).1 (hu u h).2) (fun u vs e => out_tup t e)
theorem sql_mono {K : PySem.W.Frag} {l : Addr} {xs : List V} (k : ∀ u o, H u = some o → H' u = some o) (h : SqL K H l xs) : SqL K H' l xs := by
  rcases h with (h | ⟨ob, h⟩) | h
  · exact .inl (.inl (k _ _ h))
  · exact .inl (.inr ⟨ob, k _ _ h⟩)
  · exact .inr h
theorem told_like {U U' : Addr → Prop} {z z' : V} {c : Option (List Int × List Hd × Option Nat)} (x : ToldAt U H z c) (y : ToldAt U' H z' c) (hn : ∀ p, c = some p → p.1.length ≤ 1000 ∧ p.2.1.length ≤ 1000) : LikeD H 4 z z' := by
  cases c with
  | none =>
    have x : z = .non := x
    have y : z' = .non := y
    subst x y
    exact like_leaf (.inl rfl)
  | some p =>
    obtain ⟨n1, n2⟩ := hn p rfl
    obtain ⟨t, l1, l2, us, rfl, _, _, _, h1, h2, h3, h4, h5⟩ := x
    obtain ⟨t', l1', l2', us', rfl, _, _, _, h1', h2', h3', h4', h5'⟩ := y
    have lu : us.length ≤ 1000 := by
      have e1 := congrArg List.length h4
      have e2 := (sortH_perm p.2.1).length_eq
      rw [List.length_map] at e1
      omega
    exact like_tup h1 h1' (like_bd _) (like_ints h2 h2' n1) (like_hds h3 h3' h5 h5' (h4.trans h4'.symm) lu)
theorem rows_like {l l' : Addr} {zs zs' : List V} {os : Nat → Option (List Int × List Hd × Option Nat)} (h : H l = some (.lst zs)) (h' : H l' = some (.lst zs')) (e : zs.length = zs'.length) (n : zs.length ≤ 1000) (x : ∀ i z, zs[i]? = some z → ToldAt (fun _ => True) H z (os i)) (y : ∀ i z, zs'[i]? = some z → ToldAt (fun _ => True) H z (os i))
    (hn : ∀ i p, os i = some p → p.1.length ≤ 1000 ∧ p.2.1.length ≤ 1000) : LikeD H 5 (.ref l) (.ref l') :=
  .inr ⟨l, l', zs, zs', rfl, rfl, .inl ⟨h, h'⟩, e, n, fun i z z' e1 e2 => told_like (x i z e1) (y i z' e2) (hn i)⟩
theorem two_like {p q l1 l2 l3 l4 : Addr} (h1 : H p = some (.lst [.ref l1, .ref l2])) (h2 : H q = some (.lst [.ref l3, .ref l4])) (a : LikeD H 5 (.ref l1) (.ref l3)) (b : LikeD H 5 (.ref l2) (.ref l4)) : LikeD H 6 (.ref p) (.ref q) :=
  .inr ⟨p, q, _, _, rfl, rfl, .inl ⟨h1, h2⟩, rfl, by show 2 ≤ 1000; omega, fun i x y e1 e2 => by
    match i, e1, e2 with
    | 0, e1, e2 => cases e1; cases e2; exact a
    | 1, e1, e2 => cases e1; cases e2; exact b
    | i + 2, e1, e2 => cases e1⟩
end
theorem lc_none {D : Addr} {σ : St} {H1 : Hp} {n i : Nat} {Qd : Hp → Prop} (hD : H1 D = none) (hn : n ≤ 1000) (q : ∀ H', H' D = some (.lst (List.replicate n V.non)) → (∀ u o, H1 u = some o → H' u = some o) → Qd H') :
    ∃ W : Nat → Nat → Hp → Prop, (∃ m, W 0 m (upd H1 D (.lst []))) ∧ ∀ j m H, W j m H →
      ((Itr 0 n).stop j H ∧ Qd H) ∨ ((Itr 0 n).go j H ∧ ∃ Nx : Hp → Prop, (∀ H', Nx H' → ∃ m', m' < m ∧ W (j + 1) m' H') ∧ ∀ x H', (Itr 0 n).yld j H x H' → gName i x (wipe σ [i]) H' fun σ2 H2 => wipe σ2 [i] = wipe σ [i] ∧ tYes σ2 H2 fun b H3 =>
        if b = true then tC V.non σ2 H3 fun y H4 => ∃ acc, H4 D = some (.lst acc) ∧ acc.length < sizeLine ∧ Nx (upd H4 D (.lst (acc ++ [y]))) else Nx H3) := by
  refine lc_range (n := n) (fun j H' => H' D = some (.lst (List.replicate j V.non)) ∧ ∀ u o, H1 u = some o → H' u = some o) ⟨upd_same, fun u o e => by rw [upd_ne (ne_of_none e hD)]; exact e⟩ ?_ fun H h => q H h.1 h.2
  rintro j H' hj ⟨h1, h2⟩
  refine ⟨?_, _, h1, by rw [List.length_replicate]; exact Nat.lt_of_lt_of_le (by omega : j < 1000) (by decide), by rw [upd_same, List.replicate_succ'], fun u o e => ?_⟩
  · show ((σ.set i none).set i (some (V.int (0 + (j : Int))))).set i none = σ.set i none
    rw [List.set_set, List.set_set]
  · rw [upd_ne (ne_of_none e hD)]; exact h2 u o e
section
variable {P : Program} {w : World} {K : PySem.W.Frag} {mg : Str → Option Value} {base : Heap} {a : Ad}
theorem ok_law (T : Top K mg a) : FnOk P w K mg base CX0 lawLevel a.fLaw a.dLaw ["_law_script"] (spLaw K) := by
  have GC : FnOk P w K mg base CX0 1 a.fCell a.dCell ["_law_script", "_law_k"] (spCell K) := ok_cell T
  have GI : FnOk P w K mg base CX0 1 a.fShInit a.dShInit ["self", "frames", "slots", "size"] (spShInit a) := ok_shInit T
  have GF : FnOk P w K mg base CX0 4 a.fToldF a.dToldF ["self"] (spToldR a false) := ok_toldF T
  have GS : FnOk P w K mg base CX0 4 a.fToldS a.dToldS ["self"] (spToldR a true) := ok_toldS T
  have GN : FnOk P w K mg base CX0 1 a.fNumber a.dNumber ["_law_digits", "_law_cell_here", "_law_k"] spNumber := ok_number T
  have GD : FnOk P w K mg base CX0 6 a.fDeed a.dDeed ["_law_sheets", "_law_where", "_law_number_here", "_law_k"] (spDeed a) := ok_deed T
  have GT : FnOk P w K mg base CX0 5 a.fTrue a.dTrue ["_law_sheets", "_law_where"] (spTrue a) := ok_true T
  have GP : FnOk P w K mg base CX0 1 a.fCopied a.dCopied ["_law_row"] (spCopied a) := ok_copied T
  have GL : FnOk P w K mg base CX0 6 a.fLike a.dLike ["_law_found", "_law_due"] (spLike 6) := ok_like T 6
  refine T.FLaw.ok scLaw (fun vs H Q E h => ?_) (fun cdv A outer s H vs Q E hr h => ?_)
  · obtain ⟨l, ns, rfl, _⟩ := h
    rfl
  · obtain ⟨l, ns, rfl, hl, h63, q⟩ := h
    have hr1 : Room 1 _ := hr.mono (by decide)
    have hr2 : Room 2 _ := hr.mono (by decide)
    have hr4 : Room 4 _ := hr.mono (by decide)
    have hr5 : Room 5 _ := hr.mono (by decide)
    refine ⟨_, (pss_cons (ps_set (i := 1) scLaw.nd rfl (.inl rfl) pe_int)
      (C8.pss_cut (ps_if (pt_cmpR op_eq (pe_op op_mod (pe_op op_fdiv (pe_call GC hr1 rfl T.gCell T.FCell.kp T.bCell .nil pass0 (pa_cons (pv 0) (pa_cons pe_int pa_nil))) pe_int) pe_int) pe_int (nomark _)) (pss_one (ps_set (i := 1) scLaw.nd rfl (.inl rfl) pe_int)) pss_nil) (pss_cons (ps_set (i := 2) scLaw.nd rfl (.inl rfl) (pe_op op_add pe_int (pe_op op_mod (pe_call GC hr1 rfl T.gCell T.FCell.kp T.bCell .nil pass0 (pa_cons (pv 0) (pa_cons pe_int pa_nil))) (pv 1))))
      (pss_cons (ps_set (i := 3) scLaw.nd rfl (.inl rfl) (pe_op op_mod (pe_op op_fdiv (pe_call GC hr1 rfl T.gCell T.FCell.kp T.bCell .nil pass0 (pa_cons (pv 0) (pa_cons pe_int pa_nil))) pe_int) (pe_op op_add (pv 1) pe_int)))
      (pss_cons (ps_set (i := 4) scLaw.nd rfl (.inl rfl) (pe_make T.MkS GI hr2 rfl T.mgS T.bShInit .nil pass0 (pa_cons (pv 2) (pa_cons (pv 3) (pa_cons pe_int pa_nil)))))
      (pss_cons (ps_set (i := 6) scLaw.nd rfl (.inl rfl) (pe_lst (pa_cons (pe_lc (own := [("_law_k", 5)]) (g := gName 5) (tt := tYes) (te := _) rfl scLaw.nd (pi_range1 rfl T.zrange (pa_cons (pv 2) pa_nil)) (blkOk_by (N := NLaw) (sc := defScope sLaw) (by decide +kernel)) (fun _ _ _ _ _ => pg_name (i := 5) scLaw.nd rfl (Or.inl rfl)) (fun _ _ _ _ _ => pts_nil) (fun _ _ _ _ _ => pe_non)) (pa_cons (pe_lc (own := [("_law_k", 5)]) (g := gName 5) (tt := tYes) (te := _) rfl scLaw.nd (pi_range1 rfl T.zrange (pa_cons (pv 3) pa_nil)) (blkOk_by (N := NLaw) (sc := defScope sLaw) (by decide +kernel)) (fun _ _ _ _ _ => pg_name (i := 5) scLaw.nd rfl (Or.inl rfl)) (fun _ _ _ _ _ => pts_nil) (fun _ _ _ _ _ => pe_non)) pa_nil))))
      (pss_cons (ps_set (i := 7) scLaw.nd rfl (.inl rfl) (pe_lst (pa_cons (pe_meth0 (pv 4) T.clS T.mToldF GF hr4 T.bToldF .nil pass0) (pa_cons (pe_meth0 (pv 4) T.clS T.mToldS GS hr4 T.bToldS .nil pass0) pa_nil))))
      (pss_cons (ps_set (i := 8) scLaw.nd rfl (.inl rfl) (pe_lst (pa_cons (pe_lc (own := [("_law_k", 5)]) (g := gName 5) (tt := tYes) (te := _) rfl scLaw.nd (pi_range1 rfl T.zrange (pa_cons (pv 2) pa_nil)) (blkOk_by (N := NLaw) (sc := defScope sLaw) (by decide +kernel)) (fun _ _ _ _ _ => pg_name (i := 5) scLaw.nd rfl (Or.inl rfl)) (fun _ _ _ _ _ => pts_nil) (fun _ _ _ _ _ => pe_non)) (pa_cons (pe_lc (own := [("_law_k", 5)]) (g := gName 5) (tt := tYes) (te := _) rfl scLaw.nd (pi_range1 rfl T.zrange (pa_cons (pv 3) pa_nil)) (blkOk_by (N := NLaw) (sc := defScope sLaw) (by decide +kernel)) (fun _ _ _ _ _ => pg_name (i := 5) scLaw.nd rfl (Or.inl rfl)) (fun _ _ _ _ _ => pts_nil) (fun _ _ _ _ _ => pe_non)) pa_nil))))
      (pss_cons (ps_for PassesOwn.never rfl (pi_enum (by rfl) T.zenumerate (pa_cons (pe_slice sl_list (pv 0) (po_some pe_int) (po_some pe_int)) pa_nil)) (pg_tup rfl (pgs_cons (pg_name (i := 5) scLaw.nd rfl (.inl rfl)) (pgs_cons (pg_name (i := 9) scLaw.nd rfl (.inl rfl)) pgs_nil))) (pss_cons (ps_set (i := 10) scLaw.nd rfl (.inl rfl) (pe_call GN hr1 rfl T.gNumber T.FNumber.kp T.bNumber .nil pass0 (pa_cons (pe_cmpR op_eq (pe_op op_mod (pe_op op_fdiv (pe_call GC hr1 rfl T.gCell T.FCell.kp T.bCell .nil pass0 (pa_cons (pv 0) (pa_cons pe_int pa_nil))) pe_int) pe_int) pe_int (nomark _)) (pa_cons (pv 9) (pa_cons (pv 5) pa_nil)))))
      (pss_cons (ps_if (PW.pt (pw_or (pt_not (pt_val (pe_call GD hr rfl T.gDeed T.FDeed.kp T.bDeed .nil pass0 (pa_cons (pv 4) (pa_cons (pv 6) (pa_cons (pv 10) (pa_cons (pv 5) pa_nil))))))) (pw_or1 (pt_not (pt_val (pe_call GT hr5 rfl T.gTrue T.FTrue.kp T.bTrue .nil pass0 (pa_cons (pv 4) (pa_cons (pv 6) pa_nil)))))))) (pss_one (ps_ret pe_bl)) pss_nil)
      (pss_one (ps_if (pt_cmpR op_eq (pv 5) pe_int (nomark _)) (pss_cons (ps_set (i := 7) scLaw.nd rfl (.inl rfl) (pe_lst (pa_cons (pe_meth0 (pv 4) T.clS T.mToldF GF hr4 T.bToldF .nil pass0) (pa_cons (pe_meth0 (pv 4) T.clS T.mToldS GS hr4 T.bToldS .nil pass0) pa_nil))))
      (pss_one (ps_set (i := 8) scLaw.nd rfl (.inl rfl) (pe_lst (pa_cons (pe_call GP hr1 rfl T.gCopied T.FCopied.kp T.bCopied .nil pass0 (pa_cons (pe_ix ix_list (pv 7) pe_int (fun _ _ => rfl)) pa_nil)) (pa_cons (pe_call GP hr1 rfl T.gCopied T.FCopied.kp T.bCopied .nil pass0 (pa_cons (pe_ix ix_list (pv 7) pe_int (fun _ _ => rfl)) pa_nil)) pa_nil)))))) pss_nil)))))
      (pss_one (ps_ret (pe_call GL hr rfl T.gLike T.FLike.kp T.bLike .nil pass0 (pa_cons (pv 7) (pa_cons (pv 8) pa_nil)))))))))))))), ?_⟩
    -- most
    generalize hc0 : ns.getD 0 0 = c0
    have cl : ∀ (H' : Hp) (Q' : VK), SqL K H' l (ns.map V.int) → Q' (.int c0) H' → spCell K [.ref l, .int 0] H' Q' (fun _ _ _ => False) := fun H' Q' h q => ⟨l, ns, 0, rfl, h, by rw [hc0]; exact q⟩
    refine ⟨fun σ H' => H' = H ∧ ∃ most : Int, (most = 4 ∨ most = 12) ∧ σ = [some (.ref l), some (.int most), none, none, none, none, none, none, none, none, none], ?_, ?_⟩
    · refine ⟨_, rfl, l, ns, 0, rfl, hl, _, _, rfl, rfl, ⟨by decide, by decide⟩, _, _, rfl, rfl, (by show (0 : Int) < 4; decide), rfl, _, rfl, ?_⟩
      generalize decide (V.int _ = V.int 1) = b
      cases b with
      | true => exact iteT ⟨rfl, 12, .inr rfl, rfl⟩
      | false => exact iteF ⟨rfl, 4, .inl rfl, rfl⟩
    · rintro σ H ⟨rfl, most, hmost, rfl⟩
      have p1 : (0 : Int) < most := by omega
      have p2 : (0 : Int) < most + 1 := by omega
      refine ⟨_, rfl, l, ns, 0, rfl, hl, _, rfl, _, _, rfl, rfl, p1, _, _, rfl, rfl, ?_⟩
      refine ⟨_, rfl, l, ns, 0, rfl, hl, _, _, rfl, rfl, ⟨by decide, by decide⟩, _, rfl, _, _, rfl, rfl, _, _, rfl, rfl, p2, ?_⟩
      rw [hc0]
      have bF1 := Int.emod_nonneg c0 (b := most) (by omega)
      have bF2 := Int.emod_lt_of_pos c0 p1
      have bG1 := Int.emod_nonneg (c0 / 16) (b := most + 1) (by omega)
      have bG2 := Int.emod_lt_of_pos (c0 / 16) p2
      obtain ⟨F, eF, F0, F16⟩ : ∃ F : Nat, 1 + c0 % most = (F : Int) ∧ 0 < F ∧ F ≤ 16 := ⟨(1 + c0 % most).toNat, by omega, by omega, by omega⟩
      obtain ⟨G, eG, G16⟩ : ∃ G : Nat, c0 / 16 % (most + 1) = (G : Int) ∧ G ≤ 16 := ⟨(c0 / 16 % (most + 1)).toNat, by omega, by omega⟩
      have eFt : (1 + c0 % most).toNat = F := by omega
      have eGt : (c0 / 16 % (most + 1)).toNat = G := by omega
      have two : 2 ≤ sizeLine := by decide
      -- Sheets(frames, slots, 2)
      refine ⟨_, rfl, _, rfl, ?_⟩
      intro x dx nx ndx nedx
      refine ⟨x, dx, F, G, by rw [← eF, ← eG]; rfl, by omega, by omega, upd_same, fun H2 lf ls k nlf nls A2 L2 => ?_⟩
      have fb : ∀ {H0 H1 : Hp} {u : Addr}, (∀ u o, H0 u = some o → H1 u = some o) → H1 u = none → H0 u = none := fun {H0 H1 u} k h => by
        cases e : H0 u with
        | none => rfl
        | some o => rw [k u o e] at h; cases h
      have kk0 : ∀ u o, H u = some o → upd (upd (upd H dx (.own x)) x (.ins a.CS dx [])) x (.ins a.CS dx []) u = some o := fun u o e => by rw [upd_ne (ne_of_none e nx), upd_ne (ne_of_none e nx), upd_ne (ne_of_none e ndx)]; exact e
      have kH : ∀ u o, H u = some o → H2 u = some o := fun u o e => k u o (by rw [upd_ne (ne_of_none e nx), upd_ne (ne_of_none e ndx)]; exact e) (ne_of_none e nx)
      have nlf0 : H lf = none := by
        cases e : H lf with
        | none => rfl
        | some o => rw [upd_ne (ne_of_none e nx), upd_ne (ne_of_none e ndx), e] at nlf; cases nlf
      have nls0 : H ls = none := by
        cases e : H ls with
        | none => rfl
        | some o => rw [upd_ne (ne_of_none e nx), upd_ne (ne_of_none e ndx), e] at nls; cases nls
      clear k nlf nls ndx nedx kk0
      -- where
      refine ⟨rfl, _, rfl, 1 + c0 % most, rfl, by omega, by omega, fun wf nwf => ?_⟩
      rw [eFt]
      refine lc_none nwf (by omega) fun H3 hwf k3 => ?_
      refine ⟨_, rfl, c0 / 16 % (most + 1), rfl, by omega, by omega, fun ws nws => ?_⟩
      rw [eGt]
      refine lc_none nws (by omega) fun H4 hws k4 => ?_
      refine ⟨two, fun ww nww => ?_⟩
      have k5 : ∀ u o, H4 u = some o → upd H4 ww (.lst [.ref wf, .ref ws]) u = some o := fun u o e => by rw [upd_ne (ne_of_none e nww)]; exact e
      have hww : upd H4 ww (.lst [.ref wf, .ref ws]) ww = some (.lst [.ref wf, .ref ws]) := upd_same
      have k24 : ∀ u o, H2 u = some o → H4 u = some o := fun u o e => k4 u o (k3 u o e)
      have d1 : ww ≠ wf := Ne.symm (ne_of_none (k4 _ _ hwf) nww)
      have d2 : ww ≠ ws := Ne.symm (ne_of_none hws nww)
      have d3 : wf ≠ ws := ne_of_none hwf nws
      generalize upd H4 ww (.lst [.ref wf, .ref ws]) = H5 at k5 hww
      have t5 : Tog a H5 ⟨x, dx, lf, ls, F, G, fun _ => none, 0, 0, 0, 0⟩ ⟨ww, wf, ws, F, G, fun _ => none⟩ 0 := by
        have k25 : ∀ u o, H2 u = some o → H5 u = some o := fun u o e => k5 u o (k24 u o e)
        refine ⟨A2.same fun u o _ e => k25 u o e, L2, ⟨fun i c j h => (nomatch h), fun j c i h => (nomatch h)⟩, ⟨hww, ?_, ?_, fun x c h => (nomatch h)⟩, ⟨d1, d2, d3, fun x c h => (nomatch h), fun x y c c' h => (nomatch h), fun x c h => (nomatch h), fun x c h => (nomatch h)⟩, fun u r wr => ?_, rfl, rfl, rfl, ⟨fun x p h => (nomatch h), fun x y p q' ne h => (nomatch h)⟩, F0, F16, G16⟩
        · show H5 wf = some (.lst (row oV (fun _ => none) false F))
          rw [row_none]; exact k5 _ _ (k4 _ _ hwf)
        · show H5 ws = some (.lst (row oV (fun _ => none) true G))
          rw [row_none]; exact k5 _ _ hws
        · obtain ⟨o, ho⟩ := A2.there r
          rcases wr with e | e | e | ⟨y, c, h, _⟩
          · have := k24 _ _ ho
            rw [e, nww] at this; cases this
          · have ho : H2 u = some o := ho
            rw [e, nwf] at ho; cases ho
          · have := k3 _ _ ho
            rw [e, nws] at this; cases this
          · cases h
      have k05 : ∀ u o, H u = some o → H5 u = some o := fun u o e => k5 u o (k24 u o (kH u o e))
      -- nothing of the two stands in H
      have nReg : ∀ u o, H u = some o → ¬ Reg ⟨x, dx, lf, ls, F, G, fun _ => none, 0, 0, 0, 0⟩ u ∧ ¬ WReg ⟨ww, wf, ws, F, G, fun _ => none⟩ u := fun u o e => by
        refine ⟨fun r => ?_, fun r => ?_⟩
        · rcases r with z | z | z | ⟨y, c, h, _⟩
          · rw [z] at e; rw [show H x = some o from e] at nx; cases nx
          · rw [z] at e; rw [show H lf = some o from e] at nlf0; cases nlf0
          · rw [z] at e; rw [show H ls = some o from e] at nls0; cases nls0
          · cases h
        · rcases r with z | z | z | ⟨y, c, h, _⟩
          · have := k24 _ _ (kH u o e)
            rw [z] at this; rw [show H4 ww = some o from this] at nww; cases nww
          · have := kH u o e
            rw [z] at this; rw [show H2 wf = some o from this] at nwf; cases nwf
          · have := k3 _ _ (kH u o e)
            rw [z] at this; rw [show H3 ws = some o from this] at nws; cases nws
          · cases h
      clear k3 k4 k5 nwf nws nww k24 kH hws hwf hww nx nlf0 nls0 A2 L2
      generalize hS0 : (⟨x, dx, lf, ls, F, G, fun _ => none, 0, 0, 0, 0⟩ : Sh) = S0 at t5 nReg
      generalize hW0 : (⟨ww, wf, ws, F, G, fun _ => none⟩ : Wh) = W0 at t5 nReg
      have eSp : S0.p = x := by rw [← hS0]
      have eWw : W0.w = ww := by rw [← hW0]
      have eSm : ∀ y, S0.m y = none := fun y => by rw [← hS0]
      have eSF : S0.F = F := by rw [← hS0]
      have eSG : S0.G = G := by rw [← hS0]
      clear hS0 hW0
      have none_few : ∀ s i c, S0.m (s, i) = some c → Few c.hs := fun s i c h => by rw [eSm] at h; cases h
      -- ahead
      refine ⟨_, rfl, x, _, _, rfl, by rw [← eSp]; exact t5.sh.p, shF_no (by decide +kernel), S0, by rw [eSp]; rfl, t5.sh, Nat.le_trans t5.F64 (by decide), none_few false, fun H6 lF zF s6 nlF hlF lenF tF => ?_⟩
      have t6 := t5.same s6
      refine ⟨_, rfl, x, _, _, rfl, by rw [← eSp]; exact t6.sh.p, shF_no (by decide +kernel), S0, by rw [eSp]; rfl, t6.sh, Nat.le_trans t6.G64 (by decide), none_few true, fun H7 lS zS s7 nlS hlS lenS tS => ⟨two, fun ah nah => ?_⟩⟩
      have k78 : ∀ u o, H7 u = some o → upd H7 ah (.lst [.ref lF, .ref lS]) u = some o := fun u o e => by rw [upd_ne (ne_of_none e nah)]; exact e
      have hah : upd H7 ah (.lst [.ref lF, .ref lS]) ah = some (.lst [.ref lF, .ref lS]) := upd_same
      generalize upd H7 ah (.lst [.ref lF, .ref lS]) = H8 at k78 hah
      have k58 : ∀ u o, H5 u = some o → H8 u = some o := fun u o e => k78 u o (s7 u o (s6 u o e))
      -- due
      refine ⟨_, rfl, 1 + c0 % most, rfl, by omega, by omega, fun df ndf => ?_⟩
      rw [eFt]
      refine lc_none ndf (by omega) fun H9 hdf k9 => ?_
      refine ⟨_, rfl, c0 / 16 % (most + 1), rfl, by omega, by omega, fun ds nds => ?_⟩
      rw [eGt]
      refine lc_none nds (by omega) fun H10 hds k10 => ?_
      refine ⟨two, fun du ndu => ?_⟩
      have k11 : ∀ u o, H10 u = some o → upd H10 du (.lst [.ref df, .ref ds]) u = some o := fun u o e => by rw [upd_ne (ne_of_none e ndu)]; exact e
      have hdu : upd H10 du (.lst [.ref df, .ref ds]) du = some (.lst [.ref df, .ref ds]) := upd_same
      generalize upd H10 du (.lst [.ref df, .ref ds]) = H11 at k11 hdu
      -- for
      have k811 : ∀ u o, H8 u = some o → H11 u = some o := fun u o e => k11 u o (k10 u o (k9 u o e))
      have k511 : ∀ u o, H5 u = some o → H11 u = some o := fun u o e => k811 u o (k58 u o e)
      have hl11 : SqL K H11 l (ns.map V.int) := sql_mono (fun u o e => k511 u o (k05 u o e)) hl
      refine ⟨_, rfl, 1, rfl, 71, rfl, l, _, rfl, hl11, fun lp nlp => ?_⟩
      obtain ⟨ms, hms, lms⟩ : ∃ ms : List Int, cutV (ns.map V.int) (some 1) (some 71) = ms.map V.int ∧ ms.length ≤ 63 := by
        have h := cutV_length (ns.map V.int) (some 1) (some 71)
        rw [List.length_map] at h
        refine ⟨(ns.drop (HT.sIx (ns.map V.int).length 0 (some 1))).take (HT.sIx (ns.map V.int).length (ns.map V.int).length (some 71) - HT.sIx (ns.map V.int).length 0 (some 1)), ?_, ?_⟩
        · unfold cutV
          rw [List.map_take, List.map_drop]
        · rw [List.length_take, List.length_drop]
          omega
      rw [hms]
      have k12 : ∀ u o, H11 u = some o → upd H11 lp (.lst (ms.map V.int)) u = some o := fun u o e => by rw [upd_ne (ne_of_none e nlp)]; exact e
      have hlp : upd H11 lp (.lst (ms.map V.int)) lp = some (.lst (ms.map V.int)) := upd_same
      generalize upd H11 lp (.lst (ms.map V.int)) = H12 at k12 hlp
      have t12 := t5.same fun u o e => k12 u o (k511 u o e)
      have nR : ∀ u, H5 u = none → ¬ Reg S0 u ∧ ¬ WReg W0 u := fun u h => ⟨fun r => (by
        obtain ⟨o, ho⟩ := t5.sh.there r
        rw [h] at ho; cases ho), fun r => (by
        obtain ⟨o, ho⟩ := t5.wat.there r
        rw [h] at ho; cases ho)⟩
      have oin : ∀ u o, H5 u = none → H12 u = some o → Out S0 W0 H12 u = some o := fun u o h e => out_in e (nR u h).1 (nR u h).2
      have olp : Out S0 W0 H12 lp = some (.lst (ms.map V.int)) := oin lp _ (fb k511 nlp) hlp
      have osc : SqL K (Out S0 W0 H12) l (ns.map V.int) := by
        rcases hl with (h | ⟨ob, h⟩) | h
        · exact .inl (.inl (out_in (k12 _ _ (k511 _ _ (k05 _ _ h))) (nReg _ _ h).1 (nReg _ _ h).2))
        · exact .inl (.inr ⟨ob, out_in (k12 _ _ (k511 _ _ (k05 _ _ h))) (nReg _ _ h).1 (nReg _ _ h).2⟩)
        · exact .inr h
      have k712 : ∀ u o, H7 u = some o → H12 u = some o := fun u o e => k12 u o (k811 u o (k78 u o e))
      have nil_of : ∀ {s i z} {U : Addr → Prop} {H' : Hp}, ToldAt U H' z ((S0.m (s, i)).map pl) → z = .non := fun {s i z U H'} h => by
        rw [eSm] at h; exact h
      have rep : ∀ {m : Nat} {i : Nat} {z : V}, (List.replicate m V.non)[i]? = some z → z = .non := fun {m i z} h => by
        rw [List.getElem?_replicate] at h
        split at h
        · exact (Option.some.inj h).symm
        · cases h
      have lk0 : LikeD (Out S0 W0 H12) 6 (.ref ah) (.ref du) := by
        refine two_like (oin ah _ (fb (fun u o e => s7 u o (s6 u o e)) nah) (k12 _ _ (k811 _ _ hah))) (oin du _ (fb (fun u o e => k10 u o (k9 u o (k58 u o e))) ndu) (k12 _ _ hdu)) ?_ ?_
        · refine rows_like (os := fun _ => none) (oin lF _ nlF (k712 _ _ (s7 _ _ hlF))) (oin df _ (fb k58 ndf) (k12 _ _ (k11 _ _ (k10 _ _ hdf)))) (by rw [List.length_replicate]; exact lenF.trans eSF) (by rw [show zF.length = F from lenF.trans eSF]; omega) (fun i z e => nil_of (tF i z e)) (fun i z e => rep e) (fun i p h => nomatch h)
        · refine rows_like (os := fun _ => none) (oin lS _ (fb s6 nlS) (k712 _ _ hlS)) (oin ds _ (fb (fun u o e => k9 u o (k58 u o e)) nds) (k12 _ _ (k11 _ _ hds))) (by rw [List.length_replicate]; exact lenS.trans eSG) (by rw [show zS.length = G from lenS.trans eSG]; omega) (fun i z e => nil_of (tS i z e)) (fun i z e => rep e) (fun i p h => nomatch h)
      clear tF tS hlF hlS hdf hds hdu hah k9 k10 k11 k12 k78 k58 k811 k511 ndf nds ndu nlp nah nlF nlS hlp s6 s7 t6 lenF lenS nR oin k712 rep nil_of hl11 k05 nReg
      refine ⟨lp, _, rfl, SqL.of (out_of olp).1, ?_⟩
      refine for_it walk_enum (fun i σ H' => ∃ (S : Sh) (W : Wh) (ah du : Addr), (∃ z5 z9 z10 : Option V, σ = [some (.ref l), some (.int most), some (.int (1 + c0 % most)), some (.int (c0 / 16 % (most + 1))), some (.ref x), z5, some (.ref ww), some (.ref ah), some (.ref du), z9, z10]) ∧ S.p = x ∧ W.w = ww ∧ Tog a H' S W i ∧ SqL K (Out S W H') l (ns.map V.int) ∧ Out S W H' lp = some (.lst (ms.map V.int)) ∧ LikeD (Out S W H') 6 (.ref ah) (.ref du)) ⟨S0, W0, ah, du, ⟨_, _, _, rfl⟩, eSp, eWw, t12, osc, olp, lk0⟩ (fun i σ H' _ hh => by
        obtain ⟨S, W, ah, du, _, _, _, _, _, h, _⟩ := hh
        exact SqL.of (out_of h).1) ?_ ?_
      · rintro i x0 σ H1 H2 hi ⟨S, W, ah, du, ⟨z5, z9, z10, rfl⟩, hp, hw, t, hsc, hlp, lk⟩ ⟨tt, x1, x2, rfl, nt, rfl, e1, e2⟩
        injection e1 with e1
        subst e1
        obtain ⟨c, hc, rfl⟩ : ∃ c, ms[i]? = some c ∧ V.int c = x2 := by
          have e2 : (ms.map V.int)[i]? = some x2 := e2
          rw [List.getElem?_map] at e2
          cases e : ms[i]? with
          | none => rw [e] at e2; cases e2
          | some c => rw [e] at e2; exact ⟨c, rfl, Option.some.inj e2⟩
        have hi : i < ms.length := (List.getElem?_eq_some_iff.mp hc).1
        have k2 : ∀ u o, H1 u = some o → upd H1 tt (.tup [.int (i : Nat), .int c]) u = some o := fun u o e => by rw [upd_ne (ne_of_none e nt)]; exact e
        refine ⟨tt, _, rfl, SqT.of upd_same, rfl, _, _, rfl, _, _, rfl, rfl, ?_⟩
        generalize upd H1 tt (.tup [.int (i : Nat), .int c]) = H2 at k2
        have t2 := t.same k2
        have o12 : ∀ u o, Out S W H1 u = some o → Out S W H2 u = some o := out_same k2
        have hsc2 : SqL K H2 l (ns.map V.int) := sql_mono (fun u o e => (out_of (o12 u o e)).1) hsc
        -- number, deed
        refine ⟨_, rfl, l, ns, 0, rfl, hsc2, _, _, rfl, rfl, ⟨by decide, by decide⟩, _, _, rfl, rfl, (by show (0 : Int) < 2; decide), rfl, _, rfl, _, rfl, _, c, i, rfl, by omega, fun z => ?_⟩
        refine ⟨_, rfl, _, rfl, _, rfl, _, rfl, S, W, i, z, by rw [hp, hw]; rfl, t2, by omega, fun H3 S' W' t3 st => ⟨_, rfl, ?_⟩⟩
        refine iteF ?_
        refine ⟨_, rfl, _, rfl, S', W', i + 1, by rw [st.p, st.w, hp, hw]; rfl, t3, by omega, fun H4 k4 => ⟨_, rfl, ?_⟩⟩
        refine iteF ?_
        have t4 := t3.same k4
        have ep : S'.p = x := st.p.trans hp
        have ew : W'.w = ww := st.w.trans hw
        have o14 : ∀ u o, Out S W H1 u = some o → Out S' W' H4 u = some o := fun u o e => out_same k4 u o (out_stay st u o (o12 u o e))
        have hsc4 := sql_mono o14 hsc
        have hlp4 := o14 _ _ hlp
        have lk4 := like_mono o14 lk
        clear o12 hsc2 k2 t2 k4 t3 st lk hlp hsc t
        refine ⟨_, rfl, rfl, _, rfl, ?_⟩
        cases decide (V.int ((i : Nat) : Int) = V.int 7) with
        | false => exact iteF ⟨S', W', ah, du, ⟨_, _, _, rfl⟩, ep, ew, t4, hsc4, hlp4, lk4⟩
        | true =>
          have few := t4.few (by omega)
          refine iteT ⟨_, rfl, x, _, _, rfl, by rw [← ep]; exact t4.sh.p, shF_no (by decide +kernel), S', by rw [ep]; rfl, t4.sh, Nat.le_trans t4.F64 (by decide), fun i c h => few _ c h, fun H6 lF zF s6 nlF hlF lenF tF => ?_⟩
          have t6 := t4.same s6
          refine ⟨_, rfl, x, _, _, rfl, by rw [← ep]; exact t6.sh.p, shF_no (by decide +kernel), S', by rw [ep]; rfl, t6.sh, Nat.le_trans t6.G64 (by decide), fun i c h => few _ c h, fun H7 lS zS s7 nlS hlS lenS tS => ⟨two, fun ah nah => ?_⟩⟩
          have k78 : ∀ u o, H7 u = some o → upd H7 ah (.lst [.ref lF, .ref lS]) u = some o := fun u o e => by rw [upd_ne (ne_of_none e nah)]; exact e
          have hah : upd H7 ah (.lst [.ref lF, .ref lS]) ah = some (.lst [.ref lF, .ref lS]) := upd_same
          generalize upd H7 ah (.lst [.ref lF, .ref lS]) = H8 at k78 hah
          have k68 : ∀ u o, H6 u = some o → H8 u = some o := fun u o e => k78 u o (s7 u o e)
          have k48 : ∀ u o, H4 u = some o → H8 u = some o := fun u o e => k68 u o (s6 u o e)
          have lenF : zF.length = S'.F := lenF
          have lenS : zS.length = S'.G := lenS
          have F64 := t4.F64
          have G64 := t4.G64
          -- copies
          refine ⟨_, rfl, ah, _, _, _, rfl, rfl, SqL.of hah, atI_nat (j := 0) rfl, lF, zF, fun i => (S'.m (false, i)).map pl, rfl, k68 _ _ hlF, by omega, fun i z e => (tF i z e).keep (fun _ _ => trivial) (fun u o _ e => k68 u o e) (fun u vs e => k68 u _ e), fun H9 cF yF k9 ncF hcF lyF' tcF => ?_⟩
          refine ⟨_, rfl, ah, _, _, _, rfl, rfl, SqL.of (k9 _ _ hah), atI_nat (j := 1) rfl, lS, zS, fun i => (S'.m (true, i)).map pl, rfl, k9 _ _ (k78 _ _ hlS), by omega, fun i z e => (tS i z e).keep (fun _ _ => trivial) (fun u o _ e => k9 u o (k78 u o e)) (fun u vs e => k9 u _ (k78 u _ e)), fun H10 cS yS k10 ncS hcS lyS' tcS => ⟨two, fun du ndu => ?_⟩⟩
          have k11 : ∀ u o, H10 u = some o → upd H10 du (.lst [.ref cF, .ref cS]) u = some o := fun u o e => by rw [upd_ne (ne_of_none e ndu)]; exact e
          have hdu : upd H10 du (.lst [.ref cF, .ref cS]) du = some (.lst [.ref cF, .ref cS]) := upd_same
          generalize upd H10 du (.lst [.ref cF, .ref cS]) = H11 at k11 hdu
          have k911 : ∀ u o, H9 u = some o → H11 u = some o := fun u o e => k11 u o (k10 u o e)
          have k811 : ∀ u o, H8 u = some o → H11 u = some o := fun u o e => k911 u o (k9 u o e)
          have k411 : ∀ u o, H4 u = some o → H11 u = some o := fun u o e => k811 u o (k48 u o e)
          have t11 := t4.same k411
          have nR : ∀ u, H4 u = none → ¬ Reg S' u ∧ ¬ WReg W' u := fun u h => ⟨fun r => (by
            obtain ⟨o, ho⟩ := t4.sh.there r
            rw [h] at ho; cases ho), fun r => (by
            obtain ⟨o, ho⟩ := t4.wat.there r
            rw [h] at ho; cases ho)⟩
          have oin : ∀ u o, H4 u = none → H11 u = some o → Out S' W' H11 u = some o := fun u o h e => out_in e (nR u h).1 (nR u h).2
          have o411 : ∀ u o, Out S' W' H4 u = some o → Out S' W' H11 u = some o := out_same k411
          have small : ∀ s i p, (S'.m (s, i)).map pl = some p → p.1.length ≤ 1000 ∧ p.2.1.length ≤ 1000 := fun s i p h => by
            cases e : S'.m (s, i) with
            | none => rw [e] at h; cases h
            | some c =>
              rw [e] at h
              rw [← Option.some.inj h]
              refine ⟨?_, Nat.le_trans (Nat.le_of_lt (few _ c e).1) (by decide)⟩
              show c.xs.length ≤ 1000
              cases hs : isSh (s, i) c with
              | true =>
                have : c.xs.length = 2 := (t4.ok.one _ _ (vw_sh e hs)).two
                omega
              | false =>
                cases s with
                | false => rw [isSh_frame] at hs; cases hs
                | true =>
                  rw [isSh_slot] at hs
                  obtain ⟨f, hf⟩ : ∃ f, c.bd = some f := by
                    cases eb : c.bd with
                    | none => rw [eb] at hs; cases hs
                    | some f => exact ⟨f, rfl⟩
                  obtain ⟨c1, h1, b1⟩ := t4.tw.tw2 i c f e hf
                  obtain ⟨c2, h2, _, ex, _⟩ := t4.tw.tw1 f c1 i h1 b1
                  rw [e] at h2
                  cases h2
                  have : c1.xs.length = 2 := (t4.ok.one _ _ (vw_sh h1 isSh_frame)).two
                  rw [ex]
                  omega
          have fb4 : ∀ {H' : Hp} {u : Addr}, (∀ u o, H4 u = some o → H' u = some o) → H' u = none → H4 u = none := fun k h => fb k h
          have lk11 : LikeD (Out S' W' H11) 6 (.ref ah) (.ref du) := by
            refine two_like (oin ah _ (fb (fun u o e => s7 u o (s6 u o e)) nah) (k811 _ _ hah)) (oin du _ (fb (fun u o e => k10 u o (k9 u o (k48 u o e))) ndu) hdu) ?_ ?_
            · refine rows_like (os := fun i => (S'.m (false, i)).map pl) (oin lF _ nlF (k811 _ _ (k68 _ _ hlF))) (oin cF _ (fb k48 ncF) (k911 _ _ hcF)) lyF'.symm (by omega) (fun i z e => ?_) (fun i z e => ?_) (small false)
              · exact out_told t11 ((tF i z e).keep (fun _ h => h) (fun u o _ e => k811 u o (k68 u o e)) (fun u vs e => k811 u _ (k68 u _ e))) fun u hu => nR u hu.1
              · exact out_told t11 ((tcF i z e).keep (fun _ h => h) (fun u o _ e => k911 u o e) (fun u vs e => k911 u _ e)) fun u hu => nR u (fb k48 hu)
            · refine rows_like (os := fun i => (S'.m (true, i)).map pl) (oin lS _ (fb s6 nlS) (k811 _ _ (k78 _ _ hlS))) (oin cS _ (fb (fun u o e => k9 u o (k48 u o e)) ncS) (k11 _ _ hcS)) lyS'.symm (by omega) (fun i z e => ?_) (fun i z e => ?_) (small true)
              · exact out_told t11 ((tS i z e).keep (fun _ h => h) (fun u o _ e => k811 u o (k78 u o e)) (fun u vs e => k811 u _ (k78 u _ e))) fun u hu => nR u (fb s6 hu.1)
              · exact out_told t11 ((tcS i z e).keep (fun _ h => h) (fun u o _ e => k11 u o e) (fun u vs e => k11 u _ e)) fun u hu => nR u (fb (fun u o e => k9 u o (k48 u o e)) hu)
          exact ⟨S', W', ah, du, ⟨_, _, _, rfl⟩, ep, ew, t11, sql_mono o411 hsc4, o411 _ _ hlp4, lk11⟩
      · rintro σ H1 ⟨S, W, ah, du, ⟨z5, z9, z10, rfl⟩, hp, hw, t, hsc, hlp, lk⟩
        exact ⟨_, rfl, _, rfl, _, _, rfl, like_mono (fun u o e => (out_of e).1) lk, q H1⟩
end
end Fl

set_option Elab.async false
set_option linter.all false
set_option maxRecDepth 100000
set_option maxHeartbeats 0
namespace Fl
open PySem L2
theorem exm_self {K : PySem.W.Frag} {S : Addr} (h1 : PySem.W.subIn K (.ref S) (.type "BaseException") = some true) (h2 : PySem.W.isClsIn K S = true) (h3 : PySem.W.typeIn K (.ref S) = some (.type "type")) (h4 : PySem.W.subIn K (.ref S) (.ref S) = some true) :
    PySem.W.exmOne K (.ref S) (.ref S) = some true := by
  have e1 : (PySem.W.subIn K (.ref S) (.type "BaseException") == some true) = true := by rw [h1] <;> rfl
  have e2 : ((PySem.W.clsIn K S).isSome && PySem.W.typeIn K (.ref S) == some (.type "type")) = true := by
    have h2' : (PySem.W.clsIn K S).isSome = true := h2
    rw [h2', h3] <;> rfl
  show (if (PySem.W.subIn K (.ref S) (.type "BaseException") == some true) = true then (if ((PySem.W.clsIn K S).isSome && PySem.W.typeIn K (.ref S) == some (.type "type")) = true then PySem.W.subIn K (.ref S) (.ref S) else none) else none) = some true
  rw [if_pos e1, if_pos e2]
  exact h4
theorem all_mk {P : Program} {w : World} {K : PySem.W.Frag} {h : Heap} {mg : Str → Option Value} {fa CL CT CS CN fSwept fLyInit fLyIs fLyRow fLyBank fLyShow fStIs fTold fShin fFirst fShInit fLyingAt fCleared fUntw fGoal fEmptied fFresh fBack fHold fLetgo fSetbox fFold fLive fToldF fToldS fCell fLike fMoved fLfresh fLback fRank fAlike fFolded fCopied fTrue fChanged fNumber fDeed fLaw : Addr} (X : K.In h) (G : h.Ns mainGlobals mg) (hfa : mg "law" = some (.ref fa))
    {od1 od2 od3 od4 od5 od6 od7 od8 od9 od10 od11 od12 od13 od14 od15 od16 od17 od18 od19 od20 od21 od22 od23 od24 od25 od26 od27 od28 od29 od30 od31 od32 od33 od34 od35 od36 od37 od38 od39 an1 an2 an3 an4 an5 an6 an7 an8 an9 an10 an11 an12 an13 an14 an15 an16 an17 an18 an19 an20 an21 an22 an23 an24 an25 an26 an27 an28 an29 an30 an31 an32 an33 an34 an35 an36 an37 an38 an39 : Option Addr} {sl1 sl2 sl3 sl4 sl5 sl6 sl7 sl8 sl9 sl10 sl11 sl12 sl13 sl14 sl15 sl16 sl17 sl18 sl19 sl20 sl21 sl22 sl23 sl24 sl25 sl26 sl27 sl28 sl29 sl30 sl31 sl32 sl33 sl34 sl35 sl36 sl37 sl38 sl39 : Array (Option Value)} {oc1 oc2 oc3 oc4 oc5 oc6 oc7 oc8 oc9 oc10 oc11 oc12 oc13 oc14 oc15 oc16 oc17 oc18 oc19 oc20 oc21 oc22 oc23 oc24 oc25 oc26 oc27 oc28 oc29 oc30 oc31 oc32 oc33 oc34 oc35 oc36 oc37 oc38 oc39 kV1 kV2 kV3 kV4 kV5 kV6 kV7 kV8 kV9 kV10 kV11 kV12 kV13 kV14 kV15 kV16 kV17 kV18 kV19 kV20 kV21 kV22 kV23 kV24 kV25 kV26 kV27 kV28 kV29 kV30 kV31 kV32 kV33 kV34 kV35 kV36 kV37 kV38 kV39 dc1 dc2 dc3 dc4 dc5 dc6 dc7 dc8 dc9 dc10 dc11 dc12 dc13 dc14 dc15 dc16 dc17 dc18 dc19 dc20 dc21 dc22 dc23 dc24 dc25 dc26 dc27 dc28 dc29 dc30 dc31 dc32 dc33 dc34 dc35 dc36 dc37 dc38 dc39 pm1 pm2 pm3 pm4 pm5 pm6 pm7 pm8 pm9 pm10 pm11 pm12 pm13 pm14 pm15 pm16 pm17 pm18 pm19 pm20 pm21 pm22 pm23 pm24 pm25 pm26 pm27 pm28 pm29 pm30 pm31 pm32 pm33 pm34 pm35 pm36 pm37 pm38 pm39 cd1 cd2 cd3 cd4 cd5 cd6 cd7 cd8 cd9 cd10 cd11 cd12 cd13 cd14 cd15 cd16 cd17 cd18 cd19 cd20 cd21 cd22 cd23 cd24 cd25 cd26 cd27 cd28 cd29 cd30 cd31 cd32 cd33 cd34 cd35 cd36 cd37 cd38 cd39 ct1 ct2 ct3 ct4 ct5 ct6 ct7 ct8 ct9 ct10 ct11 ct12 ct13 ct14 ct15 ct16 ct17 ct18 ct19 ct20 ct21 ct22 ct23 ct24 ct25 ct26 ct27 ct28 ct29 ct30 ct31 ct32 ct33 ct34 ct35 ct36 ct37 ct38 ct39 : Value}
    (aL : PySem.W.nsIn K mainGlobals "Lying" = some (some (.ref CL)))
    (aT : PySem.W.nsIn K mainGlobals "Stored" = some (some (.ref CT)))
    (aS : PySem.W.nsIn K mainGlobals "Sheets" = some (some (.ref CS)))
    (aN : PySem.W.nsIn K mainGlobals "NoRoom" = some (some (.ref CN)))
    (a_Swept : PySem.W.nsIn K mainGlobals "swept" = some (some (.ref fSwept)))
    (l_Swept : K.lookup fSwept = some ⟨oc1, od1, .func (PySem.W.fnOf "swept" "swept" (defArgs sSwept) (defBody sSwept) (defScope sSwept) .none kV1 dc1 pm1 an1 cd1 ct1), sl1⟩)
    (c_Swept : PySem.W.codeIn K cd1 "swept" = true)
    (k_Swept : PySem.W.keepIn K (.ref fSwept) = true)
    (a_LyInit : PySem.W.findIn K (.ref CL) "__init__" = some (some (.ref fLyInit)))
    (i_LyInit : PySem.W.isFn K (.ref fLyInit) = true)
    (l_LyInit : K.lookup fLyInit = some ⟨oc2, od2, .func (PySem.W.fnOf "__init__" "Lying.__init__" (defArgs sLyInit) (defBody sLyInit) (defScope sLyInit) .none kV2 dc2 pm2 an2 cd2 ct2), sl2⟩)
    (c_LyInit : PySem.W.codeIn K cd2 "Lying.__init__" = true)
    (k_LyInit : PySem.W.keepIn K (.ref fLyInit) = true)
    (a_LyIs : PySem.W.findIn K (.ref CL) "is_sheet" = some (some (.ref fLyIs)))
    (i_LyIs : PySem.W.isFn K (.ref fLyIs) = true)
    (l_LyIs : K.lookup fLyIs = some ⟨oc3, od3, .func (PySem.W.fnOf "is_sheet" "Lying.is_sheet" (defArgs sLyIs) (defBody sLyIs) (defScope sLyIs) .none kV3 dc3 pm3 an3 cd3 ct3), sl3⟩)
    (c_LyIs : PySem.W.codeIn K cd3 "Lying.is_sheet" = true)
    (k_LyIs : PySem.W.keepIn K (.ref fLyIs) = true)
    (a_LyRow : PySem.W.findIn K (.ref CL) "holder_row" = some (some (.ref fLyRow)))
    (i_LyRow : PySem.W.isFn K (.ref fLyRow) = true)
    (l_LyRow : K.lookup fLyRow = some ⟨oc4, od4, .func (PySem.W.fnOf "holder_row" "Lying.holder_row" (defArgs sLyRow) (defBody sLyRow) (defScope sLyRow) .none kV4 dc4 pm4 an4 cd4 ct4), sl4⟩)
    (c_LyRow : PySem.W.codeIn K cd4 "Lying.holder_row" = true)
    (k_LyRow : PySem.W.keepIn K (.ref fLyRow) = true)
    (a_LyBank : PySem.W.findIn K (.ref CL) "is_banked" = some (some (.ref fLyBank)))
    (i_LyBank : PySem.W.isFn K (.ref fLyBank) = true)
    (l_LyBank : K.lookup fLyBank = some ⟨oc5, od5, .func (PySem.W.fnOf "is_banked" "Lying.is_banked" (defArgs sLyBank) (defBody sLyBank) (defScope sLyBank) .none kV5 dc5 pm5 an5 cd5 ct5), sl5⟩)
    (c_LyBank : PySem.W.codeIn K cd5 "Lying.is_banked" = true)
    (k_LyBank : PySem.W.keepIn K (.ref fLyBank) = true)
    (a_LyShow : PySem.W.findIn K (.ref CL) "shown" = some (some (.ref fLyShow)))
    (i_LyShow : PySem.W.isFn K (.ref fLyShow) = true)
    (l_LyShow : K.lookup fLyShow = some ⟨oc6, od6, .func (PySem.W.fnOf "shown" "Lying.shown" (defArgs sLyShow) (defBody sLyShow) (defScope sLyShow) .none kV6 dc6 pm6 an6 cd6 ct6), sl6⟩)
    (c_LyShow : PySem.W.codeIn K cd6 "Lying.shown" = true)
    (k_LyShow : PySem.W.keepIn K (.ref fLyShow) = true)
    (a_StIs : PySem.W.findIn K (.ref CT) "is_sheet" = some (some (.ref fStIs)))
    (i_StIs : PySem.W.isFn K (.ref fStIs) = true)
    (l_StIs : K.lookup fStIs = some ⟨oc7, od7, .func (PySem.W.fnOf "is_sheet" "Stored.is_sheet" (defArgs sStIs) (defBody sStIs) (defScope sStIs) .none kV7 dc7 pm7 an7 cd7 ct7), sl7⟩)
    (c_StIs : PySem.W.codeIn K cd7 "Stored.is_sheet" = true)
    (k_StIs : PySem.W.keepIn K (.ref fStIs) = true)
    (a_Told : PySem.W.nsIn K mainGlobals "told_spots" = some (some (.ref fTold)))
    (l_Told : K.lookup fTold = some ⟨oc8, od8, .func (PySem.W.fnOf "told_spots" "told_spots" (defArgs sTold) (defBody sTold) (defScope sTold) .none kV8 dc8 pm8 an8 cd8 ct8), sl8⟩)
    (c_Told : PySem.W.codeIn K cd8 "told_spots" = true)
    (k_Told : PySem.W.keepIn K (.ref fTold) = true)
    (a_Shin : PySem.W.nsIn K mainGlobals "sheets_in" = some (some (.ref fShin)))
    (l_Shin : K.lookup fShin = some ⟨oc9, od9, .func (PySem.W.fnOf "sheets_in" "sheets_in" (defArgs sShin) (defBody sShin) (defScope sShin) .none kV9 dc9 pm9 an9 cd9 ct9), sl9⟩)
    (c_Shin : PySem.W.codeIn K cd9 "sheets_in" = true)
    (k_Shin : PySem.W.keepIn K (.ref fShin) = true)
    (a_First : PySem.W.nsIn K mainGlobals "first_empty" = some (some (.ref fFirst)))
    (l_First : K.lookup fFirst = some ⟨oc10, od10, .func (PySem.W.fnOf "first_empty" "first_empty" (defArgs sFirst) (defBody sFirst) (defScope sFirst) .none kV10 dc10 pm10 an10 cd10 ct10), sl10⟩)
    (c_First : PySem.W.codeIn K cd10 "first_empty" = true)
    (k_First : PySem.W.keepIn K (.ref fFirst) = true)
    (a_ShInit : PySem.W.findIn K (.ref CS) "__init__" = some (some (.ref fShInit)))
    (i_ShInit : PySem.W.isFn K (.ref fShInit) = true)
    (l_ShInit : K.lookup fShInit = some ⟨oc11, od11, .func (PySem.W.fnOf "__init__" "Sheets.__init__" (defArgs sShInit) (defBody sShInit) (defScope sShInit) .none kV11 dc11 pm11 an11 cd11 ct11), sl11⟩)
    (c_ShInit : PySem.W.codeIn K cd11 "Sheets.__init__" = true)
    (k_ShInit : PySem.W.keepIn K (.ref fShInit) = true)
    (a_LyingAt : PySem.W.findIn K (.ref CS) "lying_at" = some (some (.ref fLyingAt)))
    (i_LyingAt : PySem.W.isFn K (.ref fLyingAt) = true)
    (l_LyingAt : K.lookup fLyingAt = some ⟨oc12, od12, .func (PySem.W.fnOf "lying_at" "Sheets.lying_at" (defArgs sLyingAt) (defBody sLyingAt) (defScope sLyingAt) .none kV12 dc12 pm12 an12 cd12 ct12), sl12⟩)
    (c_LyingAt : PySem.W.codeIn K cd12 "Sheets.lying_at" = true)
    (k_LyingAt : PySem.W.keepIn K (.ref fLyingAt) = true)
    (a_Cleared : PySem.W.findIn K (.ref CS) "cleared" = some (some (.ref fCleared)))
    (i_Cleared : PySem.W.isFn K (.ref fCleared) = true)
    (l_Cleared : K.lookup fCleared = some ⟨oc13, od13, .func (PySem.W.fnOf "cleared" "Sheets.cleared" (defArgs sCleared) (defBody sCleared) (defScope sCleared) .none kV13 dc13 pm13 an13 cd13 ct13), sl13⟩)
    (c_Cleared : PySem.W.codeIn K cd13 "Sheets.cleared" = true)
    (k_Cleared : PySem.W.keepIn K (.ref fCleared) = true)
    (a_Untw : PySem.W.findIn K (.ref CS) "untwinned" = some (some (.ref fUntw)))
    (i_Untw : PySem.W.isFn K (.ref fUntw) = true)
    (l_Untw : K.lookup fUntw = some ⟨oc14, od14, .func (PySem.W.fnOf "untwinned" "Sheets.untwinned" (defArgs sUntw) (defBody sUntw) (defScope sUntw) .none kV14 dc14 pm14 an14 cd14 ct14), sl14⟩)
    (c_Untw : PySem.W.codeIn K cd14 "Sheets.untwinned" = true)
    (k_Untw : PySem.W.keepIn K (.ref fUntw) = true)
    (a_Goal : PySem.W.findIn K (.ref CS) "goal_of" = some (some (.ref fGoal)))
    (i_Goal : PySem.W.isFn K (.ref fGoal) = true)
    (l_Goal : K.lookup fGoal = some ⟨oc15, od15, .func (PySem.W.fnOf "goal_of" "Sheets.goal_of" (defArgs sGoal) (defBody sGoal) (defScope sGoal) .none kV15 dc15 pm15 an15 cd15 ct15), sl15⟩)
    (c_Goal : PySem.W.codeIn K cd15 "Sheets.goal_of" = true)
    (k_Goal : PySem.W.keepIn K (.ref fGoal) = true)
    (a_Emptied : PySem.W.findIn K (.ref CS) "emptied" = some (some (.ref fEmptied)))
    (i_Emptied : PySem.W.isFn K (.ref fEmptied) = true)
    (l_Emptied : K.lookup fEmptied = some ⟨oc16, od16, .func (PySem.W.fnOf "emptied" "Sheets.emptied" (defArgs sEmptied) (defBody sEmptied) (defScope sEmptied) .none kV16 dc16 pm16 an16 cd16 ct16), sl16⟩)
    (c_Emptied : PySem.W.codeIn K cd16 "Sheets.emptied" = true)
    (k_Emptied : PySem.W.keepIn K (.ref fEmptied) = true)
    (a_Fresh : PySem.W.findIn K (.ref CS) "fresh" = some (some (.ref fFresh)))
    (i_Fresh : PySem.W.isFn K (.ref fFresh) = true)
    (l_Fresh : K.lookup fFresh = some ⟨oc17, od17, .func (PySem.W.fnOf "fresh" "Sheets.fresh" (defArgs sFresh) (defBody sFresh) (defScope sFresh) .none kV17 dc17 pm17 an17 cd17 ct17), sl17⟩)
    (c_Fresh : PySem.W.codeIn K cd17 "Sheets.fresh" = true)
    (k_Fresh : PySem.W.keepIn K (.ref fFresh) = true)
    (a_Back : PySem.W.findIn K (.ref CS) "back" = some (some (.ref fBack)))
    (i_Back : PySem.W.isFn K (.ref fBack) = true)
    (l_Back : K.lookup fBack = some ⟨oc18, od18, .func (PySem.W.fnOf "back" "Sheets.back" (defArgs sBack) (defBody sBack) (defScope sBack) .none kV18 dc18 pm18 an18 cd18 ct18), sl18⟩)
    (c_Back : PySem.W.codeIn K cd18 "Sheets.back" = true)
    (k_Back : PySem.W.keepIn K (.ref fBack) = true)
    (a_Hold : PySem.W.findIn K (.ref CS) "hold" = some (some (.ref fHold)))
    (i_Hold : PySem.W.isFn K (.ref fHold) = true)
    (l_Hold : K.lookup fHold = some ⟨oc19, od19, .func (PySem.W.fnOf "hold" "Sheets.hold" (defArgs sHold) (defBody sHold) (defScope sHold) .none kV19 dc19 pm19 an19 cd19 ct19), sl19⟩)
    (c_Hold : PySem.W.codeIn K cd19 "Sheets.hold" = true)
    (k_Hold : PySem.W.keepIn K (.ref fHold) = true)
    (a_Letgo : PySem.W.findIn K (.ref CS) "let_go" = some (some (.ref fLetgo)))
    (i_Letgo : PySem.W.isFn K (.ref fLetgo) = true)
    (l_Letgo : K.lookup fLetgo = some ⟨oc20, od20, .func (PySem.W.fnOf "let_go" "Sheets.let_go" (defArgs sLetgo) (defBody sLetgo) (defScope sLetgo) .none kV20 dc20 pm20 an20 cd20 ct20), sl20⟩)
    (c_Letgo : PySem.W.codeIn K cd20 "Sheets.let_go" = true)
    (k_Letgo : PySem.W.keepIn K (.ref fLetgo) = true)
    (a_Setbox : PySem.W.findIn K (.ref CS) "set_box" = some (some (.ref fSetbox)))
    (i_Setbox : PySem.W.isFn K (.ref fSetbox) = true)
    (l_Setbox : K.lookup fSetbox = some ⟨oc21, od21, .func (PySem.W.fnOf "set_box" "Sheets.set_box" (defArgs sSetbox) (defBody sSetbox) (defScope sSetbox) .none kV21 dc21 pm21 an21 cd21 ct21), sl21⟩)
    (c_Setbox : PySem.W.codeIn K cd21 "Sheets.set_box" = true)
    (k_Setbox : PySem.W.keepIn K (.ref fSetbox) = true)
    (a_Fold : PySem.W.findIn K (.ref CS) "fold" = some (some (.ref fFold)))
    (i_Fold : PySem.W.isFn K (.ref fFold) = true)
    (l_Fold : K.lookup fFold = some ⟨oc22, od22, .func (PySem.W.fnOf "fold" "Sheets.fold" (defArgs sFold) (defBody sFold) (defScope sFold) .none kV22 dc22 pm22 an22 cd22 ct22), sl22⟩)
    (c_Fold : PySem.W.codeIn K cd22 "Sheets.fold" = true)
    (k_Fold : PySem.W.keepIn K (.ref fFold) = true)
    (a_Live : PySem.W.findIn K (.ref CS) "live_sheets" = some (some (.ref fLive)))
    (i_Live : PySem.W.isFn K (.ref fLive) = true)
    (l_Live : K.lookup fLive = some ⟨oc23, od23, .func (PySem.W.fnOf "live_sheets" "Sheets.live_sheets" (defArgs sLive) (defBody sLive) (defScope sLive) .none kV23 dc23 pm23 an23 cd23 ct23), sl23⟩)
    (c_Live : PySem.W.codeIn K cd23 "Sheets.live_sheets" = true)
    (k_Live : PySem.W.keepIn K (.ref fLive) = true)
    (a_ToldF : PySem.W.findIn K (.ref CS) "told_frames" = some (some (.ref fToldF)))
    (i_ToldF : PySem.W.isFn K (.ref fToldF) = true)
    (l_ToldF : K.lookup fToldF = some ⟨oc24, od24, .func (PySem.W.fnOf "told_frames" "Sheets.told_frames" (defArgs sToldF) (defBody sToldF) (defScope sToldF) .none kV24 dc24 pm24 an24 cd24 ct24), sl24⟩)
    (c_ToldF : PySem.W.codeIn K cd24 "Sheets.told_frames" = true)
    (k_ToldF : PySem.W.keepIn K (.ref fToldF) = true)
    (a_ToldS : PySem.W.findIn K (.ref CS) "told_slots" = some (some (.ref fToldS)))
    (i_ToldS : PySem.W.isFn K (.ref fToldS) = true)
    (l_ToldS : K.lookup fToldS = some ⟨oc25, od25, .func (PySem.W.fnOf "told_slots" "Sheets.told_slots" (defArgs sToldS) (defBody sToldS) (defScope sToldS) .none kV25 dc25 pm25 an25 cd25 ct25), sl25⟩)
    (c_ToldS : PySem.W.codeIn K cd25 "Sheets.told_slots" = true)
    (k_ToldS : PySem.W.keepIn K (.ref fToldS) = true)
    (a_Cell : PySem.W.nsIn K mainGlobals "_law_cell" = some (some (.ref fCell)))
    (l_Cell : K.lookup fCell = some ⟨oc26, od26, .func (PySem.W.fnOf "_law_cell" "_law_cell" (defArgs sCell) (defBody sCell) (defScope sCell) .none kV26 dc26 pm26 an26 cd26 ct26), sl26⟩)
    (c_Cell : PySem.W.codeIn K cd26 "_law_cell" = true)
    (k_Cell : PySem.W.keepIn K (.ref fCell) = true)
    (a_Like : PySem.W.nsIn K mainGlobals "_law_like" = some (some (.ref fLike)))
    (l_Like : K.lookup fLike = some ⟨oc27, od27, .func (PySem.W.fnOf "_law_like" "_law_like" (defArgs sLike) (defBody sLike) (defScope sLike) .none kV27 dc27 pm27 an27 cd27 ct27), sl27⟩)
    (c_Like : PySem.W.codeIn K cd27 "_law_like" = true)
    (k_Like : PySem.W.keepIn K (.ref fLike) = true)
    (a_Moved : PySem.W.nsIn K mainGlobals "_law_moved" = some (some (.ref fMoved)))
    (l_Moved : K.lookup fMoved = some ⟨oc28, od28, .func (PySem.W.fnOf "_law_moved" "_law_moved" (defArgs sMoved) (defBody sMoved) (defScope sMoved) .none kV28 dc28 pm28 an28 cd28 ct28), sl28⟩)
    (c_Moved : PySem.W.codeIn K cd28 "_law_moved" = true)
    (k_Moved : PySem.W.keepIn K (.ref fMoved) = true)
    (a_Lfresh : PySem.W.nsIn K mainGlobals "_law_fresh" = some (some (.ref fLfresh)))
    (l_Lfresh : K.lookup fLfresh = some ⟨oc29, od29, .func (PySem.W.fnOf "_law_fresh" "_law_fresh" (defArgs sLfresh) (defBody sLfresh) (defScope sLfresh) .none kV29 dc29 pm29 an29 cd29 ct29), sl29⟩)
    (c_Lfresh : PySem.W.codeIn K cd29 "_law_fresh" = true)
    (k_Lfresh : PySem.W.keepIn K (.ref fLfresh) = true)
    (a_Lback : PySem.W.nsIn K mainGlobals "_law_back" = some (some (.ref fLback)))
    (l_Lback : K.lookup fLback = some ⟨oc30, od30, .func (PySem.W.fnOf "_law_back" "_law_back" (defArgs sLback) (defBody sLback) (defScope sLback) .none kV30 dc30 pm30 an30 cd30 ct30), sl30⟩)
    (c_Lback : PySem.W.codeIn K cd30 "_law_back" = true)
    (k_Lback : PySem.W.keepIn K (.ref fLback) = true)
    (a_Rank : PySem.W.nsIn K mainGlobals "_law_rank" = some (some (.ref fRank)))
    (l_Rank : K.lookup fRank = some ⟨oc31, od31, .func (PySem.W.fnOf "_law_rank" "_law_rank" (defArgs sRank) (defBody sRank) (defScope sRank) .none kV31 dc31 pm31 an31 cd31 ct31), sl31⟩)
    (c_Rank : PySem.W.codeIn K cd31 "_law_rank" = true)
    (k_Rank : PySem.W.keepIn K (.ref fRank) = true)
    (a_Alike : PySem.W.nsIn K mainGlobals "_law_alike" = some (some (.ref fAlike)))
    (l_Alike : K.lookup fAlike = some ⟨oc32, od32, .func (PySem.W.fnOf "_law_alike" "_law_alike" (defArgs sAlike) (defBody sAlike) (defScope sAlike) .none kV32 dc32 pm32 an32 cd32 ct32), sl32⟩)
    (c_Alike : PySem.W.codeIn K cd32 "_law_alike" = true)
    (k_Alike : PySem.W.keepIn K (.ref fAlike) = true)
    (a_Folded : PySem.W.nsIn K mainGlobals "_law_folded" = some (some (.ref fFolded)))
    (l_Folded : K.lookup fFolded = some ⟨oc33, od33, .func (PySem.W.fnOf "_law_folded" "_law_folded" (defArgs sFolded) (defBody sFolded) (defScope sFolded) .none kV33 dc33 pm33 an33 cd33 ct33), sl33⟩)
    (c_Folded : PySem.W.codeIn K cd33 "_law_folded" = true)
    (k_Folded : PySem.W.keepIn K (.ref fFolded) = true)
    (a_Copied : PySem.W.nsIn K mainGlobals "_law_copied" = some (some (.ref fCopied)))
    (l_Copied : K.lookup fCopied = some ⟨oc34, od34, .func (PySem.W.fnOf "_law_copied" "_law_copied" (defArgs sCopied) (defBody sCopied) (defScope sCopied) .none kV34 dc34 pm34 an34 cd34 ct34), sl34⟩)
    (c_Copied : PySem.W.codeIn K cd34 "_law_copied" = true)
    (k_Copied : PySem.W.keepIn K (.ref fCopied) = true)
    (a_True : PySem.W.nsIn K mainGlobals "_law_true" = some (some (.ref fTrue)))
    (l_True : K.lookup fTrue = some ⟨oc35, od35, .func (PySem.W.fnOf "_law_true" "_law_true" (defArgs sTrue) (defBody sTrue) (defScope sTrue) .none kV35 dc35 pm35 an35 cd35 ct35), sl35⟩)
    (c_True : PySem.W.codeIn K cd35 "_law_true" = true)
    (k_True : PySem.W.keepIn K (.ref fTrue) = true)
    (a_Changed : PySem.W.nsIn K mainGlobals "_law_changed" = some (some (.ref fChanged)))
    (l_Changed : K.lookup fChanged = some ⟨oc36, od36, .func (PySem.W.fnOf "_law_changed" "_law_changed" (defArgs sChanged) (defBody sChanged) (defScope sChanged) .none kV36 dc36 pm36 an36 cd36 ct36), sl36⟩)
    (c_Changed : PySem.W.codeIn K cd36 "_law_changed" = true)
    (k_Changed : PySem.W.keepIn K (.ref fChanged) = true)
    (a_Number : PySem.W.nsIn K mainGlobals "_law_number" = some (some (.ref fNumber)))
    (l_Number : K.lookup fNumber = some ⟨oc37, od37, .func (PySem.W.fnOf "_law_number" "_law_number" (defArgs sNumber) (defBody sNumber) (defScope sNumber) .none kV37 dc37 pm37 an37 cd37 ct37), sl37⟩)
    (c_Number : PySem.W.codeIn K cd37 "_law_number" = true)
    (k_Number : PySem.W.keepIn K (.ref fNumber) = true)
    (a_Deed : PySem.W.nsIn K mainGlobals "_law_deed" = some (some (.ref fDeed)))
    (l_Deed : K.lookup fDeed = some ⟨oc38, od38, .func (PySem.W.fnOf "_law_deed" "_law_deed" (defArgs sDeed) (defBody sDeed) (defScope sDeed) .none kV38 dc38 pm38 an38 cd38 ct38), sl38⟩)
    (c_Deed : PySem.W.codeIn K cd38 "_law_deed" = true)
    (k_Deed : PySem.W.keepIn K (.ref fDeed) = true)
    (a_Law : PySem.W.nsIn K mainGlobals "law" = some (some (.ref fLaw)))
    (l_Law : K.lookup fLaw = some ⟨oc39, od39, .func (PySem.W.fnOf "law" "law" (defArgs sLaw) (defBody sLaw) (defScope sLaw) .none kV39 dc39 pm39 an39 cd39 ct39), sl39⟩)
    (c_Law : PySem.W.codeIn K cd39 "law" = true)
    (k_Law : PySem.W.keepIn K (.ref fLaw) = true)
    (t_LyInit : PySem.W.findIn K (.ref CT) "__init__" = some (some (.ref fLyInit)))
    (t_LyRow : PySem.W.findIn K (.ref CT) "holder_row" = some (some (.ref fLyRow)))
    (t_LyBank : PySem.W.findIn K (.ref CT) "is_banked" = some (some (.ref fLyBank)))
    (t_LyShow : PySem.W.findIn K (.ref CT) "shown" = some (some (.ref fLyShow)))
    (pgL : PySem.W.plainGet K CL Str.empty = true)
    (hdL : PySem.W.hasDictIn K CL = true)
    (poL : PySem.W.plainOver K CL = true)
    (saL : PySem.W.findIn K (.ref CL) "__setattr__" = some (some (.builtin "object.__setattr__")))
    (mkL : PySem.W.makesIn K CL = true)
    (kcL : PySem.W.keepIn K (.ref CL) = true)
    (nL_boxes : PySem.W.findIn K (.ref CL) "boxes" = some none)
    (nL_held : PySem.W.findIn K (.ref CL) "held" = some none)
    (nL_bound : PySem.W.findIn K (.ref CL) "bound" = some none)
    (pgT : PySem.W.plainGet K CT Str.empty = true)
    (hdT : PySem.W.hasDictIn K CT = true)
    (poT : PySem.W.plainOver K CT = true)
    (saT : PySem.W.findIn K (.ref CT) "__setattr__" = some (some (.builtin "object.__setattr__")))
    (mkT : PySem.W.makesIn K CT = true)
    (kcT : PySem.W.keepIn K (.ref CT) = true)
    (nT_boxes : PySem.W.findIn K (.ref CT) "boxes" = some none)
    (nT_held : PySem.W.findIn K (.ref CT) "held" = some none)
    (nT_bound : PySem.W.findIn K (.ref CT) "bound" = some none)
    (pgS : PySem.W.plainGet K CS Str.empty = true)
    (hdS : PySem.W.hasDictIn K CS = true)
    (poS : PySem.W.plainOver K CS = true)
    (saS : PySem.W.findIn K (.ref CS) "__setattr__" = some (some (.builtin "object.__setattr__")))
    (mkS : PySem.W.makesIn K CS = true)
    (kcS : PySem.W.keepIn K (.ref CS) = true)
    (nS_size : PySem.W.findIn K (.ref CS) "size" = some none)
    (nS_in_frames : PySem.W.findIn K (.ref CS) "in_frames" = some none)
    (nS_in_slots : PySem.W.findIn K (.ref CS) "in_slots" = some none)
    (nS_stand : PySem.W.findIn K (.ref CS) "stand" = some none)
    (nS_gone_out : PySem.W.findIn K (.ref CS) "gone_out" = some none)
    (nS_gone_elsewhere : PySem.W.findIn K (.ref CS) "gone_elsewhere" = some none)
    (nS_come_back : PySem.W.findIn K (.ref CS) "come_back" = some none)
    (xN : PySem.W.excIn K CN [.type "ValueError", .type "Exception", .type "BaseException", .type "object"] "ValueError.__new__" = true)
    (kN : PySem.W.keepIn K (.ref CN) = true)
    (bN : PySem.W.subIn K (.ref CN) (.type "BaseException") = some true)
    (tN : PySem.W.typeIn K (.ref CN) = some (.type "type"))
    (iN : PySem.W.isClsIn K CN = true)
    (sN : PySem.W.subIn K (.ref CN) (.ref CN) = some true)
    (zlen : PySem.W.nsIn K mainGlobals "len" = some none)
    (zrange : PySem.W.nsIn K mainGlobals "range" = some none)
    (zenumerate : PySem.W.nsIn K mainGlobals "enumerate" = some none)
    (zsorted : PySem.W.nsIn K mainGlobals "sorted" = some none)
    (zisinstance : PySem.W.nsIn K mainGlobals "isinstance" = some none)
    (zlist : PySem.W.nsIn K mainGlobals "list" = some none)
    (ztuple : PySem.W.nsIn K mainGlobals "tuple" = some none)
    (zint : PySem.W.nsIn K mainGlobals "int" = some none)
    (zbool : PySem.W.nsIn K mainGlobals "bool" = some none)
    (zstr : PySem.W.nsIn K mainGlobals "str" = some none)
    : ∃ fd : FuncData, (∀ (s : Shared) (u : Value), BindsTo s fd ⟨[u], []⟩ [("_law_script", u)]) ∧ ∀ base : Heap, K.In base → base.Ns mainGlobals mg → FnOk P w K mg base CX0 lawLevel fa fd ["_law_script"] (spLaw K) := by
  have e : some (Value.ref fa) = some (Value.ref fLaw) := hfa.symm.trans (PySem.W.mg_of X G a_Law)
  have e2 : fLaw = fa := by
    injection e with e
    injection e with e
    exact e.symm
  subst e2
  have T : Top K mg {CL := CL, CT := CT, CS := CS, CN := CN, fSwept := fSwept, dSwept := PySem.W.fnOf "swept" "swept" (defArgs sSwept) (defBody sSwept) (defScope sSwept) .none kV1 dc1 pm1 an1 cd1 ct1, fLyInit := fLyInit, dLyInit := PySem.W.fnOf "__init__" "Lying.__init__" (defArgs sLyInit) (defBody sLyInit) (defScope sLyInit) .none kV2 dc2 pm2 an2 cd2 ct2, fLyIs := fLyIs, dLyIs := PySem.W.fnOf "is_sheet" "Lying.is_sheet" (defArgs sLyIs) (defBody sLyIs) (defScope sLyIs) .none kV3 dc3 pm3 an3 cd3 ct3, fLyRow := fLyRow, dLyRow := PySem.W.fnOf "holder_row" "Lying.holder_row" (defArgs sLyRow) (defBody sLyRow) (defScope sLyRow) .none kV4 dc4 pm4 an4 cd4 ct4, fLyBank := fLyBank, dLyBank := PySem.W.fnOf "is_banked" "Lying.is_banked" (defArgs sLyBank) (defBody sLyBank) (defScope sLyBank) .none kV5 dc5 pm5 an5 cd5 ct5, fLyShow := fLyShow, dLyShow := PySem.W.fnOf "shown" "Lying.shown" (defArgs sLyShow) (defBody sLyShow) (defScope sLyShow) .none kV6 dc6 pm6 an6 cd6 ct6, fStIs := fStIs, dStIs := PySem.W.fnOf "is_sheet" "Stored.is_sheet" (defArgs sStIs) (defBody sStIs) (defScope sStIs) .none kV7 dc7 pm7 an7 cd7 ct7, fTold := fTold, dTold := PySem.W.fnOf "told_spots" "told_spots" (defArgs sTold) (defBody sTold) (defScope sTold) .none kV8 dc8 pm8 an8 cd8 ct8, fShin := fShin, dShin := PySem.W.fnOf "sheets_in" "sheets_in" (defArgs sShin) (defBody sShin) (defScope sShin) .none kV9 dc9 pm9 an9 cd9 ct9, fFirst := fFirst, dFirst := PySem.W.fnOf "first_empty" "first_empty" (defArgs sFirst) (defBody sFirst) (defScope sFirst) .none kV10 dc10 pm10 an10 cd10 ct10, fShInit := fShInit, dShInit := PySem.W.fnOf "__init__" "Sheets.__init__" (defArgs sShInit) (defBody sShInit) (defScope sShInit) .none kV11 dc11 pm11 an11 cd11 ct11, fLyingAt := fLyingAt, dLyingAt := PySem.W.fnOf "lying_at" "Sheets.lying_at" (defArgs sLyingAt) (defBody sLyingAt) (defScope sLyingAt) .none kV12 dc12 pm12 an12 cd12 ct12, fCleared := fCleared, dCleared := PySem.W.fnOf "cleared" "Sheets.cleared" (defArgs sCleared) (defBody sCleared) (defScope sCleared) .none kV13 dc13 pm13 an13 cd13 ct13, fUntw := fUntw, dUntw := PySem.W.fnOf "untwinned" "Sheets.untwinned" (defArgs sUntw) (defBody sUntw) (defScope sUntw) .none kV14 dc14 pm14 an14 cd14 ct14, fGoal := fGoal, dGoal := PySem.W.fnOf "goal_of" "Sheets.goal_of" (defArgs sGoal) (defBody sGoal) (defScope sGoal) .none kV15 dc15 pm15 an15 cd15 ct15, fEmptied := fEmptied, dEmptied := PySem.W.fnOf "emptied" "Sheets.emptied" (defArgs sEmptied) (defBody sEmptied) (defScope sEmptied) .none kV16 dc16 pm16 an16 cd16 ct16, fFresh := fFresh, dFresh := PySem.W.fnOf "fresh" "Sheets.fresh" (defArgs sFresh) (defBody sFresh) (defScope sFresh) .none kV17 dc17 pm17 an17 cd17 ct17, fBack := fBack, dBack := PySem.W.fnOf "back" "Sheets.back" (defArgs sBack) (defBody sBack) (defScope sBack) .none kV18 dc18 pm18 an18 cd18 ct18, fHold := fHold, dHold := PySem.W.fnOf "hold" "Sheets.hold" (defArgs sHold) (defBody sHold) (defScope sHold) .none kV19 dc19 pm19 an19 cd19 ct19, fLetgo := fLetgo, dLetgo := PySem.W.fnOf "let_go" "Sheets.let_go" (defArgs sLetgo) (defBody sLetgo) (defScope sLetgo) .none kV20 dc20 pm20 an20 cd20 ct20, fSetbox := fSetbox, dSetbox := PySem.W.fnOf "set_box" "Sheets.set_box" (defArgs sSetbox) (defBody sSetbox) (defScope sSetbox) .none kV21 dc21 pm21 an21 cd21 ct21, fFold := fFold, dFold := PySem.W.fnOf "fold" "Sheets.fold" (defArgs sFold) (defBody sFold) (defScope sFold) .none kV22 dc22 pm22 an22 cd22 ct22, fLive := fLive, dLive := PySem.W.fnOf "live_sheets" "Sheets.live_sheets" (defArgs sLive) (defBody sLive) (defScope sLive) .none kV23 dc23 pm23 an23 cd23 ct23, fToldF := fToldF, dToldF := PySem.W.fnOf "told_frames" "Sheets.told_frames" (defArgs sToldF) (defBody sToldF) (defScope sToldF) .none kV24 dc24 pm24 an24 cd24 ct24, fToldS := fToldS, dToldS := PySem.W.fnOf "told_slots" "Sheets.told_slots" (defArgs sToldS) (defBody sToldS) (defScope sToldS) .none kV25 dc25 pm25 an25 cd25 ct25, fCell := fCell, dCell := PySem.W.fnOf "_law_cell" "_law_cell" (defArgs sCell) (defBody sCell) (defScope sCell) .none kV26 dc26 pm26 an26 cd26 ct26, fLike := fLike, dLike := PySem.W.fnOf "_law_like" "_law_like" (defArgs sLike) (defBody sLike) (defScope sLike) .none kV27 dc27 pm27 an27 cd27 ct27, fMoved := fMoved, dMoved := PySem.W.fnOf "_law_moved" "_law_moved" (defArgs sMoved) (defBody sMoved) (defScope sMoved) .none kV28 dc28 pm28 an28 cd28 ct28, fLfresh := fLfresh, dLfresh := PySem.W.fnOf "_law_fresh" "_law_fresh" (defArgs sLfresh) (defBody sLfresh) (defScope sLfresh) .none kV29 dc29 pm29 an29 cd29 ct29, fLback := fLback, dLback := PySem.W.fnOf "_law_back" "_law_back" (defArgs sLback) (defBody sLback) (defScope sLback) .none kV30 dc30 pm30 an30 cd30 ct30, fRank := fRank, dRank := PySem.W.fnOf "_law_rank" "_law_rank" (defArgs sRank) (defBody sRank) (defScope sRank) .none kV31 dc31 pm31 an31 cd31 ct31, fAlike := fAlike, dAlike := PySem.W.fnOf "_law_alike" "_law_alike" (defArgs sAlike) (defBody sAlike) (defScope sAlike) .none kV32 dc32 pm32 an32 cd32 ct32, fFolded := fFolded, dFolded := PySem.W.fnOf "_law_folded" "_law_folded" (defArgs sFolded) (defBody sFolded) (defScope sFolded) .none kV33 dc33 pm33 an33 cd33 ct33, fCopied := fCopied, dCopied := PySem.W.fnOf "_law_copied" "_law_copied" (defArgs sCopied) (defBody sCopied) (defScope sCopied) .none kV34 dc34 pm34 an34 cd34 ct34, fTrue := fTrue, dTrue := PySem.W.fnOf "_law_true" "_law_true" (defArgs sTrue) (defBody sTrue) (defScope sTrue) .none kV35 dc35 pm35 an35 cd35 ct35, fChanged := fChanged, dChanged := PySem.W.fnOf "_law_changed" "_law_changed" (defArgs sChanged) (defBody sChanged) (defScope sChanged) .none kV36 dc36 pm36 an36 cd36 ct36, fNumber := fNumber, dNumber := PySem.W.fnOf "_law_number" "_law_number" (defArgs sNumber) (defBody sNumber) (defScope sNumber) .none kV37 dc37 pm37 an37 cd37 ct37, fDeed := fDeed, dDeed := PySem.W.fnOf "_law_deed" "_law_deed" (defArgs sDeed) (defBody sDeed) (defScope sDeed) .none kV38 dc38 pm38 an38 cd38 ct38, fLaw := fLaw, dLaw := PySem.W.fnOf "law" "law" (defArgs sLaw) (defBody sLaw) (defScope sLaw) .none kV39 dc39 pm39 an39 cd39 ct39} := {
    clL := ⟨pgL, hdL, poL, saL⟩
    mgL := PySem.W.mg_of X G aL
    nL_boxes := nL_boxes
    nL_held := nL_held
    nL_bound := nL_bound
    clT := ⟨pgT, hdT, poT, saT⟩
    mgT := PySem.W.mg_of X G aT
    nT_boxes := nT_boxes
    nT_held := nT_held
    nT_bound := nT_bound
    clS := ⟨pgS, hdS, poS, saS⟩
    mgS := PySem.W.mg_of X G aS
    nS_size := nS_size
    nS_in_frames := nS_in_frames
    nS_in_slots := nS_in_slots
    nS_stand := nS_stand
    nS_gone_out := nS_gone_out
    nS_gone_elsewhere := nS_gone_elsewhere
    nS_come_back := nS_come_back
    MkL := ⟨mkL, a_LyInit, i_LyInit, kcL⟩
    MkT := ⟨mkT, t_LyInit, i_LyInit, kcT⟩
    MkS := ⟨mkS, a_ShInit, i_ShInit, kcS⟩
    gN := PySem.W.mg_of X G aN
    xN := xN
    kN := kN
    bN := bN
    tN := tN
    eN := exm_self bN iN tN sN
    zlen := PySem.W.mg_none_of X G zlen
    zrange := PySem.W.mg_none_of X G zrange
    zenumerate := PySem.W.mg_none_of X G zenumerate
    zsorted := PySem.W.mg_none_of X G zsorted
    zisinstance := PySem.W.mg_none_of X G zisinstance
    zlist := PySem.W.mg_none_of X G zlist
    ztuple := PySem.W.mg_none_of X G ztuple
    zint := PySem.W.mg_none_of X G zint
    zbool := PySem.W.mg_none_of X G zbool
    zstr := PySem.W.mg_none_of X G zstr
    FSwept := fun_mk (st := sSwept) l_Swept c_Swept k_Swept
    bSwept := (fun_mk (st := sSwept) l_Swept c_Swept k_Swept).binds (ps := ["marks", "hand"]) fun _ _ _ _ _ _ us hl => match us, hl with | [_, _], _ => rfl
    gSwept := PySem.W.mg_of X G a_Swept
    FLyInit := fun_mk (st := sLyInit) l_LyInit c_LyInit k_LyInit
    bLyInit := (fun_mk (st := sLyInit) l_LyInit c_LyInit k_LyInit).binds (ps := ["self", "boxes", "held", "bound"]) fun _ _ _ _ _ _ us hl => match us, hl with | [_, _, _, _], _ => rfl
    mLyInitL := ⟨a_LyInit, i_LyInit, k_LyInit⟩
    mLyInitT := ⟨t_LyInit, i_LyInit, k_LyInit⟩
    FLyIs := fun_mk (st := sLyIs) l_LyIs c_LyIs k_LyIs
    bLyIs := (fun_mk (st := sLyIs) l_LyIs c_LyIs k_LyIs).binds (ps := ["self"]) fun _ _ _ _ _ _ us hl => match us, hl with | [_], _ => rfl
    mLyIs := ⟨a_LyIs, i_LyIs, k_LyIs⟩
    FLyRow := fun_mk (st := sLyRow) l_LyRow c_LyRow k_LyRow
    bLyRow := (fun_mk (st := sLyRow) l_LyRow c_LyRow k_LyRow).binds (ps := ["self"]) fun _ _ _ _ _ _ us hl => match us, hl with | [_], _ => rfl
    mLyRowL := ⟨a_LyRow, i_LyRow, k_LyRow⟩
    mLyRowT := ⟨t_LyRow, i_LyRow, k_LyRow⟩
    FLyBank := fun_mk (st := sLyBank) l_LyBank c_LyBank k_LyBank
    bLyBank := (fun_mk (st := sLyBank) l_LyBank c_LyBank k_LyBank).binds (ps := ["self"]) fun _ _ _ _ _ _ us hl => match us, hl with | [_], _ => rfl
    mLyBankL := ⟨a_LyBank, i_LyBank, k_LyBank⟩
    mLyBankT := ⟨t_LyBank, i_LyBank, k_LyBank⟩
    FLyShow := fun_mk (st := sLyShow) l_LyShow c_LyShow k_LyShow
    bLyShow := (fun_mk (st := sLyShow) l_LyShow c_LyShow k_LyShow).binds (ps := ["self"]) fun _ _ _ _ _ _ us hl => match us, hl with | [_], _ => rfl
    mLyShowL := ⟨a_LyShow, i_LyShow, k_LyShow⟩
    mLyShowT := ⟨t_LyShow, i_LyShow, k_LyShow⟩
    FStIs := fun_mk (st := sStIs) l_StIs c_StIs k_StIs
    bStIs := (fun_mk (st := sStIs) l_StIs c_StIs k_StIs).binds (ps := ["self"]) fun _ _ _ _ _ _ us hl => match us, hl with | [_], _ => rfl
    mStIs := ⟨a_StIs, i_StIs, k_StIs⟩
    FTold := fun_mk (st := sTold) l_Told c_Told k_Told
    bTold := (fun_mk (st := sTold) l_Told c_Told k_Told).binds (ps := ["spots"]) fun _ _ _ _ _ _ us hl => match us, hl with | [_], _ => rfl
    gTold := PySem.W.mg_of X G a_Told
    FShin := fun_mk (st := sShin) l_Shin c_Shin k_Shin
    bShin := (fun_mk (st := sShin) l_Shin c_Shin k_Shin).binds (ps := ["spots"]) fun _ _ _ _ _ _ us hl => match us, hl with | [_], _ => rfl
    gShin := PySem.W.mg_of X G a_Shin
    FFirst := fun_mk (st := sFirst) l_First c_First k_First
    bFirst := (fun_mk (st := sFirst) l_First c_First k_First).binds (ps := ["spots"]) fun _ _ _ _ _ _ us hl => match us, hl with | [_], _ => rfl
    gFirst := PySem.W.mg_of X G a_First
    FShInit := fun_mk (st := sShInit) l_ShInit c_ShInit k_ShInit
    bShInit := (fun_mk (st := sShInit) l_ShInit c_ShInit k_ShInit).binds (ps := ["self", "frames", "slots", "size"]) fun _ _ _ _ _ _ us hl => match us, hl with | [_, _, _, _], _ => rfl
    mShInit := ⟨a_ShInit, i_ShInit, k_ShInit⟩
    FLyingAt := fun_mk (st := sLyingAt) l_LyingAt c_LyingAt k_LyingAt
    bLyingAt := (fun_mk (st := sLyingAt) l_LyingAt c_LyingAt k_LyingAt).binds (ps := ["self", "spot"]) fun _ _ _ _ _ _ us hl => match us, hl with | [_, _], _ => rfl
    mLyingAt := ⟨a_LyingAt, i_LyingAt, k_LyingAt⟩
    FCleared := fun_mk (st := sCleared) l_Cleared c_Cleared k_Cleared
    bCleared := (fun_mk (st := sCleared) l_Cleared c_Cleared k_Cleared).binds (ps := ["self", "spot"]) fun _ _ _ _ _ _ us hl => match us, hl with | [_, _], _ => rfl
    mCleared := ⟨a_Cleared, i_Cleared, k_Cleared⟩
    FUntw := fun_mk (st := sUntw) l_Untw c_Untw k_Untw
    bUntw := (fun_mk (st := sUntw) l_Untw c_Untw k_Untw).binds (ps := ["self", "frame"]) fun _ _ _ _ _ _ us hl => match us, hl with | [_, _], _ => rfl
    mUntw := ⟨a_Untw, i_Untw, k_Untw⟩
    FGoal := fun_mk (st := sGoal) l_Goal c_Goal k_Goal
    bGoal := (fun_mk (st := sGoal) l_Goal c_Goal k_Goal).binds (ps := ["self", "frame", "slot"]) fun _ _ _ _ _ _ us hl => match us, hl with | [_, _, _], _ => rfl
    mGoal := ⟨a_Goal, i_Goal, k_Goal⟩
    FEmptied := fun_mk (st := sEmptied) l_Emptied c_Emptied k_Emptied
    bEmptied := (fun_mk (st := sEmptied) l_Emptied c_Emptied k_Emptied).binds (ps := ["self", "marks", "slot"]) fun _ _ _ _ _ _ us hl => match us, hl with | [_, _, _], _ => rfl
    mEmptied := ⟨a_Emptied, i_Emptied, k_Emptied⟩
    FFresh := fun_mk (st := sFresh) l_Fresh c_Fresh k_Fresh
    bFresh := (fun_mk (st := sFresh) l_Fresh c_Fresh k_Fresh).binds (ps := ["self", "sheet", "holder", "marks"]) fun _ _ _ _ _ _ us hl => match us, hl with | [_, _, _, _], _ => rfl
    mFresh := ⟨a_Fresh, i_Fresh, k_Fresh⟩
    FBack := fun_mk (st := sBack) l_Back c_Back k_Back
    bBack := (fun_mk (st := sBack) l_Back c_Back k_Back).binds (ps := ["self", "slot", "marks"]) fun _ _ _ _ _ _ us hl => match us, hl with | [_, _, _], _ => rfl
    mBack := ⟨a_Back, i_Back, k_Back⟩
    FHold := fun_mk (st := sHold) l_Hold c_Hold k_Hold
    bHold := (fun_mk (st := sHold) l_Hold c_Hold k_Hold).binds (ps := ["self", "spot", "holder"]) fun _ _ _ _ _ _ us hl => match us, hl with | [_, _, _], _ => rfl
    mHold := ⟨a_Hold, i_Hold, k_Hold⟩
    FLetgo := fun_mk (st := sLetgo) l_Letgo c_Letgo k_Letgo
    bLetgo := (fun_mk (st := sLetgo) l_Letgo c_Letgo k_Letgo).binds (ps := ["self", "spot", "holder"]) fun _ _ _ _ _ _ us hl => match us, hl with | [_, _, _], _ => rfl
    mLetgo := ⟨a_Letgo, i_Letgo, k_Letgo⟩
    FSetbox := fun_mk (st := sSetbox) l_Setbox c_Setbox k_Setbox
    bSetbox := (fun_mk (st := sSetbox) l_Setbox c_Setbox k_Setbox).binds (ps := ["self", "frame", "box", "value"]) fun _ _ _ _ _ _ us hl => match us, hl with | [_, _, _, _], _ => rfl
    mSetbox := ⟨a_Setbox, i_Setbox, k_Setbox⟩
    FFold := fun_mk (st := sFold) l_Fold c_Fold k_Fold
    bFold := (fun_mk (st := sFold) l_Fold c_Fold k_Fold).binds (ps := ["self"]) fun _ _ _ _ _ _ us hl => match us, hl with | [_], _ => rfl
    mFold := ⟨a_Fold, i_Fold, k_Fold⟩
    FLive := fun_mk (st := sLive) l_Live c_Live k_Live
    bLive := (fun_mk (st := sLive) l_Live c_Live k_Live).binds (ps := ["self"]) fun _ _ _ _ _ _ us hl => match us, hl with | [_], _ => rfl
    mLive := ⟨a_Live, i_Live, k_Live⟩
    FToldF := fun_mk (st := sToldF) l_ToldF c_ToldF k_ToldF
    bToldF := (fun_mk (st := sToldF) l_ToldF c_ToldF k_ToldF).binds (ps := ["self"]) fun _ _ _ _ _ _ us hl => match us, hl with | [_], _ => rfl
    mToldF := ⟨a_ToldF, i_ToldF, k_ToldF⟩
    FToldS := fun_mk (st := sToldS) l_ToldS c_ToldS k_ToldS
    bToldS := (fun_mk (st := sToldS) l_ToldS c_ToldS k_ToldS).binds (ps := ["self"]) fun _ _ _ _ _ _ us hl => match us, hl with | [_], _ => rfl
    mToldS := ⟨a_ToldS, i_ToldS, k_ToldS⟩
    FCell := fun_mk (st := sCell) l_Cell c_Cell k_Cell
    bCell := (fun_mk (st := sCell) l_Cell c_Cell k_Cell).binds (ps := ["_law_script", "_law_k"]) fun _ _ _ _ _ _ us hl => match us, hl with | [_, _], _ => rfl
    gCell := PySem.W.mg_of X G a_Cell
    FLike := fun_mk (st := sLike) l_Like c_Like k_Like
    bLike := (fun_mk (st := sLike) l_Like c_Like k_Like).binds (ps := ["_law_found", "_law_due"]) fun _ _ _ _ _ _ us hl => match us, hl with | [_, _], _ => rfl
    gLike := PySem.W.mg_of X G a_Like
    FMoved := fun_mk (st := sMoved) l_Moved c_Moved k_Moved
    bMoved := (fun_mk (st := sMoved) l_Moved c_Moved k_Moved).binds (ps := ["_law_where", "_law_found", "_law_one"]) fun _ _ _ _ _ _ us hl => match us, hl with | [_, _, _], _ => rfl
    gMoved := PySem.W.mg_of X G a_Moved
    FLfresh := fun_mk (st := sLfresh) l_Lfresh c_Lfresh k_Lfresh
    bLfresh := (fun_mk (st := sLfresh) l_Lfresh c_Lfresh k_Lfresh).binds (ps := ["_law_sheets", "_law_where", "_law_one", "_law_marks"]) fun _ _ _ _ _ _ us hl => match us, hl with | [_, _, _, _], _ => rfl
    gLfresh := PySem.W.mg_of X G a_Lfresh
    FLback := fun_mk (st := sLback) l_Lback c_Lback k_Lback
    bLback := (fun_mk (st := sLback) l_Lback c_Lback k_Lback).binds (ps := ["_law_sheets", "_law_where", "_law_slot", "_law_marks"]) fun _ _ _ _ _ _ us hl => match us, hl with | [_, _, _, _], _ => rfl
    gLback := PySem.W.mg_of X G a_Lback
    FRank := fun_mk (st := sRank) l_Rank c_Rank k_Rank
    bRank := (fun_mk (st := sRank) l_Rank c_Rank k_Rank).binds (ps := ["_law_where", "_law_spot"]) fun _ _ _ _ _ _ us hl => match us, hl with | [_, _], _ => rfl
    gRank := PySem.W.mg_of X G a_Rank
    FAlike := fun_mk (st := sAlike) l_Alike c_Alike k_Alike
    bAlike := (fun_mk (st := sAlike) l_Alike c_Alike k_Alike).binds (ps := ["_law_where"]) fun _ _ _ _ _ _ us hl => match us, hl with | [_], _ => rfl
    gAlike := PySem.W.mg_of X G a_Alike
    FFolded := fun_mk (st := sFolded) l_Folded c_Folded k_Folded
    bFolded := (fun_mk (st := sFolded) l_Folded c_Folded k_Folded).binds (ps := ["_law_sheets", "_law_where"]) fun _ _ _ _ _ _ us hl => match us, hl with | [_, _], _ => rfl
    gFolded := PySem.W.mg_of X G a_Folded
    FCopied := fun_mk (st := sCopied) l_Copied c_Copied k_Copied
    bCopied := (fun_mk (st := sCopied) l_Copied c_Copied k_Copied).binds (ps := ["_law_row"]) fun _ _ _ _ _ _ us hl => match us, hl with | [_], _ => rfl
    gCopied := PySem.W.mg_of X G a_Copied
    FTrue := fun_mk (st := sTrue) l_True c_True k_True
    bTrue := (fun_mk (st := sTrue) l_True c_True k_True).binds (ps := ["_law_sheets", "_law_where"]) fun _ _ _ _ _ _ us hl => match us, hl with | [_, _], _ => rfl
    gTrue := PySem.W.mg_of X G a_True
    FChanged := fun_mk (st := sChanged) l_Changed c_Changed k_Changed
    bChanged := (fun_mk (st := sChanged) l_Changed c_Changed k_Changed).binds (ps := ["_law_sheets", "_law_where", "_law_spot", "_law_way", "_law_number_here", "_law_holder"]) fun _ _ _ _ _ _ us hl => match us, hl with | [_, _, _, _, _, _], _ => rfl
    gChanged := PySem.W.mg_of X G a_Changed
    FNumber := fun_mk (st := sNumber) l_Number c_Number k_Number
    bNumber := (fun_mk (st := sNumber) l_Number c_Number k_Number).binds (ps := ["_law_digits", "_law_cell_here", "_law_k"]) fun _ _ _ _ _ _ us hl => match us, hl with | [_, _, _], _ => rfl
    gNumber := PySem.W.mg_of X G a_Number
    FDeed := fun_mk (st := sDeed) l_Deed c_Deed k_Deed
    bDeed := (fun_mk (st := sDeed) l_Deed c_Deed k_Deed).binds (ps := ["_law_sheets", "_law_where", "_law_number_here", "_law_k"]) fun _ _ _ _ _ _ us hl => match us, hl with | [_, _, _, _], _ => rfl
    gDeed := PySem.W.mg_of X G a_Deed
    FLaw := fun_mk (st := sLaw) l_Law c_Law k_Law
    bLaw := (fun_mk (st := sLaw) l_Law c_Law k_Law).binds (ps := ["_law_script"]) fun _ _ _ _ _ _ us hl => match us, hl with | [_], _ => rfl
    gLaw := PySem.W.mg_of X G a_Law
  }
  exact ⟨_, fun s u => .of_eq rfl, fun base _ _ => ok_law T⟩
theorem walk_law {l : PySem.W.OpenLaw} {q : Program} {loose : List Str} {XP : (Str → Option Value) → Heap → Prop} {YP : World → Heap → Prop} {d : DefRec} {K : Params → PySem.W.Frag} (hn : l.most = some 63) (hdf : d.params.defaults = [])
    (hY : ∀ (w : World) (h : Heap), YP w h → (K w.params).In h)
    (F : ∀ (w : World) (mg : Str → Option Value) (fa : Addr) (h : Heap), (K w.params).In h → h.Ns mainGlobals mg → mg d.name = some (.ref fa) →
      ∃ fd : FuncData, (∀ (s : Shared) (u : Value), BindsTo s fd ⟨[u], []⟩ [("_law_script", u)]) ∧ ∀ base : Heap, (K w.params).In base → base.Ns mainGlobals mg → FnOk l.prog w (K w.params) mg base CX0 lawLevel fa fd ["_law_script"] (spLaw (K w.params))) :
    PySem.W.WalkO q loose XP YP l.row.toRowW d [] (fun f vs => PySem.call f vs) :=
  L2.walk_of (n := 63) (k := lawLevel) (x := "_law_script") (CX := fun _ => CX0) (sp := fun w => spLaw (K w.params)) hn (by decide) hdf ⟨rfl, by decide, by decide⟩ hY F (fun _ _ a ns hl _ hS => ⟨a, ns, rfl, hS, hl, fun _ => rfl⟩) fun _ _ _ _ _ z => z
end Fl
open PySem PySem.W PyProof.Rows in
set_option maxRecDepth 100000 in
set_option maxHeartbeats 0 in
theorem PySem.Challenge.cw_frameland_k68_sheets_any_row_holds : PySem.Challenge.rw_frameland_k68_sheets_any_row.Holds := by
  w_on; o_law; k_head; (case hw => w_witness2)
  k_fill
  refine Fl.walk_law (l := PySem.Challenge.rw_frameland_k68_sheets_any_row) rfl rfl (fun w h Y => PySem.W.kIn_of Y) ?F
  case F =>
    intro w mg fa h KX G hmg
    refine' Fl.all_mk KX G hmg ?aL ?aT ?aS ?aN ?a_Swept ?l_Swept ?c_Swept ?k_Swept ?a_LyInit ?i_LyInit ?l_LyInit ?c_LyInit ?k_LyInit ?a_LyIs ?i_LyIs ?l_LyIs ?c_LyIs ?k_LyIs ?a_LyRow ?i_LyRow ?l_LyRow ?c_LyRow ?k_LyRow ?a_LyBank ?i_LyBank ?l_LyBank ?c_LyBank ?k_LyBank ?a_LyShow ?i_LyShow ?l_LyShow ?c_LyShow ?k_LyShow ?a_StIs ?i_StIs ?l_StIs ?c_StIs ?k_StIs ?a_Told ?l_Told ?c_Told ?k_Told ?a_Shin ?l_Shin ?c_Shin ?k_Shin ?a_First ?l_First ?c_First ?k_First ?a_ShInit ?i_ShInit ?l_ShInit ?c_ShInit ?k_ShInit ?a_LyingAt ?i_LyingAt ?l_LyingAt ?c_LyingAt ?k_LyingAt ?a_Cleared ?i_Cleared ?l_Cleared ?c_Cleared ?k_Cleared ?a_Untw ?i_Untw ?l_Untw ?c_Untw ?k_Untw ?a_Goal ?i_Goal ?l_Goal ?c_Goal ?k_Goal ?a_Emptied ?i_Emptied ?l_Emptied ?c_Emptied ?k_Emptied ?a_Fresh ?i_Fresh ?l_Fresh ?c_Fresh ?k_Fresh ?a_Back ?i_Back ?l_Back ?c_Back ?k_Back ?a_Hold ?i_Hold ?l_Hold ?c_Hold ?k_Hold ?a_Letgo ?i_Letgo ?l_Letgo ?c_Letgo ?k_Letgo ?a_Setbox ?i_Setbox ?l_Setbox ?c_Setbox ?k_Setbox ?a_Fold ?i_Fold ?l_Fold ?c_Fold ?k_Fold ?a_Live ?i_Live ?l_Live ?c_Live ?k_Live ?a_ToldF ?i_ToldF ?l_ToldF ?c_ToldF ?k_ToldF ?a_ToldS ?i_ToldS ?l_ToldS ?c_ToldS ?k_ToldS ?a_Cell ?l_Cell ?c_Cell ?k_Cell ?a_Like ?l_Like ?c_Like ?k_Like ?a_Moved ?l_Moved ?c_Moved ?k_Moved ?a_Lfresh ?l_Lfresh ?c_Lfresh ?k_Lfresh ?a_Lback ?l_Lback ?c_Lback ?k_Lback ?a_Rank ?l_Rank ?c_Rank ?k_Rank ?a_Alike ?l_Alike ?c_Alike ?k_Alike ?a_Folded ?l_Folded ?c_Folded ?k_Folded ?a_Copied ?l_Copied ?c_Copied ?k_Copied ?a_True ?l_True ?c_True ?k_True ?a_Changed ?l_Changed ?c_Changed ?k_Changed ?a_Number ?l_Number ?c_Number ?k_Number ?a_Deed ?l_Deed ?c_Deed ?k_Deed ?a_Law ?l_Law ?c_Law ?k_Law ?t_LyInit ?t_LyRow ?t_LyBank ?t_LyShow ?pgL ?hdL ?poL ?saL ?mkL ?kcL ?nL_boxes ?nL_held ?nL_bound ?pgT ?hdT ?poT ?saT ?mkT ?kcT ?nT_boxes ?nT_held ?nT_bound ?pgS ?hdS ?poS ?saS ?mkS ?kcS ?nS_size ?nS_in_frames ?nS_in_slots ?nS_stand ?nS_gone_out ?nS_gone_elsewhere ?nS_come_back ?xN ?kN ?bN ?tN ?iN ?sN ?zlen ?zrange ?zenumerate ?zsorted ?zisinstance ?zlist ?ztuple ?zint ?zbool ?zstr
    (case aL => k_is)
    (case aT => k_is)
    (case aS => k_is)
    (case aN => k_is)
    (case a_Swept => k_is)
    (case l_Swept => k_is)
    (case c_Swept => k_is)
    (case k_Swept => k_is)
    (case a_LyInit => k_is)
    (case i_LyInit => k_is)
    (case l_LyInit => k_is)
    (case c_LyInit => k_is)
    (case k_LyInit => k_is)
    (case a_LyIs => k_is)
    (case i_LyIs => k_is)
    (case l_LyIs => k_is)
    (case c_LyIs => k_is)
    (case k_LyIs => k_is)
    (case a_LyRow => k_is)
    (case i_LyRow => k_is)
    (case l_LyRow => k_is)
    (case c_LyRow => k_is)
    (case k_LyRow => k_is)
    (case a_LyBank => k_is)
    (case i_LyBank => k_is)
    (case l_LyBank => k_is)
    (case c_LyBank => k_is)
    (case k_LyBank => k_is)
    (case a_LyShow => k_is)
    (case i_LyShow => k_is)
    (case l_LyShow => k_is)
    (case c_LyShow => k_is)
    (case k_LyShow => k_is)
    (case a_StIs => k_is)
    (case i_StIs => k_is)
    (case l_StIs => k_is)
    (case c_StIs => k_is)
    (case k_StIs => k_is)
    (case a_Told => k_is)
    (case l_Told => k_is)
    (case c_Told => k_is)
    (case k_Told => k_is)
    (case a_Shin => k_is)
    (case l_Shin => k_is)
    (case c_Shin => k_is)
    (case k_Shin => k_is)
    (case a_First => k_is)
    (case l_First => k_is)
    (case c_First => k_is)
    (case k_First => k_is)
    (case a_ShInit => k_is)
    (case i_ShInit => k_is)
    (case l_ShInit => k_is)
    (case c_ShInit => k_is)
    (case k_ShInit => k_is)
    (case a_LyingAt => k_is)
    (case i_LyingAt => k_is)
    (case l_LyingAt => k_is)
    (case c_LyingAt => k_is)
    (case k_LyingAt => k_is)
    (case a_Cleared => k_is)
    (case i_Cleared => k_is)
    (case l_Cleared => k_is)
    (case c_Cleared => k_is)
    (case k_Cleared => k_is)
    (case a_Untw => k_is)
    (case i_Untw => k_is)
    (case l_Untw => k_is)
    (case c_Untw => k_is)
    (case k_Untw => k_is)
    (case a_Goal => k_is)
    (case i_Goal => k_is)
    (case l_Goal => k_is)
    (case c_Goal => k_is)
    (case k_Goal => k_is)
    (case a_Emptied => k_is)
    (case i_Emptied => k_is)
    (case l_Emptied => k_is)
    (case c_Emptied => k_is)
    (case k_Emptied => k_is)
    (case a_Fresh => k_is)
    (case i_Fresh => k_is)
    (case l_Fresh => k_is)
    (case c_Fresh => k_is)
    (case k_Fresh => k_is)
    (case a_Back => k_is)
    (case i_Back => k_is)
    (case l_Back => k_is)
    (case c_Back => k_is)
    (case k_Back => k_is)
    (case a_Hold => k_is)
    (case i_Hold => k_is)
    (case l_Hold => k_is)
    (case c_Hold => k_is)
    (case k_Hold => k_is)
    (case a_Letgo => k_is)
    (case i_Letgo => k_is)
    (case l_Letgo => k_is)
    (case c_Letgo => k_is)
    (case k_Letgo => k_is)
    (case a_Setbox => k_is)
    (case i_Setbox => k_is)
    (case l_Setbox => k_is)
    (case c_Setbox => k_is)
    (case k_Setbox => k_is)
    (case a_Fold => k_is)
    (case i_Fold => k_is)
    (case l_Fold => k_is)
    (case c_Fold => k_is)
    (case k_Fold => k_is)
    (case a_Live => k_is)
    (case i_Live => k_is)
    (case l_Live => k_is)
    (case c_Live => k_is)
    (case k_Live => k_is)
    (case a_ToldF => k_is)
    (case i_ToldF => k_is)
    (case l_ToldF => k_is)
    (case c_ToldF => k_is)
    (case k_ToldF => k_is)
    (case a_ToldS => k_is)
    (case i_ToldS => k_is)
    (case l_ToldS => k_is)
    (case c_ToldS => k_is)
    (case k_ToldS => k_is)
    (case a_Cell => k_is)
    (case l_Cell => k_is)
    (case c_Cell => k_is)
    (case k_Cell => k_is)
    (case a_Like => k_is)
    (case l_Like => k_is)
    (case c_Like => k_is)
    (case k_Like => k_is)
    (case a_Moved => k_is)
    (case l_Moved => k_is)
    (case c_Moved => k_is)
    (case k_Moved => k_is)
    (case a_Lfresh => k_is)
    (case l_Lfresh => k_is)
    (case c_Lfresh => k_is)
    (case k_Lfresh => k_is)
    (case a_Lback => k_is)
    (case l_Lback => k_is)
    (case c_Lback => k_is)
    (case k_Lback => k_is)
    (case a_Rank => k_is)
    (case l_Rank => k_is)
    (case c_Rank => k_is)
    (case k_Rank => k_is)
    (case a_Alike => k_is)
    (case l_Alike => k_is)
    (case c_Alike => k_is)
    (case k_Alike => k_is)
    (case a_Folded => k_is)
    (case l_Folded => k_is)
    (case c_Folded => k_is)
    (case k_Folded => k_is)
    (case a_Copied => k_is)
    (case l_Copied => k_is)
    (case c_Copied => k_is)
    (case k_Copied => k_is)
    (case a_True => k_is)
    (case l_True => k_is)
    (case c_True => k_is)
    (case k_True => k_is)
    (case a_Changed => k_is)
    (case l_Changed => k_is)
    (case c_Changed => k_is)
    (case k_Changed => k_is)
    (case a_Number => k_is)
    (case l_Number => k_is)
    (case c_Number => k_is)
    (case k_Number => k_is)
    (case a_Deed => k_is)
    (case l_Deed => k_is)
    (case c_Deed => k_is)
    (case k_Deed => k_is)
    (case a_Law => k_is)
    (case l_Law => k_is)
    (case c_Law => k_is)
    (case k_Law => k_is)
    (case t_LyInit => k_is)
    (case t_LyRow => k_is)
    (case t_LyBank => k_is)
    (case t_LyShow => k_is)
    (case pgL => k_is)
    (case hdL => k_is)
    (case poL => k_is)
    (case saL => k_is)
    (case mkL => k_is)
    (case kcL => k_is)
    (case nL_boxes => k_is)
    (case nL_held => k_is)
    (case nL_bound => k_is)
    (case pgT => k_is)
    (case hdT => k_is)
    (case poT => k_is)
    (case saT => k_is)
    (case mkT => k_is)
    (case kcT => k_is)
    (case nT_boxes => k_is)
    (case nT_held => k_is)
    (case nT_bound => k_is)
    (case pgS => k_is)
    (case hdS => k_is)
    (case poS => k_is)
    (case saS => k_is)
    (case mkS => k_is)
    (case kcS => k_is)
    (case nS_size => k_is)
    (case nS_in_frames => k_is)
    (case nS_in_slots => k_is)
    (case nS_stand => k_is)
    (case nS_gone_out => k_is)
    (case nS_gone_elsewhere => k_is)
    (case nS_come_back => k_is)
    (case xN => k_exc)
    (case kN => k_is)
    (case bN => k_is)
    (case tN => k_is)
    (case iN => k_is)
    (case sN => first | rfl | k_is)
    (case zlen => k_is)
    (case zrange => k_is)
    (case zenumerate => k_is)
    (case zsorted => k_is)
    (case zisinstance => k_is)
    (case zlist => k_is)
    (case ztuple => k_is)
    (case zint => k_is)
    (case zbool => k_is)
    (case zstr => k_is)
#print axioms PySem.Challenge.cw_frameland_k68_sheets_any_row_holds
