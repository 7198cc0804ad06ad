import PyProof.Rows.All
import Wide.All
import OpenK.AllK
import Wide.FinOn
import PySem.Challenge.RW_nz0264_01
open PySem PySem.W PySem.Calls PyProof.Rows PyProof.V PySem.Spec
set_option Elab.async false
set_option maxRecDepth 100000 in
set_option maxHeartbeats 8000000 in
open_top Mine.hd for PySem.Challenge.rw_nz0264_01
namespace Mine
theorem fresh : True := by
  w_top off
  trivial
end Mine
namespace Mine
/-! plain data -/
abbrev Ass := List (Int × Dat)
def get (es : Ass) (k : Int) : Option Dat := (es.find? fun e => e.1 = k).map (·.2)
def has (es : Ass) (k : Int) : Bool := (get es k).isSome
def rng : List Int := [1, 2, 3, 4, 5, 6, 7, 8, 9, 10, 11, 12]
def ks (es : Ass) : List Int := rng.filter (has es)
structure EOk (es : Ass) : Prop where
  nodup : (es.map (·.1)).Nodup
  inR : ∀ e ∈ es, e.1 ∈ Mine.rng
  ok : ∀ e ∈ es, kqdOk 1 e.2 = true

theorem has_iff {es : Ass} {k : Int} : has es k = true ↔ k ∈ es.map (·.1) := by
  unfold has get
  rw [Option.isSome_map, List.find?_isSome]
  simp only [List.mem_map, decide_eq_true_eq]
theorem rng_asc : rng.Pairwise (· < ·) := by decide
theorem perm_of_mem : ∀ {a b : List Int}, a.Nodup → b.Nodup → (∀ x, x ∈ a ↔ x ∈ b) → a.Perm b := fun ha hb h => by
  rw [List.perm_iff_count]
  intro x
  rw [List.Nodup.count ha, List.Nodup.count hb]
  simp only [h x]
theorem asc_nodup {l : List Int} (h : l.Pairwise (· < ·)) : l.Nodup := h.imp fun hlt e => absurd hlt (by rw [e]; exact Int.lt_irrefl _)
theorem ks_asc (es : Ass) : (ks es).Pairwise (· < ·) := rng_asc.filter _
theorem ks_short (es : Ass) : (ks es).length ≤ 100000 := by
  have h2 : (ks es).length ≤ rng.length := List.length_filter_le _ _
  have h3 : rng.length = 12 := by decide
  omega
theorem ks_mem {es : Ass} {k : Int} : k ∈ ks es ↔ k ∈ rng ∧ has es k = true := by unfold ks; exact List.mem_filter
theorem EOk.perm {es : Ass} (h : EOk es) : (es.map (·.1)).Perm (ks es) := by
  refine perm_of_mem h.nodup (asc_nodup (ks_asc es)) fun x => ?_
  rw [ks_mem, has_iff]
  refine ⟨fun hx => ⟨?_, hx⟩, fun hx => hx.2⟩
  obtain ⟨e, he, rfl⟩ := List.mem_map.mp hx
  exact h.inR e he
theorem EOk.short {es : Ass} (h : EOk es) : es.length ≤ 12 := by
  have h1 := h.perm.length_eq
  have h2 : (ks es).length ≤ rng.length := List.length_filter_le _ _
  rw [List.length_map] at h1
  have h3 : rng.length = 12 := by decide
  omega
/-- the one ascending arrangement -/
theorem EOk.sorted {es : Ass} (h : EOk es) {l : List Int} (hp : l.Perm (es.map (·.1))) (ho : l.Pairwise (· ≤ ·)) : l = ks es :=
  ksm_same (hp.trans h.perm) ho ((ks_asc es).imp fun h => Int.le_of_lt h)

/-! dicts on the ledger -/
section
variable {prog : Program} {w : World}
def DD (prog : Program) (w : World) (news : List (Addr × Obj)) (d : Addr) (es : Ass) : Prop :=
  ∃ od kvs, (d, od) ∈ news ∧ od.IsDictOf (PySem.intKind prog w) kvs ∧ kvs.map (·.1) = es.map (·.1) ∧ DatAll news (kvs.map (·.2)) (es.map (·.2)) ∧ (d == sysModules) = false
theorem DD.mono {news news' : List (Addr × Obj)} {d : Addr} {es : Ass} (h : DD prog w news d es) (hs : ∀ p ∈ news, p ∈ news') : DD prog w news' d es := by
  obtain ⟨od, kvs, a, b, c, e, f⟩ := h
  exact ⟨od, kvs, hs _ a, b, c, e.mono hs, f⟩
theorem at_of {kvs : List (Int × Value)} {es : Ass} {news : List (Addr × Obj)} (h1 : kvs.map (·.1) = es.map (·.1)) (h2 : DatAll news (kvs.map (·.2)) (es.map (·.2))) (k : Int) :
    (valueAt kvs k = none ∧ get es k = none) ∨ ∃ v d, valueAt kvs k = some v ∧ get es k = some d ∧ DatIn news v d := by
  induction kvs generalizing es with
  | nil =>
    cases es with
    | nil => exact .inl ⟨rfl, rfl⟩
    | cons _ _ => simp at h1
  | cons kv kvs ih =>
    cases es with
    | nil => simp at h1
    | cons e es =>
      simp only [List.map_cons, List.cons.injEq] at h1
      simp only [List.map_cons] at h2
      cases h2 with
      | cons hd hr =>
        by_cases hk : kv.1 = k
        · refine .inr ⟨kv.2, e.2, ?_, ?_, hd⟩
          · simp [valueAt, hk]
          · simp [get, ← h1.1, hk]
        · have e1 : valueAt (kv :: kvs) k = valueAt kvs k := by simp [valueAt, hk]
          have e2 : get (e :: es) k = get es k := by simp [get, ← h1.1, hk]
          rw [e1, e2]
          exact ih h1.2 hr
theorem at_some {kvs : List (Int × Value)} {es : Ass} {news : List (Addr × Obj)} (h1 : kvs.map (·.1) = es.map (·.1)) (h2 : DatAll news (kvs.map (·.2)) (es.map (·.2))) (k : Int) : (valueAt kvs k).isSome = has es k := by
  unfold has
  rcases at_of h1 h2 k with ⟨a, b⟩ | ⟨v, d, a, b, _⟩ <;> rw [a, b] <;> rfl
end
section
variable {prog : Program} {w : World} {A : Around} {E : Value → Shared → Prop} {s : Shared} {h₀ : Heap} {L d : Addr} {m : Str → Option Value} {news : List (Addr × Obj)} {es : Ass} {k : Int} {t : Tok} {Q : Value → Shared → Prop}
theorem dd_in (N : News h₀ L s.heap news) (hd : DD prog w news d es) (h : Q (.bool (has es k)) { s with toks := s.toks + 1 }) : wpAny (model prog w) A (compareOp .In (.int k t) (.ref d)) Q E s := by
  obtain ⟨od, kvs, a, b, c, e, f⟩ := hd
  refine wpAny_in_of (knd := PySem.intKind prog w) (intKind_is prog w k t) f (kda_dict N a b).mapOf ?_
  rw [at_some c e]; exact h
theorem dd_notIn (N : News h₀ L s.heap news) (hd : DD prog w news d es) (h : Q (.bool (!has es k)) { s with toks := s.toks + 1 }) : wpAny (model prog w) A (compareOp .NotIn (.int k t) (.ref d)) Q E s := by
  obtain ⟨od, kvs, a, b, c, e, f⟩ := hd
  refine wpAny_notIn_of (knd := PySem.intKind prog w) (intKind_is prog w k t) f (kda_dict N a b).mapOf ?_
  rw [at_some c e]; exact h
theorem dd_item {value slice : PySem.Expr} {dv : Dat} (N : News h₀ L s.heap news) (hd : DD prog w news d es) (hl : get es k = some dv) (h : ∀ v, DatIn news v dv → Q v { s with toks := s.toks + 1 })
    (hs : subscripted slice false (.ref d) (.int k t) = operate [.ref d, .int k t] (getItem (.ref d) (.int k t)) := by with_unfolding_all rfl) (hg : ∀ r, letTemporaryGo value (.ref d) r = pure () := by intro _; with_unfolding_all rfl) :
    wpAny (model prog w) A (subscriptTail value slice (.ref d) (.int k t)) Q E s := by
  obtain ⟨od, kvs, a, b, c, e, f⟩ := hd
  rcases at_of c e k with ⟨_, y⟩ | ⟨v, d', x, y, z⟩
  · rw [y] at hl; cases hl
  · rw [y] at hl; cases hl
    exact kda_item (knd := PySem.intKind prog w) N a b (intKind_is prog w k t) x (h v z) hs hg
end

/-! two data compared -/
theorem ok_succ : ∀ (n : Nat) (d : Dat), kqdOk n d = true → kqdOk (n + 1) d = true
  | 0, d, h => by cases d <;> simp_all [kqdOk]
  | n + 1, d, h => by
    cases d with
    | tuple ds => simp only [kqdOk, List.all_eq_true] at h ⊢; exact fun x hx => ok_succ n x (h x hx)
    | list ds => simp only [kqdOk, List.all_eq_true] at h ⊢; exact fun x hx => ok_succ n x (h x hx)
    | _ => simp_all [kqdOk]
theorem ok_add (k : Nat) {n : Nat} {d : Dat} (h : kqdOk n d = true) : kqdOk (n + k) d = true := by
  induction k with
  | zero => exact h
  | succ k ih => exact ok_succ _ _ ih
theorem ok_le {n m : Nat} {d : Dat} (h : kqdOk n d = true) (hl : n ≤ m) : kqdOk m d = true := by
  have := ok_add (m - n) h
  rwa [show n + (m - n) = m by omega] at this
open Classical in
noncomputable def sameD (a b : Dat) : Bool := decide (a = b)
open Classical in
theorem sameD_iff {a b : Dat} : sameD a b = true ↔ a = b := by unfold sameD; exact decide_eq_true_iff
open Classical in
noncomputable def dif (es₁ es₂ : Ass) (k : Int) : Bool := !decide (get es₁ k = get es₂ k)
section
variable {prog : Program} {w : World} {A : Around} {E : Value → Shared → Prop} {s : Shared} {h₀ : Heap} {L : Addr} {news : List (Addr × Obj)} {x y : Value} {d e : Dat} {Q : Value → Shared → Prop}
theorem eqv_same (h1 : kqdOk 8 d = true) (h2 : kqdOk 8 e = true) : PyData.eqv (kqdP d) (kqdP e) = sameD d e := by
  have q := (kqd_eqv 8 d e 8 h1 h2).trans sameD_iff.symm
  cases e1 : sameD d e with
  | true => exact q.mpr e1
  | false => exact Bool.eq_false_iff.mpr fun x => by rw [q.mp x] at e1; cases e1
theorem shaped_ok (h : kqdOk 8 d = true) : SeqAt.shaped (kqdP d) = true := by
  have l := kqd_lay 8 d h
  unfold SeqAt.shaped
  rw [l.1, Bool.true_and]
  exact decide_eq_true (Nat.le_trans l.2 (by decide))
theorem dat_ne (N : News h₀ L s.heap news) (hx : DatIn news x d) (hy : DatIn news y e) (h1 : kqdOk 8 d = true) (h2 : kqdOk 8 e = true) (hu : A.units + 64 < cLine) (h : Q (.bool (!sameD d e)) s) :
    wpAny (model prog w) A (compareOp .NotEq x y) Q E s := by
  obtain ⟨as, ra⟩ := kqd_in N 8 hx h1
  obtain ⟨bs, rb⟩ := kqd_in N 8 hy h2
  exact ne_dataH ra rb (shaped_ok h1) (shaped_ok h2) hu (by rw [eqv_same h1 h2]; exact h)
theorem dat_eq (N : News h₀ L s.heap news) (hx : DatIn news x d) (hy : DatIn news y e) (h1 : kqdOk 8 d = true) (h2 : kqdOk 8 e = true) (hu : A.units + 64 < cLine) (h : Q (.bool (sameD d e)) s) :
    wpAny (model prog w) A (compareOp .Eq x y) Q E s := by
  obtain ⟨as, ra⟩ := kqd_in N 8 hx h1
  obtain ⟨bs, rb⟩ := kqd_in N 8 hy h2
  exact eq_dataH ra rb (shaped_ok h1) (shaped_ok h2) hu (by rw [eqv_same h1 h2]; exact h)
end
theorem EOk.okAt {es : Ass} (h : EOk es) {k : Int} {d : Dat} (e : get es k = some d) : kqdOk 8 d = true := by
  unfold get at e
  cases hf : es.find? (fun e => e.1 = k) with
  | none => rw [hf] at e; cases e
  | some p =>
    rw [hf] at e
    cases e
    exact ok_le (h.ok p (List.mem_of_find?_eq_some hf)) (by omega)
theorem dif_at {es₁ es₂ : Ass} {k : Int} {a b : Dat} (h1 : get es₁ k = some a) (h2 : get es₂ k = some b) : dif es₁ es₂ k = !sameD a b := by
  have e := sameD_iff (a := a) (b := b)
  unfold dif
  rw [h1, h2]
  cases e1 : sameD a b with
  | true => simp [e.mp e1]
  | false => 
    have : ¬ a = b := fun q => by rw [e.mpr q] at e1; cases e1
    simp [this]
theorem has_get {es : Ass} {k : Int} (h : has es k = true) : ∃ d, get es k = some d := Option.isSome_iff_exists.mp h
theorem dat_ints {news : List (Addr × Obj)} : ∀ {vs : List Value} {ns : List Int}, IntsAre vs ns → DatAll news vs (ns.map .int)
  | _, _, .nil => .nil
  | _, _, .cons k t r => .cons (.int k t) (dat_ints r)

def gon (es₁ es₂ : Ass) : List Int := (ks es₁).filter fun k => !has es₂ k
noncomputable def oth (es₁ es₂ : Ass) : List Int := (ks es₂).filter fun k => has es₁ k && dif es₁ es₂ k
def ilist (ns : List Int) : Dat := .list (ns.map .int)

/-! sorted(d) -/
section
variable {prog : Program} {w : World} {A : Around} {E : Value → Shared → Prop} {s : Shared} {h₀ : Heap} {L d D : Addr} {m : Str → Option Value} {news : List (Addr × Obj)} {es : Ass} {vs : List Value} {ns : List Int} {Q : Value → Shared → Prop}
theorem sort_ints (F : Fr h₀ L s.heap m) (N : News h₀ L s.heap ((D, PySem.W.listOf vs.toArray 0) :: news)) (l1 : ∀ p ∈ news, p.1 < D) (hi : IntsAre vs ns) (h64 : vs.length < 64)
    (h : ∀ h' out ns' c, Fr h₀ L h' m → News h₀ L h' ((D, PySem.W.listOf (List.toArray out) c) :: news) → IntsAre out ns' → ns'.Perm ns → ns'.Pairwise (· ≤ ·) → Q .none { s with heap := h' }) :
    wpAny (model prog w) A (call (.builtin "list.sort") [.ref D]) Q E s := by
  have z := N (D, PySem.W.listOf vs.toArray 0) (.head _)
  refine wpAny_call_entry PyProof.Rows.slot_list_sort ⟨_, z.1, rfl⟩ PyProof.Rows.entry_list_sort (list_sort_tree (n := 0) (vs := vs) z.1 hi h64 fun out ns' hI hp hP => ⟨.none, rfl, ?_⟩) (PyProof.Rows.args_list_sort _)
  have o1 := get?_update_seq (c := "list") z.1 (fun _ => (#[] : Array Value))
  have lt : D < s.heap.objs.size := Heap.lt_size z.1
  have s1 : Heap.SameBut D s.heap (s.heap.update D (Obj.mapSeq fun _ => (#[] : Array Value))) := Heap.SameBut.update ..
  have F1 : Fr h₀ L (s.heap.update D (Obj.mapSeq fun _ => (#[] : Array Value))) m := F.change s1 z.2.1 z.2.2
  have F3 := (F1.push (seqObj "tuple" vs.toArray 0)).push (seqObj "list" #[] 0)
  have o3 := Heap.get?_push_of_some (seqObj "list" #[] 0) (Heap.get?_push_of_some (seqObj "tuple" vs.toArray 0) o1)
  have F4 : Fr h₀ L (sortedHeap s.heap D vs out) m := F3.change (Heap.SameBut.update ..) z.2.1 z.2.2
  obtain ⟨c4, o4⟩ : ∃ c4, (sortedHeap s.heap D vs out).get? D = some (seqObj "list" out c4) := ⟨_, get?_update_seq (c := "list") o3 (fun _ => out)⟩
  refine h _ out.toList ns' c4 F4 ?_ hI hp hP
  intro p hp
  rcases List.mem_cons.mp hp with rfl | hp
  · refine ⟨?_, z.2⟩
    rw [Array.toArray_toList]
    exact o4
  · have q := N p (.tail _ hp)
    have ne : p.1 ≠ D := Nat.ne_of_lt (l1 p hp)
    refine ⟨?_, q.2⟩
    exact (Heap.get?_update_other _ _ ne.symm).trans (Heap.get?_push_of_some _ (Heap.get?_push_of_some _ ((Heap.get?_update_other _ _ ne.symm).trans q.1)))

theorem ints_of {P : Nat → Value → Prop} : ∀ {vs : List Value} {ns : List Int}, vs.length = ns.length → (∀ (j : Nat) (v : Value) (n : Int), vs[j]? = some v → ns[j]? = some n → ∃ t : Tok, v = .int n t) → IntsAre vs ns
  | [], [], _, _ => .nil
  | [], _ :: _, h, _ => by simp at h
  | _ :: _, [], h, _ => by simp at h
  | v :: vs, n :: ns, h, hv => by
    obtain ⟨t, rfl⟩ := hv 0 v n rfl rfl
    exact .cons n t (ints_of (P := P) (by simpa using h) fun j v n a b => hv (j + 1) v n (by simpa using a) (by simpa using b))

theorem sorted_dd (hh : A.handled = none) (F : Fr h₀ L s.heap m) (N : News h₀ L s.heap news) (hd : DD prog w news d es) (ho : EOk es)
    (h : ∀ D h' tk out c, Fr h₀ L h' m → News h₀ L h' ((D, PySem.W.listOf (List.toArray out) c) :: news) → (∀ p ∈ news, p.1 < D) → IntsAre out (ks es) → Q (.ref D) { s with heap := h', toks := tk }) :
    wpAny (model prog w) A (call (.builtin "sorted") [.ref d]) Q E s := by
  obtain ⟨od, kvs, a, b, c, e, f⟩ := hd
  obtain ⟨ep, hat⟩ := KdkAt.of b
  have hlen : kvs.length = es.length := by have := congrArg List.length c; simpa using this
  have hs := ho.short
  refine kdu_sorted (kdl_dict (knd := PySem.intKind prog w) (kvs := kvs) (ep := ep) f) hh F N (hat.dictAt (N _ a).1) (by rw [sizeLine_eq]; omega) fun D h' tk vs F' N' l1 hl hv => ?_
  have hi : IntsAre vs (es.map (·.1)) := by
    rw [← c]
    refine ints_of (P := fun _ _ => True) (by rw [hl, List.length_map]) fun j v n hj hn => ?_
    obtain ⟨k, x, h1, h2⟩ := hv j v hj
    rw [List.getElem?_map, h1] at hn
    cases hn
    exact PySem.Value.isInt_shape h2
  refine sort_ints F' N' l1 hi (by omega) fun h'' out ns' cc F2 N2 i2 p2 o2 => ?_
  have e2 : ns' = ks es := ho.sorted p2 o2
  subst e2
  exact h D h'' tk out cc F2 N2 l1 i2
end
end Mine
namespace Mine
/-! the library's question tree of a sort, asked of distinct int keys -/
def wpp {α : Type} (key : Nat → Int) (n : Nat) : KasT α → (α → Prop) → Prop
  | .ret a, Q => Q a
  | .ask i j k, Q => (i < n ∧ j < n ∧ i ≠ j) ∧ wpp key n (k (decide (key i < key j))) Q
theorem wpp_bind {α β : Type} {key : Nat → Int} {n : Nat} {f : α → KasT β} {Q : β → Prop} : ∀ {t : KasT α}, wpp key n t (fun a => wpp key n (f a) Q) → wpp key n (t.bind f) Q
  | .ret _, h => h
  | .ask _ _ _, h => ⟨h.1, wpp_bind h.2⟩
theorem wpp_mono {α : Type} {key : Nat → Int} {n : Nat} {Q Q' : α → Prop} (hq : ∀ a, Q a → Q' a) : ∀ {t : KasT α}, wpp key n t Q → wpp key n t Q'
  | .ret a, h => hq a h
  | .ask _ _ _, h => ⟨h.1, wpp_mono hq h.2⟩
theorem wpp_wp {α : Type} {key : Nat → Int} {n : Nat} {cmp : Nat → Nat → (Bool → Shared → Prop) → Shared → Prop} {s : Shared} {Q : α → Shared → Prop}
    (hc : ∀ i j (C : Bool → Shared → Prop), i < n → j < n → i ≠ j → C (decide (key i < key j)) s → cmp i j C s) : ∀ {t : KasT α}, wpp key n t (fun a => Q a s) → t.kasWp cmp Q s
  | .ret _, h => h
  | .ask i j _, h => hc i j _ h.1.1 h.1.2.1 h.1.2.2 (wpp_wp hc h.2)

section
variable {key : Nat → Int} {n : Nat} {p : Array Nat}
structure PP (n : Nat) (p : Array Nat) : Prop where
  perm : p.Perm (List.range n).toArray
theorem PP.size (h : PP n p) : p.size = n := by have := h.perm.size_eq; simpa using this
theorem PP.at (h : PP n p) {i : Nat} (hi : i < n) : p[i]? = some (p.getD i 0) := by
  have : i < p.size := by rw [h.size]; exact hi
  simp [Array.getD, this]
theorem PP.lt (h : PP n p) {i : Nat} (hi : i < n) : p.getD i 0 < n := by
  have h1 := h.at hi
  have hm : p.getD i 0 ∈ p := Array.mem_of_getElem? h1
  have := h.perm.mem_iff.mp hm
  simpa using this
theorem PP.nodup (h : PP n p) : p.toList.Nodup := by
  have h1 : p.toList.Perm (List.range n) := by have := h.perm.toList; simpa using this
  exact h1.nodup_iff.mpr List.nodup_range
theorem PP.ne (h : PP n p) {i j : Nat} (hi : i < n) (hj : j < n) (hij : i ≠ j) : p.getD i 0 ≠ p.getD j 0 := by
  intro e
  have a := h.at hi
  have b := h.at hj
  rw [e, ← b] at a
  have hs := h.size
  have hn := List.pairwise_iff_getElem.mp h.nodup
  have hi' : i < p.size := by omega
  have hj' : j < p.size := by omega
  have e' : p[i] = p[j] := by
    rw [Array.getElem?_eq_getElem hi', Array.getElem?_eq_getElem hj'] at a
    exact Option.some.inj a
  rcases Nat.lt_or_ge i j with q | q
  · exact hn i j (by simpa using hi') (by simpa using hj') q (by simpa using e')
  · exact hn j i (by simpa using hj') (by simpa using hi') (by omega) (by simpa using e'.symm)
theorem PP.start : PP n (List.toArray (List.range n)) := ⟨Array.Perm.refl _⟩
theorem PP.bubble (h : PP n p) (k d : Nat) : PP n (PyProof.Rows.bubble p k d) := ⟨(bubble_perm p k d).trans h.perm⟩
theorem PP.rev (h : PP n p) (i j : Nat) : PP n (kas_rev p i j) := ⟨(mirror_perm p i j _).trans h.perm⟩
abbrev Ky (key : Nat → Int) (p : Array Nat) (i : Nat) : Int := key (p.getD i 0)
def Asc (key : Nat → Int) (p : Array Nat) (k : Nat) : Prop := ∀ i j, i < j → j < k → Ky key p i < Ky key p j
def Des (key : Nat → Int) (p : Array Nat) (k : Nat) : Prop := ∀ i j, i < j → j < k → Ky key p j < Ky key p i
theorem Asc.one : Asc key p 1 := fun i j h1 h2 => by omega
theorem Asc.succ {k : Nat} (h : Asc key p k) (hk : 1 ≤ k) (hl : Ky key p (k - 1) < Ky key p k) : Asc key p (k + 1) := by
  intro i j hij hj
  by_cases e : j < k
  · exact h i j hij e
  · have e' : j = k := by omega
    subst e'
    by_cases e2 : i = j - 1
    · subst e2; exact hl
    · exact Int.lt_trans (h i (j - 1) (by omega) (by omega)) hl
theorem Des.succ {k : Nat} (h : Des key p k) (hk : 1 ≤ k) (hl : Ky key p k < Ky key p (k - 1)) : Des key p (k + 1) := by
  intro i j hij hj
  by_cases e : j < k
  · exact h i j hij e
  · have e' : j = k := by omega
    subst e'
    by_cases e2 : i = j - 1
    · subst e2; exact hl
    · exact Int.lt_trans hl (h i (j - 1) (by omega) (by omega))
variable (hkey : ∀ i j, i < n → j < n → i ≠ j → key i ≠ key j)
include hkey
theorem PP.kne (h : PP n p) {i j : Nat} (hi : i < n) (hj : j < n) (hij : i ≠ j) : Ky key p i ≠ Ky key p j := hkey _ _ (h.lt hi) (h.lt hj) (h.ne hi hj hij)

theorem asc_ok (h : PP n p) {Q : Nat → Prop} : ∀ (f a : Nat), 1 ≤ a → a + f ≤ n → Asc key p a → (∀ m, a ≤ m → m ≤ a + f → Asc key p m → (m = a + f ∨ Ky key p m < Ky key p (m - 1)) → Q m) → wpp key n (kas_asc p f a) Q
  | 0, a, _, _, ho, hQ => hQ a (Nat.le_refl _) (Nat.le_refl _) ho (.inl rfl)
  | f + 1, a, h1, ha, ho, hQ => by
    refine ⟨⟨h.lt (by omega), h.lt (by omega), h.ne (by omega) (by omega) (by omega)⟩, ?_⟩
    by_cases e : Ky key p a < Ky key p (a - 1)
    · rw [show decide (key (p.getD a 0) < key (p.getD (a - 1) 0)) = true from decide_eq_true e]
      exact hQ a (Nat.le_refl _) (by omega) ho (.inr e)
    · rw [show decide (key (p.getD a 0) < key (p.getD (a - 1) 0)) = false from decide_eq_false e]
      have ne := h.kne hkey (i := a) (j := a - 1) (by omega) (by omega) (by omega)
      exact asc_ok h f (a + 1) (by omega) (by omega) (ho.succ h1 (by omega)) fun m m1 m2 m3 m4 => hQ m (by omega) (by omega) m3 (by rcases m4 with m4 | m4; exact .inl (by omega); exact .inr m4)

theorem desc_ok (h : PP n p) {Q : Array Nat × Nat × Nat → Prop} : ∀ (f a : Nat), 2 ≤ a → a + f ≤ n → Des key p a → (∀ m, a ≤ m → m ≤ a + f → Des key p m → Q (p, m, 0)) → wpp key n (kas_desc f p a 0) Q
  | 0, a, _, _, ho, hQ => hQ a (Nat.le_refl _) (Nat.le_refl _) ho
  | f + 1, a, h1, ha, ho, hQ => by
    refine ⟨⟨h.lt (by omega), h.lt (by omega), h.ne (by omega) (by omega) (by omega)⟩, ?_⟩
    have ne := h.kne hkey (i := a) (j := a - 1) (by omega) (by omega) (by omega)
    by_cases e : Ky key p a < Ky key p (a - 1)
    · rw [show decide (key (p.getD a 0) < key (p.getD (a - 1) 0)) = true from decide_eq_true e]
      show wpp key n (if 0 > 0 then kas_desc f (kas_rev p (a - (0 + 1)) a) (a + 1) 0 else kas_desc f p (a + 1) 0) Q
      rw [if_neg (by omega)]
      exact desc_ok h f (a + 1) (by omega) (by omega) (ho.succ (by omega) e) fun m m1 m2 m3 => hQ m (by omega) (by omega) m3
    · rw [show decide (key (p.getD a 0) < key (p.getD (a - 1) 0)) = false from decide_eq_false e]
      refine ⟨⟨h.lt (by omega), h.lt (by omega), h.ne (by omega) (by omega) (by omega)⟩, ?_⟩
      rw [show decide (key (p.getD (a - 1) 0) < key (p.getD a 0)) = true from decide_eq_true (by show Ky key p (a - 1) < Ky key p a; omega)]
      exact hQ a (Nat.le_refl _) (by omega) ho

theorem tail_ok (h : PP n p) {m : Nat} (h1 : 1 ≤ m) (hm : m ≤ n) (ho : Des key p m) {Q : Nat × Array Nat → Prop} (hQ : ∀ k p', PP n p' → 1 ≤ k → k ≤ n → Asc key p' k → Q (k, p')) : wpp key n (kas_tail3 m n p) Q := by
  unfold kas_tail3
  have hr := h.rev 0 m
  have ha : Asc key (kas_rev p 0 m) m := by
    intro i j hij hj
    have gi : ∀ k, k < m → (kas_rev p 0 m).getD k 0 = p.getD (m - 1 - k) 0 := fun k hk => by
      have e := getElem?_mirror_all (xs := p) (i := 0) (j := m) (by rw [h.size]; exact hm) k
      rw [if_pos ⟨Nat.zero_le _, hk⟩, Nat.zero_add] at e
      have a := hr.at (i := k) (by omega)
      have b := h.at (i := m - 1 - k) (by omega)
      rw [b] at e
      unfold kas_rev at a ⊢
      rw [e] at a
      exact (Option.some.inj a).symm
    show key _ < key _
    rw [gi i (by omega), gi j hj]
    exact ho _ _ (by omega) (by omega)
  refine wpp_bind (asc_ok hkey hr (n - m) m h1 (by omega) ha fun k k1 k2 k3 _ => ?_)
  exact hQ k _ hr (by omega) (by omega) k3

theorem count_ok (h : PP n p) (h1 : 1 ≤ n) {Q : Nat × Array Nat → Prop} (hQ : ∀ k p', PP n p' → 1 ≤ k → k ≤ n → Asc key p' k → Q (k, p')) : wpp key n (kas_count n p) Q := by
  unfold kas_count
  refine wpp_bind (asc_ok hkey h (n - 1) 1 (Nat.le_refl _) (by omega) Asc.one fun m m1 m2 m3 m4 => ?_)
  by_cases e1 : (m == n) = true
  · rw [if_pos e1]
    exact hQ m p h m1 (by omega) m3
  · rw [if_neg e1]
    have hne : m ≠ n := fun q => e1 (by rw [q]; exact beq_self_eq_true _)
    by_cases e2 : m > 1
    · rw [if_pos e2]
      refine ⟨⟨h.lt (by omega), h.lt (by omega), h.ne (by omega) (by omega) (by omega)⟩, ?_⟩
      rw [show decide (key (p.getD 0 0) < key (p.getD (m - 1) 0)) = true from decide_eq_true (m3 0 (m - 1) (by omega) (by omega))]
      exact hQ m p h m1 (by omega) m3
    · rw [if_neg e2]
      have em : m = 1 := by omega
      subst em
      have hlt : Ky key p 1 < Ky key p 0 := by
        rcases m4 with m4 | m4
        · omega
        · exact m4
      have hd : Des key p 2 := fun i j hij hj => by
        have : i = 0 := by omega
        have : j = 1 := by omega
        subst i; subst j; exact hlt
      unfold kas_descPart
      refine wpp_bind (desc_ok hkey h (n - (1 + 1)) (1 + 1) (Nat.le_refl _) (by omega) hd fun k k1 k2 k3 => ?_)
      dsimp only
      rw [if_neg (by omega)]
      exact tail_ok hkey h (by omega) (by omega) k3 hQ

theorem place_ok (h : PP n p) {k : Nat} (hk : k < n) {Q : Nat → Prop} (hQ : ∀ l, l ≤ k → (∀ i, i < l → Ky key p i < Ky key p k) → (∀ i, l ≤ i → i < k → Ky key p k < Ky key p i) → Q l) (ho : Asc key p k) : ∀ (f l r : Nat), l ≤ r → r ≤ k → r ≤ l + f →
    (∀ i, i < l → Ky key p i < Ky key p k) → (∀ i, r ≤ i → i < k → Ky key p k < Ky key p i) → wpp key n (kas_place p k f l r) Q
  | 0, l, r, hlr, hr, hf, a, b => hQ l (by omega) a fun i h1 h2 => b i (by omega) h2
  | f + 1, l, r, hlr, hr, hf, a, b => by
    unfold kas_place
    by_cases e : l ≥ r
    · rw [if_pos e]
      exact hQ l (by omega) a fun i h1 h2 => b i (by omega) h2
    · rw [if_neg e]
      have ne := h.kne hkey (i := k) (j := (l + r) / 2) (by omega) (by omega) (by omega)
      refine ⟨⟨h.lt (by omega), h.lt (by omega), h.ne (by omega) (by omega) (by omega)⟩, ?_⟩
      by_cases e2 : Ky key p k < Ky key p ((l + r) / 2)
      · rw [show decide (key (p.getD k 0) < key (p.getD ((l + r) / 2) 0)) = true from decide_eq_true e2]
        refine place_ok h hk hQ ho f l ((l + r) / 2) (by omega) (by omega) (by omega) a fun i h1 h2 => ?_
        by_cases e3 : i = (l + r) / 2
        · subst e3; exact e2
        · exact Int.lt_trans e2 (ho _ _ (by omega) (by omega))
      · rw [show decide (key (p.getD k 0) < key (p.getD ((l + r) / 2) 0)) = false from decide_eq_false e2]
        refine place_ok h hk hQ ho f ((l + r) / 2 + 1) r (by omega) hr (by omega) (fun i h1 => ?_) b
        by_cases e3 : i = (l + r) / 2
        · subst e3; omega
        · have := ho i ((l + r) / 2) (by omega) (by omega); omega

theorem bin_ok {Q : Array Nat → Prop} (hQ : ∀ p', PP n p' → Asc key p' n → Q p') : ∀ (f k : Nat) (p : Array Nat), PP n p → 1 ≤ k → k + f = n → Asc key p k → wpp key n (kas_bin f p k) Q
  | 0, k, p, h, _, hk, ho => hQ p h (by have : k = n := by omega
                                        rw [← this]; exact ho)
  | f + 1, k, p, h, h1, hk, ho => by
    unfold kas_bin
    refine wpp_bind (place_ok hkey h (k := k) (by omega) (fun l hl a b => ?_) ho k 0 k (Nat.zero_le _) (Nat.le_refl _) (by omega) (fun i hi => absurd hi (Nat.not_lt_zero _)) fun i h1 h2 => by omega)
    have hb := h.bubble k (k - l)
    refine bin_ok hQ f (k + 1) _ hb (by omega) (by omega) ?_
    have gi : ∀ i, i < n → (PyProof.Rows.bubble p k (k - l)).getD i 0 = if i = l then p.getD k 0 else if l < i ∧ i ≤ k then p.getD (i - 1) 0 else p.getD i 0 := fun i hi => by
      have e := getElem?_bubble (xs := p) (src := k) (by rw [h.size]; omega) (k - l) (by omega) i
      have e0 : k - (k - l) = l := by omega
      rw [e0] at e
      have x := hb.at (i := i) hi
      rw [e] at x
      by_cases c1 : i = l
      · rw [if_pos c1] at x ⊢
        rw [h.at (i := k) (by omega)] at x
        exact (Option.some.inj x).symm
      · rw [if_neg c1] at x ⊢
        by_cases c2 : l < i ∧ i ≤ k
        · rw [if_pos c2] at x ⊢
          rw [h.at (i := i - 1) (by omega)] at x
          exact (Option.some.inj x).symm
        · rw [if_neg c2] at x ⊢
          rw [h.at (i := i) hi] at x
          exact (Option.some.inj x).symm
    intro i j hij hj
    show key _ < key _
    rw [gi i (by omega), gi j (by omega)]
    by_cases c1 : i = l
    · rw [if_pos c1, if_neg (by omega), if_pos (by omega)]
      exact b (j - 1) (by omega) (by omega)
    · rw [if_neg c1]
      by_cases c2 : l < i ∧ i ≤ k
      · rw [if_pos c2, if_neg (by omega), if_pos (by omega)]
        exact ho _ _ (by omega) (by omega)
      · rw [if_neg c2]
        by_cases c3 : j = l
        · rw [if_pos c3]; exact a i (by omega)
        · rw [if_neg c3]
          by_cases c4 : l < j ∧ j ≤ k
          · rw [if_pos c4]
            by_cases c5 : i = j - 1
            · omega
            · exact ho _ _ (by omega) (by omega)
          · rw [if_neg c4]
            exact ho _ _ (by omega) (by omega)

theorem sort_ok (h1 : 1 ≤ n) {Q : Array Nat → Prop} (hQ : ∀ p, PP n p → Asc key p n → Q p) : wpp key n (kas_sort n) Q := by
  unfold kas_sort
  refine wpp_bind (count_ok hkey PP.start h1 fun k p' hp k1 k2 ha => ?_)
  dsimp only
  by_cases e : k < n
  · rw [if_pos e]
    have : max k 1 = k := by omega
    rw [this]
    exact bin_ok hkey hQ (n - k) k p' hp k1 (by omega) ha
  · rw [if_neg e]
    have : k = n := by omega
    subst this
    exact hQ p' hp ha
end
end Mine
namespace Mine
def pr (e : Int × Dat) : Dat := .tuple [.int e.1, e.2]
section
variable {prog : Program} {w : World} {A : Around} {E : Value → Shared → Prop} {s : Shared} {h₀ : Heap} {L d D : Addr} {m : Str → Option Value} {news : List (Addr × Obj)} {es : Ass} {vs : List Value} {Q : Value → Shared → Prop}
theorem lsort_small (F : Fr h₀ L s.heap m) (N : News h₀ L s.heap ((D, PySem.W.listOf vs.toArray 0) :: news)) (l1 : ∀ p ∈ news, p.1 < D) (h2 : vs.length < 2)
    (h : ∀ h' c, Fr h₀ L h' m → News h₀ L h' ((D, PySem.W.listOf vs.toArray c) :: news) → Q .none { s with heap := h' }) :
    wpAny (model prog w) A (call (.builtin "list.sort") [.ref D]) Q E s := by
  have z := N (D, PySem.W.listOf vs.toArray 0) (.head _)
  have ho : s.heap.get? D = some (seqObj "list" vs.toArray 0) := z.1
  refine wpAny_call_entry PyProof.Rows.slot_list_sort ⟨_, z.1, rfl⟩ PyProof.Rows.entry_list_sort ?_ (PyProof.Rows.args_list_sort _)
  rw [list_sort_plain]
  have o1 := get?_update_seq (c := "list") ho (fun _ => (#[] : Array Value))
  refine wpAny_bind (listItems_at ho rfl ?_)
  refine wpAny_bind (listUpdate_at ho rfl ?_ (by rw [List.size_toArray, sizeLine_eq]; omega) (Nat.zero_le _))
  refine wpAny_bind (seqEpoch_at o1 rfl ?_)
  refine wpAny_bind (wpAny_newTuple ?_ (by show vs.length ≤ _; rw [sizeLine_eq]; omega))
  refine wpAny_bind (wpAny_newList ?_ (Nat.zero_le _))
  refine wpAny_holding ?_
  show wpAny (model prog w) _ _ _ _ { s with heap := ((s.heap.update D (Obj.mapSeq fun _ => (#[] : Array Value))).push (seqObj "tuple" vs.toArray 0)).push (seqObj "list" #[] 0) }
  dsimp only
  have hs : vs.toArray.size < 2 := by rw [List.size_toArray]; exact h2
  rw [if_pos hs, if_pos hs]
  refine wpAny_bind (wpAny_pure ?_)
  rw [StateT.run_pure]
  refine wpAny_bind (wpAny_pure ?_)
  dsimp only
  have o3 := Heap.get?_push_of_some (seqObj "list" #[] 0) (Heap.get?_push_of_some (seqObj "tuple" vs.toArray 0) o1)
  refine wpAny_bind (seqEpoch_at o3 rfl ?_)
  have hout : (arrOf (SortSt.mk' general' (vs.toArray.zip vs.toArray) #[] 7 none)).map (·.2) = vs.toArray := by
    show (vs.toArray.zip vs.toArray).map (·.2) = vs.toArray
    apply Array.ext
    · simp
    · intro i h1 h2
      simp
  rw [hout]
  refine wpAny_bind (listUpdate_at o3 rfl ?_ (Nat.zero_le _) (by rw [List.size_toArray, sizeLine_eq]; omega))
  simp only [bne_self_eq_false, Bool.false_eq_true, if_false]
  have s1 : Heap.SameBut D s.heap (s.heap.update D (Obj.mapSeq fun _ => (#[] : Array Value))) := Heap.SameBut.update ..
  have F1 : Fr h₀ L (s.heap.update D (Obj.mapSeq fun _ => (#[] : Array Value))) m := F.change s1 z.2.1 z.2.2
  have F3 := (F1.push (seqObj "tuple" vs.toArray 0)).push (seqObj "list" #[] 0)
  have F4 := F3.change (Heap.SameBut.update _ D (Obj.mapSeq fun _ => vs.toArray)) z.2.1 z.2.2
  obtain ⟨c4, o4⟩ : ∃ c4, ((((s.heap.update D (Obj.mapSeq fun _ => (#[] : Array Value))).push (seqObj "tuple" vs.toArray 0)).push (seqObj "list" #[] 0)).update D (Obj.mapSeq fun _ => vs.toArray)).get? D = some (seqObj "list" vs.toArray c4) := ⟨_, get?_update_seq (c := "list") o3 (fun _ => vs.toArray)⟩
  refine wpAny_pure ⟨_, rfl, h _ c4 F4 fun p hp => ?_⟩
  rcases List.mem_cons.mp hp with rfl | hp
  · exact ⟨o4, z.2⟩
  · have q := N p (.tail _ hp)
    have ne : p.1 ≠ D := Nat.ne_of_lt (l1 p hp)
    refine ⟨?_, q.2⟩
    exact (Heap.get?_update_other _ _ ne.symm).trans (Heap.get?_push_of_some _ (Heap.get?_push_of_some _ ((Heap.get?_update_other _ _ ne.symm).trans q.1)))

theorem pr_at {kd : List (Int × Dat)} (hd : DatAll news vs (kd.map pr)) {i : Nat} (hi : i < kd.length) :
    ∃ a t x n, vs.getD i Value.none = .ref a ∧ (a, ({ cls := .type "tuple", data := .seq #[.int (kd.getD i (0, .none)).1 t, x] n } : Obj)) ∈ news := by
  obtain ⟨v, hv, hdv⟩ := hd.get (k := i) (by rw [List.length_map]; exact hi)
  have e : (kd.map pr)[i]'(by rw [List.length_map]; exact hi) = pr (kd.getD i (0, .none)) := by simp [hi]
  rw [e] at hdv
  unfold pr at hdv
  cases hdv with
  | tuple hm hr =>
    cases hr with
    | cons h1 hr =>
      cases h1 with
      | int _ t =>
        cases hr with
        | cons h2 hr =>
          cases hr
          exact ⟨_, t, _, _, by simp [hv], hm⟩

theorem tups_of (N : News h₀ L s.heap news) : ∀ {vs : List Value} {kd : List (Int × Dat)}, DatAll news vs (kd.map pr) → ∃ fs, KatTups s.heap vs fs ∧ fs.length = vs.length ∧ ∀ v ∈ fs, ∃ i t, v = .int i t
  | [], [], _ => ⟨[], trivial, rfl, fun _ h => nomatch h⟩
  | _ :: _, [], h => by cases h
  | [], _ :: _, h => by cases h
  | v :: vs, e :: kd, h => by
    simp only [List.map_cons] at h
    cases h with
    | cons h1 hr =>
      obtain ⟨fs, a, b, c⟩ := tups_of N hr
      unfold pr at h1
      cases h1 with
      | tuple hm hr =>
        cases hr with
        | cons h1 hr =>
          cases h1 with
          | int _ t =>
            refine ⟨.int e.1 t :: fs, .cons (N.get hm) rfl rfl rfl a, by simp [b], fun v hv => ?_⟩
            rcases List.mem_cons.mp hv with rfl | hv
            · exact ⟨_, _, rfl⟩
            · exact c v hv

theorem datAll_map (kd : List (Int × Dat)) (hd : DatAll news vs (kd.map pr)) : ∀ p : List Nat, (∀ i ∈ p, i < kd.length) → DatAll news (p.map fun i => vs.getD i Value.none) ((p.map fun i => kd.getD i (0, .none)).map pr)
  | [], _ => .nil
  | i :: p, h => by
    have hi := h i (.head _)
    obtain ⟨v, hv, hdv⟩ := hd.get (k := i) (by rw [List.length_map]; exact hi)
    have e : (kd.map pr)[i]'(by rw [List.length_map]; exact hi) = pr (kd.getD i (0, .none)) := by simp [hi]
    rw [e] at hdv
    simp only [List.map_cons]
    refine .cons ?_ (datAll_map kd hd p fun j hj => h j (.tail _ hj))
    have : vs.getD i Value.none = v := by simp [hv]
    rw [this]; exact hdv

theorem map_getD_range {α : Type} (x : α) (l : List α) : (List.range l.length).map (fun i => l.getD i x) = l := by
  apply List.ext_getElem
  · simp
  · intro i h1 h2
    simp at h1
    simp [h1]

theorem sort_pairs {kd : List (Int × Dat)} (F : Fr h₀ L s.heap m) (N : News h₀ L s.heap ((D, PySem.W.listOf vs.toArray 0) :: news)) (l1 : ∀ p ∈ news, p.1 < D) (hd : DatAll news vs (kd.map pr)) (h64 : kd.length < 64) (hn : (kd.map (·.1)).Nodup)
    (h : ∀ (h' : Heap) (out : List Value) (kd' : List (Int × Dat)) (c : Nat), Fr h₀ L h' m → News h₀ L h' ((D, PySem.W.listOf (List.toArray out) c) :: news) → DatAll news out (kd'.map pr) → kd'.Perm kd → (kd'.map (·.1)).Pairwise (· < ·) → Q .none { s with heap := h' }) :
    wpAny (model prog w) A (call (.builtin "list.sort") [.ref D]) Q E s := by
  have hl := hd.length
  rw [List.length_map] at hl
  by_cases h2 : vs.length < 2
  · refine lsort_small F N l1 h2 fun h' c F' N' => h h' vs kd c F' N' hd (List.Perm.refl _) ?_
    match kd, hl with
    | [], _ => exact .nil
    | [_], _ => exact List.pairwise_singleton _ _
    | _ :: _ :: _, hl => simp only [List.length_cons] at hl; omega
  · refine kat_lsort (vs := vs) (g := fun o => (D, o) :: news) F N (.head fun p hp => Nat.ne_of_lt (l1 p hp)) (by simp) (by omega) (by omega) fun e1 h' F' N' => ?_
    have N2 : News h₀ L h' news := fun p hp => N' p (.tail _ hp)
    obtain ⟨fs, t, hfl, hint⟩ := tups_of (s := { s with heap := h' }) N2 hd
    refine kat_kind (T := .type "int") t (by omega) (fun v hv => ?_) (by decide) ?_
    · obtain ⟨i, u, rfl⟩ := hint v hv
      exact Looks.of_pure rfl
    let key : Nat → Int := fun i => (kd.getD i (0, .none)).1
    have hkey : ∀ i j, i < kd.length → j < kd.length → i ≠ j → key i ≠ key j := fun i j hi hj hij e => by
      have hp := List.pairwise_iff_getElem.mp hn
      have gi : (kd.map (·.1))[i]'(by simpa using hi) = key i := by simp [key, hi]
      have gj : (kd.map (·.1))[j]'(by simpa using hj) = key j := by simp [key, hj]
      rcases Nat.lt_or_ge i j with q | q
      · exact hp i j (by simpa using hi) (by simpa using hj) q (by rw [gi, gj, e])
      · exact hp j i (by simpa using hj) (by simpa using hi) (by omega) (by rw [gi, gj, e])
    rw [hl]
    refine wpp_wp (key := key) (n := kd.length) (fun i j C hi hj hij hC => ?_) (sort_ok hkey (by omega) fun p hp ha => ?_)
    · obtain ⟨a, ta, xa, na, ea, ma⟩ := pr_at hd hi
      obtain ⟨b, tb, xb, nb, eb, mb⟩ := pr_at hd hj
      unfold kas_ask
      rw [ea, eb]
      refine kat_lt (s := { s with heap := h' }) (N2.get ma) rfl (N2.get mb) rfl (kat_cons ?_)
      refine (PySem.intKind prog w).eqBool (intKind_is prog w _ ta) (intKind_is prog w _ tb) ?_
      have hne : decide ((kd.getD i (0, Dat.none)).1 = (kd.getD j (0, Dat.none)).1) = false := decide_eq_false (hkey i j hi hj hij)
      rw [hne]
      refine kat_no ?_
      show wpAny _ _ (oneLt' true _ _) _ _ _
      exact oneLt_int hC
    · have hpl : ∀ i ∈ p.toList, i < kd.length := fun i hi => by
        obtain ⟨j, hj⟩ := List.mem_iff_getElem?.mp hi
        have hj' : j < p.size := by have := (List.getElem?_eq_some_iff.mp hj).1; simpa using this
        rw [hp.size] at hj'
        have e := hp.at hj'
        have e2 : p[j]? = some i := by simpa using hj
        rw [e2] at e
        have := hp.lt hj'
        rw [← Option.some.inj e] at this
        exact this
      refine KasFin.intro (s := { s with heap := h' }) F' N' (.head fun q hq => Nat.ne_of_lt (l1 q hq)) fun h'' c F'' N'' => ?_
      refine h h'' _ (p.toList.map fun i => kd.getD i (0, .none)) c F'' N'' (datAll_map kd hd _ hpl) ?_ ?_
      · have pl : p.toList.Perm (List.range kd.length) := by have := hp.perm.toList; simpa using this
        have := pl.map fun i => kd.getD i (0, Dat.none)
        rwa [map_getD_range] at this
      · rw [List.map_map]
        refine List.pairwise_iff_getElem.mpr fun i j hi hj hij => ?_
        simp only [List.length_map, Array.length_toList] at hi hj
        rw [hp.size] at hi hj
        have := ha i j hij hj
        have gi : p.getD i 0 = p[i]'(by rw [hp.size]; exact hi) := by simp [Array.getD, hp.size, hi]
        have gj : p.getD j 0 = p[j]'(by rw [hp.size]; exact hj) := by simp [Array.getD, hp.size, hj]
        unfold Ky at this
        rw [gi, gj] at this
        simpa [key] using this

/-- the pairs of a dict, by their keys -/
def SI (es : Ass) : List Dat := (ks es).map fun k => pr (k, (get es k).getD .none)
theorem get_mem {es : Ass} (hn : (es.map (·.1)).Nodup) {e : Int × Dat} (he : e ∈ es) : get es e.1 = some e.2 := by
  induction es with
  | nil => cases he
  | cons x es ih =>
    simp only [List.map_cons, List.nodup_cons] at hn
    rcases List.mem_cons.mp he with rfl | he
    · simp [get]
    · have hne : x.1 ≠ e.1 := fun q => hn.1 (by rw [q]; exact List.mem_map_of_mem he)
      have := ih hn.2 he
      simp only [get] at this ⊢
      simp [hne, this]
theorem SI_of {es kd : Ass} (ho : EOk es) (hp : kd.Perm es) (ha : (kd.map (·.1)).Pairwise (· < ·)) : kd.map pr = SI es := by
  have hk : kd.map (·.1) = ks es := ho.sorted (hp.map _) (ha.imp fun h => Int.le_of_lt h)
  unfold SI
  rw [← hk, List.map_map]
  refine List.map_congr_left fun e he => ?_
  have := get_mem ho.nodup (hp.mem_iff.mp he)
  simp [this]
theorem dat_list {D : Addr} {c : Nat} {out : List Value} {ds : List Dat} (hm : (D, PySem.W.listOf (List.toArray out) c) ∈ news) (h : DatAll news out ds) : DatIn news (.ref D) (.list ds) := .list hm h

theorem pairs_in {kvs : List (Int × Value)} {as : List Addr} {lo : Addr} {h : Heap} (hG : KdxG (PySem.intKind prog w) kvs lo h as) (hl : as.length = kvs.length) (hk : kvs.map (·.1) = es.map (·.1)) (hd : DatAll news (kvs.map (·.2)) (es.map (·.2))) :
    ∃ tl : List (Addr × Obj), (∀ p ∈ tl, p.1 ∈ as ∧ h.get? p.1 = some p.2) ∧ DatAll (tl ++ news) (as.map Value.ref) (es.map pr) := by
  have key : ∀ (n : Nat) (as : List Addr) (kvs : List (Int × Value)) (es : Ass), as.length = n → as.length = kvs.length → kvs.map (·.1) = es.map (·.1) → DatAll news (kvs.map (·.2)) (es.map (·.2)) →
      (∀ (j : Nat) (a : Addr), as[j]? = some a → ∃ key k x, kvs[j]? = some (k, x) ∧ (PySem.intKind prog w).is k key = true ∧ h.get? a = some { cls := .type "tuple", data := .seq #[key, x] }) →
      ∃ tl : List (Addr × Obj), (∀ p ∈ tl, p.1 ∈ as ∧ h.get? p.1 = some p.2) ∧ DatAll (tl ++ news) (as.map Value.ref) (es.map pr) := by
    intro n
    induction n with
    | zero =>
      intro as kvs es h0 hl hk hd hp
      have ea : as = [] := List.eq_nil_of_length_eq_zero h0
      subst ea
      have ek : kvs = [] := List.eq_nil_of_length_eq_zero (by simpa using hl.symm)
      subst ek
      have ee : es = [] := List.map_eq_nil_iff.mp hk.symm
      subst ee
      exact ⟨[], (fun _ h => nomatch h), DatAll.nil⟩
    | succ n ih =>
      intro as kvs es h0 hl hk hd hp
      match as, kvs, es with
      | a :: as, kv :: kvs, e :: es =>
        simp only [List.length_cons] at h0 hl
        simp only [List.map_cons, List.cons.injEq] at hk
        simp only [List.map_cons] at hd
        cases hd with
        | cons hd1 hdr =>
          obtain ⟨tl, t1, t2⟩ := ih as kvs es (by omega) (by omega) hk.2 hdr fun j b hj => by
            obtain ⟨key, k, x, e1, e2, e3⟩ := hp (j + 1) b (by simpa using hj)
            exact ⟨key, k, x, by simpa using e1, e2, e3⟩
          obtain ⟨ky, k, x, e1, e2, e3⟩ := hp 0 a rfl
          simp only [List.getElem?_cons_zero, Option.some.injEq] at e1
          subst e1
          obtain ⟨t, rfl⟩ := PySem.Value.isInt_shape e2
          refine ⟨(a, { cls := .type "tuple", data := .seq #[.int k t, x] }) :: tl, fun p hp => ?_, ?_⟩
          · rcases List.mem_cons.mp hp with rfl | hp
            · exact ⟨.head _, e3⟩
            · exact ⟨.tail _ (t1 p hp).1, (t1 p hp).2⟩
          · simp only [List.map_cons, List.cons_append]
            refine .cons ?_ (t2.mono fun p hp => .tail _ hp)
            have ek : e.1 = k := hk.1.symm
            unfold pr
            rw [ek]
            refine .tuple (vs := [.int k t, x]) (n := 0) (.head _) (.cons (.int _ _) (.cons (hd1.mono fun p hp => .tail _ (List.mem_append_right _ hp)) .nil))
      | [], _, _ => simp at h0
      | _ :: _, [], _ => simp at hl
      | _ :: _, _ :: _, [] => simp at hk
  exact key as.length as kvs es rfl hl hk hd hG.pairs

theorem sorted_items {v : Addr} (hh : A.handled = none) (F : Fr h₀ L s.heap m) (N : News h₀ L s.heap news) (hv : (v, ({ cls := .type "dict_items", data := .fields #[.ref d] } : Obj)) ∈ news) (hd : DD prog w news d es) (ho : EOk es)
    (h : ∀ (D : Addr) (h' : Heap) (tk : Nat) (news' : List (Addr × Obj)), Fr h₀ L h' m → News h₀ L h' news' → (∀ p ∈ news, p ∈ news') → DatIn news' (.ref D) (.list (SI es)) → Q (.ref D) { s with heap := h', toks := tk }) :
    wpAny (model prog w) A (call (.builtin "sorted") [.ref v]) Q E s := by
  obtain ⟨od, kvs, a, b, c, e, f⟩ := hd
  obtain ⟨ep, hat⟩ := KdkAt.of b
  have hlen : kvs.length = es.length := by have := congrArg List.length c; simpa using this
  have hs := ho.short
  refine call_function_entry kind_sorted plain_sorted entry_sorted (args_sorted1 _) ?_
  unfold Builtin.«sorted»
  refine wpAny_bind (m := checkCount "sorted" 1 1 _) (wpAny_pure ?_)
  refine wpAny_bind (kdx_collect (A := A.in1) (knd := PySem.intKind prog w) (kvs := kvs) (ep := ep) hh ⟨_, (N _ hv).1, rfl, rfl⟩ (hat.dictAt (N _ a).1) (by rw [sizeLine_eq]; omega) fun h' tk as hk hl hG => ?_)
  obtain ⟨tl, t1, t2⟩ := pairs_in hG hl c e
  refine wpAny_bind (wpAny_newList ?_ (by rw [List.length_map, hl, sizeLine_eq]; omega))
  have N' : News h₀ L h' (tl ++ news) := fun q hq => by
    rcases List.mem_append.mp hq with hq | hq
    · exact ⟨(t1 q hq).2, kdx_fresh F (Nat.le_of_lt (hG.above _ (t1 q hq).1))⟩
    · exact ⟨hk _ _ (N q hq).1, (N q hq).2⟩
  have F' := (F.keeps hk).push (seqObj "list" (as.map Value.ref).toArray 0)
  have N2 := News.push (F.keeps hk) N' (seqObj "list" (as.map Value.ref).toArray 0) rfl
  refine wpAny_bind (wpAny_holding (sort_pairs (s := { s with heap := h'.push (seqObj "list" (as.map Value.ref).toArray 0), toks := tk }) (Q := fun _ s' => wpAny _ _ _ _ _ s') F' N2 (fun p hp => Heap.lt_size (N' p hp).1) t2 (by rw [← hlen]; omega) ho.nodup fun h'' out kd' c' F2 N3 d2 p2 a2 => ?_))
  refine wpAny_pure ⟨_, rfl, ?_⟩
  have e2 := SI_of ho p2 a2
  refine h _ h'' tk _ F2 N3 (fun p hp => .tail _ (List.mem_append_right _ hp)) ?_
  rw [← e2]
  exact dat_list (.head _) (d2.mono fun p hp => .tail _ hp)
end
end Mine
namespace Mine
section
variable {prog : Program} {w : World} {A : Around} {E : Value → Shared → Prop} {s : Shared} {h₀ : Heap} {L : Addr} {m : Str → Option Value} {env : Env}
/-- what a filtering comprehension over ints goes over -/
def ISrc (s : Shared) (news : List (Addr × Obj)) (xv : Value) (ns : List Int) : Prop :=
  (∃ l vs c, xv = .ref l ∧ (l, PySem.W.listOf (List.toArray vs) c) ∈ news ∧ IntsAre vs ns) ∨ (∃ r t u v, xv = .ref r ∧ IsRange s.heap r 1 13 1 t u v ∧ ns = rng)
def isI (q : Int → Bool) : Value → Bool
  | .int k _ => q k
  | _ => false
theorem ints_filter {q : Int → Bool} : ∀ {vs : List Value} {ns : List Int}, IntsAre vs ns → IntsAre (vs.filter (isI q)) (ns.filter q)
  | _, _, .nil => .nil
  | _, _, .cons k t r => by
    have ih := ints_filter (q := q) r
    cases e : q k
    · simpa [isI, e] using ih
    · simpa [isI, e] using IntsAre.cons k t ih
theorem paired_eq : ∀ {a b : List Value}, Paired (fun v y => y = v) a b → b = a
  | _, _, .nil => rfl
  | _, _, .cons h t => by rw [h, paired_eq t]
theorem rng_at {i : Nat} (h : i < 12) : rng[i]? = some ((1 : Int) + (i : Int) * 1) := by
  match i, h with
  | 0, _ => rfl
  | 1, _ => rfl
  | 2, _ => rfl
  | 3, _ => rfl
  | 4, _ => rfl
  | 5, _ => rfl
  | 6, _ => rfl
  | 7, _ => rfl
  | 8, _ => rfl
  | 9, _ => rfl
  | 10, _ => rfl
  | 11, _ => rfl
  | n + 12, h => omega

theorem isrc_walks {s₁ : Shared} {news : List (Addr × Obj)} {xv : Value} {ns : List Int} (hh : A.handled = none) (N : News h₀ L s₁.heap news) (S : ISrc s₁ news xv ns) {Q : Value → Shared → Prop}
    (k : ∀ (I : Addr) fp n P St oI, Walks prog w A I fp [I] n P St → n = ns.length → I = s₁.heap.objs.size → St 0 (s₁.heap.push oI) → (∀ b ∈ fp, b < (s₁.heap.push oI).objs.size) →
      (∀ i v, P i v → ∃ t, ∃ k, v = .int k t ∧ ns[i]? = some k) → Q (.ref I) { s₁ with heap := s₁.heap.push oI }) :
    wpAny (model prog w) A (pyIter xv) Q E s₁ := by
  rcases S with ⟨l, vs, c, rfl, hm, hi⟩ | ⟨r, t, u, v, rfl, hr, rfl⟩
  · have hl : s₁.heap.IsList l vs.toArray := ⟨_, (N _ hm).1, rfl, c, rfl⟩
    have hlt : l < s₁.heap.objs.size := Heap.lt_size (N _ hm).1
    refine wpAny_pyIter_list hl ?_
    refine k _ _ _ _ _ _ (Walks.list hh s₁.heap.objs.size l (Nat.ne_of_lt hlt) vs.toArray) (by rw [List.size_toArray]; exact hi.length) rfl ⟨⟨_, Heap.get?_push_size _ rfl, rfl, rfl⟩, hl.push _⟩ (fun b hb => ?_) fun i v hv => ?_
    · rw [Heap.size_push]
      rcases List.mem_cons.mp hb with rfl | hb
      · exact Nat.lt_succ_self _
      · rw [List.mem_singleton.mp hb]; exact Nat.lt_succ_of_lt hlt
    · have hv' : vs[i]? = some v := by simpa using hv
      have hlt' : i < ns.length := by
        have := (List.getElem?_eq_some_iff.mp hv').1
        rw [← hi.length]; exact this
      obtain ⟨t, ht⟩ := hi.get i ns[i] (by simp [hlt'])
      rw [ht] at hv'
      exact ⟨t, ns[i], (Option.some.inj hv').symm, by simp [hlt']⟩
  · refine wpAny_pyIter_range hr (by rfl) ?_
    have W : Walks prog w A s₁.heap.objs.size [s₁.heap.objs.size] [s₁.heap.objs.size] 12 (fun i v => i < 12 ∧ ∃ t, v = .int (1 + (i : Int) * 1) t) (fun i h => IsRangeIter h s₁.heap.objs.size (1 + (i : Nat) * 1) (((12 : Nat) : Int) - (i : Nat)) 1) := (Walks.range hh _ 1 1 12).bound
    refine k _ _ _ _ _ _ W (by rfl) rfl (by show IsRangeIter _ _ _ _ _; exact Heap.get?_push_size _ rfl) (fun b hb => ?_) fun i v hv => ?_
    · rw [List.mem_singleton.mp hb, Heap.size_push]; exact Nat.lt_succ_self _
    · obtain ⟨hi, t, rfl⟩ := hv
      exact ⟨t, _, rfl, rng_at hi⟩

theorem asg_filter {elt iter : PySem.Expr} {x y : Str} {px py xpos : Pos} {c : PySem.Expr} {scope : Scope} {cl : List (Str × Addr)} {pos spos : Pos} {Q : Flow → Shared → Prop} (q : Int → Bool) (_F₀ : Fr h₀ L s.heap m) (hLe : env.locals = L) (hh : A.handled = none)
    (helt : elt = .Name x xpos)
    (hsw : swapsWith (.ListComp elt [⟨.Name x px, iter, [c], 0⟩] scope pos) (some (.Name y py)) spos.line env = pure true)
    (hclos : closureFor scope env = pure cl) (hcell : ∀ z ∈ scope.names, z.2 ≠ .cell) (hkind : scope.kind = .function)
    (hnames : ∀ z ∈ scope.names, z.2 = .local → scope.names.lookup z.1 = some .local) (hx : scope.names.lookup x = some .local)
    (hy : env.kindOf y = some .local) (hp : (env.scope.kind == .class || (env.scope.kind == .module && env.locals != env.globals)) = false) (hdb : (x == ("__debug__" : Str)) = false)
    (h : wpAny (model prog w) A (eval iter env) (fun xv s₁ => ∃ news₁ ns, Fr h₀ L s₁.heap m ∧ News h₀ L s₁.heap news₁ ∧ ISrc s₁ news₁ xv ns ∧ ns.length ≤ 100000 ∧
      (∀ (C : Addr) (k : Int) (t : Tok) (s₃ : Shared) (m₃ : Str → Option Value) (E' : Value → Shared → Prop), Fr h₀ L s₃.heap m → News h₀ L s₃.heap news₁ → s₃.heap.Ns C m₃ → m₃ x = some (.int k t) → k ∈ ns →
        wpAny (model prog w) A (isTrue c (compEnvC scope cl C env) (eval c (compEnvC scope cl C env))) (fun ok s₄ => ok = q k ∧ Keeps s₃ s₄) E' s₃) ∧
      (∀ (D : Addr) (h' : Heap) (tk : Nat) (ys : List Value) (c' : Nat), Fr h₀ L h' (fun z => if z = y then some (.ref D) else m z) → News h₀ L h' ((D, PySem.W.listOf (List.toArray ys) c') :: news₁) → IntsAre ys (ns.filter q) → Q .next { s₁ with heap := h', toks := tk })) E s)
    (hs : ∀ x, foldedSetIterable iter env x = pure x) :
    wpAny (model prog w) A (exec (.Assign [.Name y py] (.ListComp elt [⟨.Name x px, iter, [c], 0⟩] scope pos) spos) env) Q E s := by
  subst hLe helt
  refine wpAny_Assign_ListComp_free (isI q) (fun v y => y = v) hsw hclos hcell hkind hnames hx hy hp (wpAny_mono h (fun xv s₁ h₁ => ?_) fun _ _ e => e) hs
  obtain ⟨news₁, ns, F, N, S, hn, T, K⟩ := h₁
  refine isrc_walks hh N S fun I fp n P St oI W en eI hst hfp hP => ?_
  subst en eI
  have Ns := F.ns
  have up : ∀ b o, s₁.heap.get? b = some o → (s₁.heap.push oI).get? b = some o := fun b o e => Heap.get?_push_of_some _ e
  have lI : ∀ b o, s₁.heap.get? b = some o → b ∉ [s₁.heap.objs.size] := fun b o e hb => absurd (Heap.lt_size e) (by rw [List.mem_singleton.mp hb]; exact Nat.lt_irrefl _)
  have nL : env.locals ≠ s₁.heap.objs.size := Nat.ne_of_lt F.ns.lt
  have tr : ∀ s₃ : Shared, (∀ b o, b ∉ [s₁.heap.objs.size] → (s₁.heap.push oI).get? b = some o → s₃.heap.get? b = some o) → Fr h₀ env.locals s₃.heap m ∧ News h₀ env.locals s₃.heap news₁ := fun s₃ hk =>
    have hk' : ∀ b o, s₁.heap.get? b = some o → s₃.heap.get? b = some o := fun b o e => hk b o (lI b o e) (up b o e)
    ⟨F.keeps hk', fun p hp => ⟨hk' _ _ (N p hp).1, (N p hp).2⟩⟩
  have ev : ∀ C (s₃ : Shared) m₃ v (E' : Value → Shared → Prop), s₃.heap.Ns C m₃ → m₃ x = some v → wpAny (model prog w) A (eval (.Name x xpos) (compEnvC scope cl C env)) (fun y s₄ => y = v ∧ Keeps s₃ s₄) E' s₃ := fun C s₃ m₃ v E' hn₃ hm₃ =>
    wpAny_Name (wpAny_loadName_local (env := compEnvC scope cl C env) hkind (lookup_relabel_local hx) hn₃ hm₃ ⟨rfl, s₃.heap, s₃.toks, rfl, fun _ _ e => e⟩) hdb
  refine ⟨_, fp, _, ns.length, P, St, m, rfl, W, by rw [sizeLine_eq]; omega, hst, hfp, ?_, Ns.at' fun o e => up _ o e, ⟨fun C i v s₃ m₃ E' hC hPv hn₃ hm₃ hk _ => ?_, fun C i v s₃ m₃ E' hC hPv hpv hn₃ hm₃ hk _ => ?_⟩, fun D h' tk ys vs hD hlD hpl hlen hPv hF hn' hk => ?_⟩
  · exact fun hb => nL (List.mem_singleton.mp hb)
  · obtain ⟨t, k, rfl, hk2⟩ := hP i v hPv
    obtain ⟨F₃, N₃⟩ := tr s₃ hk
    exact wpAny_tests_one (T C k t s₃ m₃ E' F₃ N₃ hn₃ hm₃ (List.mem_of_getElem? hk2))
  · exact ev C s₃ m₃ v E' hn₃ hm₃
  · have hiv : IntsAre vs ns := ints_of (P := fun _ _ => True) hlen fun j v n hj hnj => by
      obtain ⟨t, k, rfl, e⟩ := hP j v (hPv j v hj)
      rw [hnj] at e
      cases e
      exact ⟨t, rfl⟩
    have hk' : ∀ b o, b ≠ env.locals → s₁.heap.get? b = some o → h'.get? b = some o := fun b o hb e => hk b o hb (lI b o e) (up b o e)
    have eys := paired_eq hF
    obtain ⟨c', hc'⟩ := hpl
    have eo : ys = ys.toList.toArray := by simp
    have hL₀ : h₀.get? env.locals = none := Heap.get?_none_of_le F.above
    have dn : ∀ b o, s₁.heap.get? b = some o → b ≠ D := fun b o e q => by rw [← q, up b o e] at hD; cases hD
    refine K D h' tk ys.toList c' ⟨hn', fun b o e => hk' b o (fun q => by rw [q, hL₀] at e; cases e) (F.keep b o e), F.above⟩ (fun p hp => ?_) (by rw [eys]; exact ints_filter hiv)
    rcases List.mem_cons.mp hp with rfl | hp
    · refine ⟨by rw [← eo]; exact hc', fun q => ?_, ?_⟩
      · obtain ⟨oL, _, _, e, _⟩ := F.ns
        exact dn _ _ e q.symm
      · cases e : h₀.get? D with
        | none => rfl
        | some o => exact absurd rfl (dn _ _ (F.keep _ _ e))
    · exact ⟨hk' _ _ (N p hp).2.1 (N p hp).1, (N p hp).2⟩
end
end Mine
namespace Mine
/-! a loop over a ledger: mu turns, tl grows, rest stays -/
abbrev Led := List (Addr × Obj)
def TurnEnd (h₀ : Heap) (L I : Addr) (adr : List Addr) (own rest : Led) (J : (Str → Option Value) → Led → Led → Prop) (s : Shared) (f : Flow) (s₂ : Shared) : Prop :=
  f = .next ∧ ∃ h' tk m' mu' tl', s₂ = { s with heap := h', toks := tk } ∧ Fr h₀ L h' m' ∧ News h₀ L h' (mu' ++ (own ++ (tl' ++ rest))) ∧ mu'.map (·.1) = adr ∧ (∀ p ∈ tl', p.1 ∉ adr ∧ p.1 ≠ I) ∧ J m' mu' tl'
section
variable {prog : Program} {w : World} {A : Around} {E : Value → Shared → Prop} {s : Shared} {h₀ : Heap} {env : Env} {target iter : PySem.Expr} {body : List Stmt} {Q : Flow → Shared → Prop} {m : Str → Option Value} {mu₀ rest : Led} {adr : List Addr}
theorem loop_at {I : Addr} {fp : List Addr} {n : Nat} {P : Nat → Value → Prop} {St : Nat → Heap → Prop} (J : Nat → (Str → Option Value) → Led → Led → Prop)
    (W : Walks prog w A I fp [I] n P St) (hfp : ∀ b ∈ fp, b = I ∨ ∃ o, (b, o) ∈ rest) (hLI : env.locals ≠ I) (hI0 : h₀.get? I = none) (hIn : ∀ p ∈ mu₀ ++ rest, p.1 ≠ I) (hadr : mu₀.map (·.1) = adr)
    (hmu : ∀ p ∈ rest, p.1 ∉ adr) (hst : St 0 s.heap) (hoI : ∀ i h, St i h → ∃ o, h.get? I = some o) (F : Fr h₀ env.locals s.heap m) (N : News h₀ env.locals s.heap (mu₀ ++ rest))
    (hgo : ∀ i (s' : Shared) v (Q' : Unit → Shared → Prop), St i s'.heap → Q' () s' → wpAny (model prog w) A (letOwnedTupleGo target (.ref I) v) Q' E s') (h0 : J 0 m mu₀ [])
    (turn : ∀ i v m₁ mu tl oI s₁ own, i < n → P i v → J i m₁ mu tl → mu.map (·.1) = adr → (∀ p ∈ own ++ (tl ++ rest), p.1 ∉ adr) → (∀ p ∈ tl, p.1 ≠ I) → (I, oI) ∈ own → Fr h₀ env.locals s₁.heap m₁ → News h₀ env.locals s₁.heap (mu ++ (own ++ (tl ++ rest))) →
      wpAny (model prog w) A (assign target env v) (fun _ s₃ => wpAny (model prog w) A (execs body env) (TurnEnd h₀ env.locals I adr own rest (J (i + 1)) s₁) E s₃) E s₁)
    (done : ∀ h' tk m' mu tl, Fr h₀ env.locals h' m' → News h₀ env.locals h' (mu ++ (tl ++ rest)) → mu.map (·.1) = adr → (∀ p ∈ tl, p.1 ∉ adr) → J n m' mu tl → Q .next { s with heap := h', toks := tk }) :
    LoopAtT prog w A h₀ env target body Q E (.ref I) s := by
  have hIadr : I ∉ adr := fun hm => by
    rw [← hadr] at hm
    obtain ⟨p, hp, e⟩ := List.mem_map.mp hm
    exact hIn p (List.mem_append_left _ hp) e
  have hIr : ∀ p ∈ rest, p.1 ≠ I := fun p hp => hIn p (List.mem_append_right _ hp)
  refine ⟨I, fp, [I], n, P, St, m, mu₀ ++ rest, (fun i m₁ nx => ∃ mu tl, nx = mu ++ (tl ++ rest) ∧ mu.map (·.1) = adr ∧ (∀ p ∈ tl, p.1 ∉ adr ∧ p.1 ≠ I) ∧ J i m₁ mu tl), rfl, W, ?_, ?_, ?_, hst, F, N, hgo, ⟨mu₀, [], rfl, hadr, (fun _ h => nomatch h), h0⟩, ?_, ?_⟩
  · intro hm
    rcases hfp _ hm with e | ⟨o, ho⟩
    · exact hLI e
    · exact (N _ (List.mem_append_right _ ho)).2.1 rfl
  · intro b hb; rw [List.mem_singleton.mp hb]; exact hI0
  · intro p hp hb; exact hIn p hp (List.mem_singleton.mp hb)
  · rintro i v m₁ nx s₁ own hi hP ⟨mu, tl, rfl, ha, ht, hJ⟩ hoff hown _ hfull hst' F₁ N₁
    obtain ⟨oI, eI⟩ := hoI _ _ hst'
    have hIo : (I, oI) ∈ own := hfull I (W.sub I (.head _)) hI0 oI eI
    have hoa : ∀ p ∈ own, p.1 ∉ adr := fun p hp hm => by
      rcases hfp _ (hown p hp) with e | ⟨o, ho⟩
      · exact hIadr (e ▸ hm)
      · exact hmu _ ho hm
    refine wpAny_mono (turn i v m₁ mu tl oI s₁ own hi hP hJ ha (fun p hp => ?_) (fun p hp => (ht p hp).2) hIo F₁ (fun p hp => N₁ p ?_)) (fun _ s₃ h₃ => wpAny_mono h₃ (fun f s₄ h₄ => ?_) fun _ _ e => e) fun _ _ e => e
    · rcases List.mem_append.mp hp with hp | hp
      · exact hoa p hp
      · rcases List.mem_append.mp hp with hp | hp
        · exact (ht p hp).1
        · exact hmu p hp
    · rcases List.mem_append.mp hp with hp | hp
      · exact List.mem_append_right _ (List.mem_append_left _ hp)
      · rcases List.mem_append.mp hp with hp | hp
        · exact List.mem_append_left _ hp
        · exact List.mem_append_right _ (List.mem_append_right _ hp)
    · obtain ⟨rfl, h', tk, m', mu', tl', rfl, F', N', ha', ht', hJ'⟩ := h₄
      refine ⟨rfl, h', tk, m', mu' ++ (tl' ++ rest), rfl, F', fun p hp => N' p ?_, fun p hp hb => ?_, mu', tl', rfl, ha', ht', hJ'⟩
      · rcases List.mem_append.mp hp with hp | hp
        · exact List.mem_append_right _ (List.mem_append_left _ hp)
        · rcases List.mem_append.mp hp with hp | hp
          · exact List.mem_append_left _ hp
          · exact List.mem_append_right _ (List.mem_append_right _ hp)
      · have hb' := List.mem_singleton.mp hb
        rcases List.mem_append.mp hp with hp | hp
        · exact hIadr (by rw [← hb', ← ha']; exact List.mem_map_of_mem hp)
        · rcases List.mem_append.mp hp with hp | hp
          · exact (ht' p hp).2 hb'
          · exact hIr p hp hb'
  · rintro h' tk m' nx F' N' _ ⟨mu, tl, rfl, ha, ht, hJ⟩
    exact done h' tk m' mu tl F' N' ha (fun p hp => (ht p hp).1) hJ

/-- over a made list -/
theorem loop_list {l : Addr} {vs : List Value} {c : Nat} (J : Nat → (Str → Option Value) → Led → Led → Prop) (hh : A.handled = none) (F : Fr h₀ env.locals s.heap m) (N : News h₀ env.locals s.heap (mu₀ ++ rest)) (hl : (l, PySem.W.listOf (List.toArray vs) c) ∈ rest)
    (hadr : mu₀.map (·.1) = adr) (hmu : ∀ p ∈ rest, p.1 ∉ adr) (h0 : J 0 m mu₀ [])
    (turn : ∀ i v m₁ mu tl I oI s₁ own, vs[i]? = some v → J i m₁ mu tl → mu.map (·.1) = adr → (∀ p ∈ own ++ (tl ++ rest), p.1 ∉ adr) → (∀ p ∈ tl, p.1 ≠ I) → (I, oI) ∈ own → Fr h₀ env.locals s₁.heap m₁ → News h₀ env.locals s₁.heap (mu ++ (own ++ (tl ++ rest))) →
      wpAny (model prog w) A (assign target env v) (fun _ s₃ => wpAny (model prog w) A (execs body env) (TurnEnd h₀ env.locals I adr own rest (J (i + 1)) s₁) E s₃) E s₁)
    (done : ∀ h' tk m' mu tl, Fr h₀ env.locals h' m' → News h₀ env.locals h' (mu ++ (tl ++ rest)) → mu.map (·.1) = adr → (∀ p ∈ tl, p.1 ∉ adr) → J vs.length m' mu tl → Q .next { s with heap := h', toks := tk }) :
    wpAny (model prog w) A (pyIter (.ref l)) (fun it s₂ => LoopAtT prog w A h₀ env target body Q E it s₂) E s := by
  have hls : s.heap.IsList l vs.toArray := ⟨_, (N _ (List.mem_append_right _ hl)).1, rfl, c, rfl⟩
  have hlt : l < s.heap.objs.size := Heap.lt_size (N _ (List.mem_append_right _ hl)).1
  refine wpAny_pyIter_list hls ?_
  have W := Walks.list (prog := prog) (w := w) hh s.heap.objs.size l (Nat.ne_of_lt hlt) vs.toArray
  rw [List.size_toArray] at W
  refine loop_at J W (fun b hb => ?_) (Nat.ne_of_lt F.ns.lt) (next_is_new F) (fun p hp => Nat.ne_of_lt (Heap.lt_size (N p hp).1)) hadr hmu ⟨⟨_, Heap.get?_push_size _ rfl, rfl, rfl⟩, hls.at fun o e => Heap.get?_push_of_some _ e⟩
    (fun i h st => by obtain ⟨o, e, _⟩ := st.1; exact ⟨o, e⟩) (F.push _) (fun p hp => ⟨Heap.get?_push_of_some _ (N p hp).1, (N p hp).2⟩) (fun i s' v Q' st hQ' => letGo_listiter st.1 hQ') h0
    (fun i v m₁ mu tl oI s₁ own _ hP => turn i v m₁ mu tl _ oI s₁ own (by simpa using hP)) done
  rcases List.mem_cons.mp hb with e | hb
  · exact .inl e
  · exact .inr ⟨_, (List.mem_singleton.mp hb) ▸ hl⟩

/-- over a made dict's keys -/
theorem loop_dict {d : Addr} {od : Obj} {kvs : List (Int × Value)} (J : Nat → (Str → Option Value) → Led → Led → Prop) (hh : A.handled = none) (F : Fr h₀ env.locals s.heap m) (N : News h₀ env.locals s.heap (mu₀ ++ rest)) (hl : (d, od) ∈ rest)
    (hd : od.IsDictOf (PySem.intKind prog w) kvs) (lo : (d == sysModules) = false) (hadr : mu₀.map (·.1) = adr) (hmu : ∀ p ∈ rest, p.1 ∉ adr) (h0 : J 0 m mu₀ [])
    (turn : ∀ i k x t m₁ mu tl I oI s₁ own, kvs[i]? = some (k, x) → J i m₁ mu tl → mu.map (·.1) = adr → (∀ p ∈ own ++ (tl ++ rest), p.1 ∉ adr) → (∀ p ∈ tl, p.1 ≠ I) → (I, oI) ∈ own → Fr h₀ env.locals s₁.heap m₁ → News h₀ env.locals s₁.heap (mu ++ (own ++ (tl ++ rest))) →
      wpAny (model prog w) A (assign target env (.int k t)) (fun _ s₃ => wpAny (model prog w) A (execs body env) (TurnEnd h₀ env.locals I adr own rest (J (i + 1)) s₁) E s₃) E s₁)
    (done : ∀ h' tk m' mu tl, Fr h₀ env.locals h' m' → News h₀ env.locals h' (mu ++ (tl ++ rest)) → mu.map (·.1) = adr → (∀ p ∈ tl, p.1 ∉ adr) → J kvs.length m' mu tl → Q .next { s with heap := h', toks := tk }) :
    wpAny (model prog w) A (pyIter (.ref d)) (fun it s₂ => LoopAtT prog w A h₀ env target body Q E it s₂) E s := by
  obtain ⟨ep, hat⟩ := KdkAt.of hd
  have hda := hat.dictAt (N _ (List.mem_append_right _ hl)).1
  have hlt : d < s.heap.objs.size := Heap.lt_size (N _ (List.mem_append_right _ hl)).1
  refine wpAny_pyIter_dict lo hda ?_
  have W := Walks.dictKeys (prog := prog) (w := w) (knd := PySem.intKind prog w) hh s.heap.objs.size d (Nat.ne_of_lt hlt) kvs ep
  refine loop_at J W (fun b hb => ?_) (Nat.ne_of_lt F.ns.lt) (next_is_new F) (fun p hp => Nat.ne_of_lt (Heap.lt_size (N p hp).1)) hadr hmu ⟨⟨_, Heap.get?_push_size _ rfl, rfl, rfl⟩, hda.push _⟩
    (fun i h st => by obtain ⟨o, e, _⟩ := st.1; exact ⟨o, e⟩) (F.push _) (fun p hp => ⟨Heap.get?_push_of_some _ (N p hp).1, (N p hp).2⟩) (fun i s' v Q' st hQ' => letGo_keyiter st.1 hQ') h0
    (fun i v m₁ mu tl oI s₁ own _ hP => ?_) done
  · rcases List.mem_cons.mp hb with e | hb
    · exact .inl e
    · exact .inr ⟨_, (List.mem_singleton.mp hb) ▸ hl⟩
  · obtain ⟨k, x, hx, hk⟩ := hP
    obtain ⟨t, rfl⟩ := PySem.Value.isInt_shape hk
    exact turn i k x t m₁ mu tl _ oI s₁ own hx

/-- over range(1, 13) -/
theorem loop_rng {r : Addr} {t₀ u₀ v₀ : Tok} (J : Nat → (Str → Option Value) → Led → Led → Prop) (hh : A.handled = none) (F : Fr h₀ env.locals s.heap m) (N : News h₀ env.locals s.heap (mu₀ ++ rest)) (hr : IsRange s.heap r 1 13 1 t₀ u₀ v₀)
    (hadr : mu₀.map (·.1) = adr) (hmu : ∀ p ∈ rest, p.1 ∉ adr) (h0 : J 0 m mu₀ [])
    (turn : ∀ i t m₁ mu tl I oI s₁ own, i < 12 → J i m₁ mu tl → mu.map (·.1) = adr → (∀ p ∈ own ++ (tl ++ rest), p.1 ∉ adr) → (∀ p ∈ tl, p.1 ≠ I) → (I, oI) ∈ own → Fr h₀ env.locals s₁.heap m₁ → News h₀ env.locals s₁.heap (mu ++ (own ++ (tl ++ rest))) →
      wpAny (model prog w) A (assign target env (.int ((i : Int) + 1) t)) (fun _ s₃ => wpAny (model prog w) A (execs body env) (TurnEnd h₀ env.locals I adr own rest (J (i + 1)) s₁) E s₃) E s₁)
    (done : ∀ h' tk m' mu tl, Fr h₀ env.locals h' m' → News h₀ env.locals h' (mu ++ (tl ++ rest)) → mu.map (·.1) = adr → (∀ p ∈ tl, p.1 ∉ adr) → J 12 m' mu tl → Q .next { s with heap := h', toks := tk })
    (hgo : ∀ (I : Addr) i (s' : Shared) v (Q' : Unit → Shared → Prop), IsRangeIter s'.heap I (1 + (i : Nat) * 1) (((12 : Nat) : Int) - (i : Nat)) 1 → Q' () s' → wpAny (model prog w) A (letOwnedTupleGo target (.ref I) v) Q' E s') :
    wpAny (model prog w) A (pyIter (.ref r)) (fun it s₂ => LoopAtT prog w A h₀ env target body Q E it s₂) E s := by
  refine wpAny_pyIter_range hr (by rfl) ?_
  have W : Walks prog w A s.heap.objs.size [s.heap.objs.size] [s.heap.objs.size] 12 (fun i v => i < 12 ∧ ∃ t, v = .int (1 + (i : Int) * 1) t) (fun i h => IsRangeIter h s.heap.objs.size (1 + (i : Nat) * 1) (((12 : Nat) : Int) - (i : Nat)) 1) := (Walks.range hh _ 1 1 12).bound
  refine loop_at J W (fun b hb => .inl (List.mem_singleton.mp hb)) (Nat.ne_of_lt F.ns.lt) (next_is_new F) (fun p hp => Nat.ne_of_lt (Heap.lt_size (N p hp).1)) hadr hmu (by show IsRangeIter _ _ _ _ _; exact Heap.get?_push_size _ rfl)
    (fun i h st => ⟨_, st⟩) (F.push _) (fun p hp => ⟨Heap.get?_push_of_some _ (N p hp).1, (N p hp).2⟩) (fun i s' v Q' st hQ' => hgo _ i s' v Q' st hQ') h0
    (fun i v m₁ mu tl oI s₁ own hi hP => ?_) done
  obtain ⟨_, t, rfl⟩ := hP
  rw [show (1 : Int) + (i : Int) * 1 = (i : Int) + 1 by omega]
  exact turn i t m₁ mu tl _ oI s₁ own hi
end
end Mine
namespace Mine
/-! [b for a, b in enumerate(..) if c] -/
def sel (p : Nat → Bool) (its : List Value) (n : Nat) : List Value := ((List.range n).filter p).map fun i => its.getD i .none
theorem sel_succ {p : Nat → Bool} {its : List Value} {n : Nat} {x : Value} (h : its[n]? = some x) : sel p its (n + 1) = if p n = true then sel p its n ++ [x] else sel p its n := by
  unfold sel
  rw [List.range_succ, List.filter_append, List.map_append]
  by_cases q : p n = true
  · rw [if_pos q]; simp [q, h]
  · rw [if_neg q]; simp [q]
theorem sel_len {p : Nat → Bool} {its : List Value} {n : Nat} : (sel p its n).length ≤ n := by
  unfold sel
  rw [List.length_map]
  have := List.length_filter_le p (List.range n)
  simpa using this
section
variable {prog : Program} {w : World} {A : Around} {R : Result → Shared → Prop} {s : Shared}
theorem pairs_loop {c iter : PySem.Expr} {a b : Str} {pa pb pz tp pos : Pos} {kk : Nat} {scope : Scope} {I D : Addr} {fp wr : List Addr} {its : List Value} {Pt : Nat → Array Value → Prop} {St : Nat → Heap → Prop} {Mid : Nat → Addr → Heap → Prop}
    {cenv : Env} {m : Str → Option Value} (W : WalksT prog w A I fp wr its.length Pt St Mid) (hPt : ∀ i vals, Pt i vals → ∃ t x, its[i]? = some x ∧ vals = #[.int i t, x]) (p : Nat → Bool) (hh : A.handled = none)
    (hxa : cenv.kindOf a = some .local) (hxb : cenv.kindOf b = some .local) (hab : ¬ a = b) (hk : cenv.scope.kind = .function) (hp : (cenv.scope.kind == .class || (cenv.scope.kind == .module && cenv.locals != cenv.globals)) = false) (hdb : (b == ("__debug__" : Str)) = false)
    (hDC : D ≠ cenv.locals) (hDf : D ∉ fp) (hCf : cenv.locals ∉ fp)
    (hst : St 0 s.heap) (hacc : s.heap.PlainList D #[]) (hn : s.heap.Ns cenv.locals m)
    (htests : ∀ i t x s₂ m₂ E', its[i]? = some x → s₂.heap.Ns cenv.locals m₂ → m₂ a = some (.int i t) → m₂ b = some x → (∀ b o, b ≠ cenv.locals → b ∉ wr → b ≠ D → s.heap.get? b = some o → s₂.heap.get? b = some o) →
      wpAny (model prog w) A (isTrue c cenv (eval c cenv)) (fun ok s₃ => ok = p i ∧ Keeps s₂ s₃) E' s₂)
    (hR : ∀ h' tk m', h'.Ns cenv.locals m' → h'.PlainList D (sel p its its.length).toArray → (∀ b o, b ≠ cenv.locals → b ∉ wr → b ≠ D → s.heap.get? b = some o → h'.get? b = some o) → R (.ok .next) { s with heap := h', toks := tk })
    (hsz : its.length ≤ sizeLine) :
    codeAny (model prog w) A (.compLoop (.ListComp (.Name b pz) [⟨.Tuple [.Name a pa, .Name b pb] kk tp, iter, [c], 0⟩] scope pos) 0 (.ref I) (.ref D) cenv) R s := by
  have hCw : cenv.locals ∉ wr := fun h => hCf (W.sub _ h)
  have hDw : D ∉ wr := fun h => hDf (W.sub _ h)
  refine kct_loop
    (fun k s' => ∃ h' tk m' i, s' = { s with heap := h', toks := tk } ∧ St i h' ∧ h'.PlainList D (sel p its i).toArray ∧ h'.Ns cenv.locals m' ∧ i ≤ its.length ∧ k = its.length + 1 - i ∧
      (∀ b o, b ≠ cenv.locals → b ∉ wr → b ≠ D → s.heap.get? b = some o → h'.get? b = some o)) ?_ (its.length + 1)
    ⟨s.heap, s.toks, m, 0, rfl, hst, hacc, hn, Nat.zero_le _, rfl, fun _ _ _ _ _ e => e⟩
  rintro k s' ⟨H, tk, m', i, rfl, hst', hacc', hn', hi, rfl, hk'⟩
  by_cases hlt : i < its.length
  · refine W.item i _ _ _ hlt hst' fun T vals h₁ tk₁ hPv _ hT hMid hk₁ => ?_
    have hTw := W.apart i T h₁ hMid
    refine W.go _ _ _ i T _ _ _ hMid fun h₂ hst₂ hk₂ => ?_
    obtain ⟨t, x, hx, rfl⟩ := hPt i vals hPv
    have hT₂ : h₂.IsTuple T #[.int i t, x] := by
      obtain ⟨o, ho, r⟩ := hT
      exact ⟨o, hk₂ T o hTw ho, r⟩
    have up₂ : ∀ b o, b ∉ wr → H.get? b = some o → h₂.get? b = some o := fun b o hb e => hk₂ b o hb (hk₁ b o hb e)
    refine kcp_assign hh hT₂ hxa hxb hp (hn'.at' fun o e => up₂ _ o hCw e) fun h₃ tk₃ hn₃ hs₃ => ?_
    have up₃ : ∀ b o, b ≠ cenv.locals → b ∉ wr → H.get? b = some o → h₃.get? b = some o := fun b o hbC hb e => hs₃ b o hbC (up₂ b o hb e)
    have hst₃ : St (i + 1) h₃ := W.frame _ _ _ hst₂ fun b hb o e => hs₃ b o (fun q => hCf (q ▸ hb)) e
    have hk₃ : ∀ b o, b ≠ cenv.locals → b ∉ wr → b ≠ D → s.heap.get? b = some o → h₃.get? b = some o := fun b o h1 h2 h3 e => up₃ b o h1 h2 (hk' b o h1 h2 h3 e)
    refine wpAny_mono (htests i t x _ _ _ hx hn₃ (by simp [hab]) (by simp) hk₃) (fun ok s₃ h₃' => ?_) fun _ _ e => e
    obtain ⟨rfl, h₄, tk₄, rfl, hk₄⟩ := h₃'
    have hacc₄ : h₄.PlainList D (sel p its i).toArray := hacc'.at fun o e => hk₄ _ o (up₃ D o hDC hDw e)
    have hst₄ : St (i + 1) h₄ := W.frame _ _ _ hst₃ fun b _ o e => hk₄ b o e
    by_cases q : p i = true
    · rw [if_pos q]
      refine wpAny_Name (wpAny_loadName_local (v := x) hk hxb (hn₃.keeps hk₄) (if_pos rfl) ?_) hdb
      refine wpAny_list_append_plain (hsz := by rw [List.size_toArray]; exact Nat.le_trans sel_len (Nat.le_trans hi hsz)) hacc₄ fun h₅ hl₅ hs₅ => ?_
      refine ⟨its.length + 1 - (i + 1), by omega, h₅, _, _, i + 1, rfl, ?_, ?_, (hn₃.keeps hk₄).sameBut hs₅ (Ne.symm hDC), hlt, rfl, fun b o h1 h2 h3 e => hs₅.extBut b o h3 (hk₄ b o (hk₃ b o h1 h2 h3 e))⟩
      · exact W.frame _ _ h₅ hst₄ fun b hb o e => hs₅.extBut b o (fun h => hDf (h ▸ hb)) e
      · rw [sel_succ hx, if_pos q, ← List.push_toArray]; exact hl₅
    · rw [if_neg q]
      refine ⟨its.length + 1 - (i + 1), by omega, h₄, tk₄, _, i + 1, rfl, hst₄, ?_, hn₃.keeps hk₄, hlt, rfl, fun b o h1 h2 h3 e => hk₄ b o (hk₃ b o h1 h2 h3 e)⟩
      rw [sel_succ hx, if_neg q]; exact hacc₄
  · have hin : i = its.length := by omega
    subst hin
    refine W.done _ _ _ hst' fun h₁ tk₁ hk₁ => ?_
    exact hR h₁ tk₁ m' (hn'.at' fun o e => hk₁ _ o hCw e) (hacc'.at fun o e => hk₁ _ o hDw e) fun b o h1 h2 h3 e => hk₁ b o h2 (hk' b o h1 h2 h3 e)
end
section
variable {prog : Program} {w : World} {A : Around} {E : Value → Shared → Prop} {s : Shared} {h₀ : Heap} {L : Addr} {m : Str → Option Value} {news : List (Addr × Obj)} {env : Env}
def EnumAt (h₀ : Heap) (L : Addr) (news : List (Addr × Obj)) (l : Addr) (xv : Value) (h : Heap) : Prop :=
  ∃ e it, xv = .ref e ∧ IsEnum h e it 0 .none ∧ h.IsListIter it l 0 ∧ e ≠ it ∧ l ≠ e ∧ l ≠ it ∧ h₀.get? e = none ∧ h₀.get? it = none ∧ L ≠ e ∧ L ≠ it ∧ (∀ p ∈ news, p.1 ≠ e ∧ p.1 ≠ it)
theorem enum_call {l : Addr} {its : List Value} {cc : Nat} {Q : Value → Shared → Prop} (F : Fr h₀ L s.heap m) (N : News h₀ L s.heap news) (hl : (l, PySem.W.listOf (List.toArray its) cc) ∈ news)
    (h : ∀ (xv : Value) (h' : Heap), Fr h₀ L h' m → News h₀ L h' news → EnumAt h₀ L news l xv h' → Q xv { s with heap := h' }) : wpAny (model prog w) A (call (.type "enumerate") [.ref l]) Q E s := by
  have hls : s.heap.IsList l its.toArray := ⟨_, (N _ hl).1, rfl, cc, rfl⟩
  refine call_enumerate_list hls fun h' he hit hsz hk => ?_
  have hllt : l < s.heap.objs.size := Heap.lt_size (N _ hl).1
  have hLlt : L < s.heap.objs.size := F.ns.lt
  have fresh₀ : ∀ a, s.heap.objs.size ≤ a → h₀.get? a = none := fun a ha => by
    cases e : h₀.get? a with
    | none => rfl
    | some o' => exact absurd (Heap.lt_size (F.keep a o' e)) (Nat.not_lt.mpr ha)
  refine h _ h' (F.keeps hk) (fun p hp => ⟨hk _ _ (N p hp).1, (N p hp).2⟩) ⟨_, _, rfl, he, hit, Nat.succ_ne_self _, Nat.ne_of_lt (Nat.lt_succ_of_lt hllt), Nat.ne_of_lt hllt, fresh₀ _ (Nat.le_succ _), fresh₀ _ (Nat.le_refl _), Nat.ne_of_lt (Nat.lt_succ_of_lt hLlt), Nat.ne_of_lt hLlt, fun p hp => ?_⟩
  have := Heap.lt_size (N p hp).1
  exact ⟨Nat.ne_of_lt (Nat.lt_succ_of_lt this), Nat.ne_of_lt this⟩
/-- over enumerate of a made list -/
theorem comp_enum {c iter : PySem.Expr} {a b : Str} {pa pb pz tp pos : Pos} {kk : Nat} {scope : Scope} {cl : List (Str × Addr)} {Q : Value → Shared → Prop} (_F₀ : Fr h₀ L s.heap m) (p : Nat → Bool)
    (hclos : closureFor scope env = pure cl) (hcell : ∀ y ∈ scope.names, y.2 ≠ .cell) (hkind : scope.kind = .function)
    (hnames : ∀ y ∈ scope.names, y.2 = .local → scope.names.lookup y.1 = some .local) (hxa : scope.names.lookup a = some .local) (hxb : scope.names.lookup b = some .local) (hab : ¬ a = b) (hdb : (b == ("__debug__" : Str)) = false) (hh : A.handled = none)
    (h : wpAny (model prog w) A (eval iter env) (fun xv s₁ => ∃ l its news cc, Fr h₀ L s₁.heap m ∧ News h₀ L s₁.heap news ∧ (l, PySem.W.listOf (List.toArray its) cc) ∈ news ∧ its.length ≤ 100 ∧
      EnumAt h₀ L news l xv s₁.heap ∧
      (∀ (C : Addr) (i : Nat) (t : Tok) (x : Value) (s₃ : Shared) (m₃ : Str → Option Value) (E' : Value → Shared → Prop), Fr h₀ L s₃.heap m → News h₀ L s₃.heap news → s₃.heap.Ns C m₃ → m₃ a = some (.int i t) → its[i]? = some x →
        wpAny (model prog w) A (isTrue c (compEnvC scope cl C env) (eval c (compEnvC scope cl C env))) (fun ok s₄ => ok = p i ∧ Keeps s₃ s₄) E' s₃) ∧
      (∀ (D : Addr) (h' : Heap) (tk : Nat) (c' : Nat), Fr h₀ L h' m → News h₀ L h' ((D, PySem.W.listOf (List.toArray (sel p its its.length)) c') :: news) → (∀ p ∈ news, p.1 ≠ D) → Q (.ref D) { s₁ with heap := h', toks := tk })) E s)
    (hs : ∀ x, foldedSetIterable iter env x = pure x := by intro _; rfl) :
    wpAny (model prog w) A (eval (.ListComp (.Name b pz) [⟨.Tuple [.Name a pa, .Name b pb] kk tp, iter, [c], 0⟩] scope pos) env) Q E s := by
  rw [eval_ListComp]
  refine wpAny_comprehension_free (use := none) rfl hs hclos hkind hnames (wpAny_mono h (fun xv s₁ h₁ => ?_) fun _ _ e => e)
  obtain ⟨l, its, news, cc, F, N, hl, hlen, ⟨e, it, rfl, he, hit, hei, hle, hli, he0, hi0, hLe, hLi, hne⟩, hT, hQ⟩ := h₁
  refine wpAny_pyIter_enum he ?_
  have hls : s₁.heap.IsList l its.toArray := ⟨_, (N _ hl).1, rfl, cc, rfl⟩
  have W := WalksT.enumerate (prog := prog) (w := w) hh e it l hei hle hli its.toArray
  rw [List.size_toArray] at W
  refine wpAny_newObj_type (wpAny_newFunctionEnv hcell (by intro y hy; simp at hy) (fun h₁ hns₁ hsb₁ => ?_) hkind)
  dsimp only at hns₁ hsb₁ ⊢
  generalize hH2 : s₁.heap.push { cls := .type "list", dict := none, data := .seq ([] : List Value).toArray } = H2 at hns₁ hsb₁ ⊢
  have hC : H2.objs.size = s₁.heap.objs.size + 1 := by rw [← hH2, Heap.size_push]
  have hDC : s₁.heap.objs.size ≠ H2.objs.size := by rw [hC]; exact Nat.ne_of_lt (Nat.lt_succ_self _)
  have below : ∀ b, b < s₁.heap.objs.size → b ≠ H2.objs.size ∧ b ≠ s₁.heap.objs.size := fun b hb => ⟨by rw [hC]; exact Nat.ne_of_lt (Nat.lt_succ_of_lt hb), Nat.ne_of_lt hb⟩
  have helt : e < s₁.heap.objs.size := Heap.lt_size he
  have hilt : it < s₁.heap.objs.size := by obtain ⟨_, x, _⟩ := hit; exact Heap.lt_size x
  have hllt : l < s₁.heap.objs.size := Heap.lt_size (N _ hl).1
  have hfp : ∀ b ∈ [e, it, l], b < s₁.heap.objs.size := fun b hb => by
    rcases List.mem_cons.mp hb with rfl | hb
    · exact helt
    · rcases List.mem_cons.mp hb with rfl | hb
      · exact hilt
      · rw [List.mem_singleton.mp hb]; exact hllt
  have hDf : s₁.heap.objs.size ∉ [e, it, l] := fun hm => Nat.lt_irrefl _ (hfp _ hm)
  have hCf : H2.objs.size ∉ [e, it, l] := fun hm => by have := hfp _ hm; rw [hC] at this; exact Nat.lt_irrefl _ (Nat.lt_of_succ_lt this)
  have old : ∀ b o, s₁.heap.get? b = some o → h₁.get? b = some o := fun b o e => hsb₁.extBut b o (below b (Heap.lt_size e)).1 (Heap.get?_push_of_some _ (hH2 ▸ Heap.get?_push_of_some _ e))
  have hacc : h₁.PlainList s₁.heap.objs.size #[] := ⟨_, hsb₁.extBut _ _ hDC (Heap.get?_push_of_some _ (hH2 ▸ Heap.get?_push_size _ rfl))⟩
  have fresh₀ : ∀ a, s₁.heap.objs.size ≤ a → h₀.get? a = none := fun a ha => by
    cases e : h₀.get? a with
    | none => rfl
    | some o' => exact absurd (Heap.lt_size (F.keep a o' e)) (Nat.not_lt.mpr ha)
  have hst₁ := W.frame 0 _ h₁ ⟨⟨_, he⟩, hit, hls⟩ fun b _ o e => old b o e
  have hLlt : L < s₁.heap.objs.size := F.ns.lt
  have wrs : ∀ b, b ∈ [e, it] → b = e ∨ b = it := fun b hb => by
    rcases List.mem_cons.mp hb with h | h
    · exact .inl h
    · exact .inr (List.mem_singleton.mp h)
  have tr : ∀ h' : Heap, (∀ b o, b ≠ H2.objs.size → b ∉ [e, it] → b ≠ s₁.heap.objs.size → h₁.get? b = some o → h'.get? b = some o) → Fr h₀ L h' m ∧ News h₀ L h' news := fun h' hk => by
    have hk' : ∀ b o, b ∉ [e, it] → s₁.heap.get? b = some o → h'.get? b = some o := fun b o hb x => hk b o (below b (Heap.lt_size x)).1 hb (below b (Heap.lt_size x)).2 (old b o x)
    refine ⟨⟨F.ns.at' fun o x => hk' _ o (fun hb => (wrs _ hb).elim hLe hLi) x, fun b o x => hk' b o (fun hb => ?_) (F.keep b o x), F.above⟩, fun p hp => ⟨hk' _ _ (fun hb => (wrs _ hb).elim (hne p hp).1 (hne p hp).2) (N p hp).1, (N p hp).2⟩⟩
    rcases wrs _ hb with q | q
    · rw [q, he0] at x; cases x
    · rw [q, hi0] at x; cases x
  have loop : ∀ s₃ : Shared, s₃ = { s₁ with heap := h₁, toks := s₁.toks + ([] : List (Str × Value)).length } →
      codeAny (model prog w) A (.compLoop (.ListComp (.Name b pz) [⟨.Tuple [.Name a pa, .Name b pb] kk tp, iter, [c], 0⟩] scope pos) 0 (.ref e) (.ref s₁.heap.objs.size) (compEnvC scope cl H2.objs.size env))
        (compPost (model prog w) A E none Q (.ref s₁.heap.objs.size) H2.objs.size) s₃ := by
    rintro s₃ rfl
    refine pairs_loop (cenv := compEnvC scope cl H2.objs.size env) W (fun i vals hv => ?_) p hh (lookup_relabel_local hxa) (lookup_relabel_local hxb) hab (by simp [compEnvC, relabel, hkind]) (by simp [compEnvC, relabel, hkind]) hdb hDC hDf hCf hst₁ hacc hns₁
      (fun i t x s₂ m₂ E' hx hn₂ ha₂ hb₂ hk₂ => ?_) (fun h' tk m' hn hpl hk => ?_) (by rw [sizeLine_eq]; omega)
    · obtain ⟨t, x, hx, rfl⟩ := hv
      exact ⟨t, x, by simpa using hx, rfl⟩
    · obtain ⟨F₂, N₂⟩ := tr s₂.heap hk₂
      exact hT _ i t x s₂ m₂ E' F₂ N₂ hn₂ ha₂ hx
    · obtain ⟨F₂, N₂⟩ := tr h' hk
      refine ⟨m', hn, fun h'' hs'' => ?_⟩
      have hCL : H2.objs.size ≠ L := Ne.symm (below L hLlt).1
      have hC₀ : h₀.get? H2.objs.size = none := fresh₀ _ (by rw [hC]; exact Nat.le_succ _)
      obtain ⟨c', hc'⟩ := hpl
      refine hQ _ h'' tk c' (F₂.change hs'' hCL hC₀) (fun q hq => ?_) (fun q hq => (below _ (Heap.lt_size (N q hq).1)).2)
      rcases List.mem_cons.mp hq with rfl | hq
      · exact ⟨hs''.extBut _ _ hDC hc', Ne.symm (below L hLlt).2, fresh₀ _ (Nat.le_refl _)⟩
      · exact ⟨hs''.extBut _ _ (below _ (Heap.lt_size (N q hq).1)).1 (N₂ q hq).1, (N₂ q hq).2⟩
  refine codeAny_compStart_list (loop _ rfl) (W.self 0 _ _ _ hst₁ (loop _ rfl))
end
end Mine
namespace Mine
/-! a cell of the frame stored into, the ledger no written list -/
def NC (p : Addr × Obj) : Prop := ∀ v, p.2.data ≠ .cell v
mutual
theorem datIn_nc {news news' : List (Addr × Obj)} (hs : ∀ p ∈ news, NC p → p ∈ news') : ∀ {v : Value} {d : Dat}, DatIn news v d → DatIn news' v d
  | _, _, .none => .none
  | _, _, .bool b => .bool b
  | _, _, .int i t => .int i t
  | _, _, .str x t => .str x t
  | _, _, .bytes b t => .bytes b t
  | _, _, .tuple h r => .tuple (hs _ h fun _ e => nomatch e) (datAll_nc hs r)
  | _, _, .list h r => .list (hs _ h fun _ e => nomatch e) (datAll_nc hs r)
theorem datAll_nc {news news' : List (Addr × Obj)} (hs : ∀ p ∈ news, NC p → p ∈ news') : ∀ {vs : List Value} {ds : List Dat}, DatAll news vs ds → DatAll news' vs ds
  | _, _, .nil => .nil
  | _, _, .cons h r => .cons (datIn_nc hs h) (datAll_nc hs r)
end
section
variable {prog : Program} {w : World} {A : Around} {E : Value → Shared → Prop} {s : Shared} {h₀ : Heap} {L a : Addr} {m : Str → Option Value} {cn : Str} {cs : Scope} {ccd : Value} {cl : List (Str × Addr)}
  {x : Str} {v : Value} {Q : Unit → Shared → Prop} {news news' : List (Addr × Obj)} {c : Addr} {o : Obj} {v₀ : Option Value} {M : Model}
theorem dd_nc {d : Addr} {es : Ass} (h : DD prog w news d es) (hs : ∀ p ∈ news, NC p → p ∈ news') : DD prog w news' d es := by
  obtain ⟨od, kvs, a, b, c, e, f⟩ := h
  refine ⟨od, kvs, hs _ a (fun v q => ?_), b, c, datAll_nc hs e, f⟩
  obtain ⟨es, ep, _, hd, _⟩ := b
  have q' : od.data = .cell v := q
  rw [q'] at hd; cases hd
def recell (news : List (Addr × Obj)) (c : Addr) (o : Obj) : List (Addr × Obj) := (c, o) :: news.filter fun p => decide (p.1 ≠ c)
theorem recell_mem {news : List (Addr × Obj)} {c : Addr} {o : Obj} {p : Addr × Obj} (hp : p ∈ news) (hn : p.1 ≠ c) : p ∈ recell news c o := .tail _ (List.mem_filter.mpr ⟨hp, decide_eq_true hn⟩)
theorem recell_nc {h₀ h : Heap} {L : Addr} {o o' : Obj} (N : News h₀ L h news) (hm : (c, o) ∈ news) (hd : o.data = .cell v₀) : ∀ p ∈ news, NC p → p ∈ recell news c o' := fun p hp hn => recell_mem hp fun e => by
  have e1 := (N p hp).1
  have e2 := (N _ hm).1
  rw [e, e2] at e1
  exact hn v₀ (by rw [← Option.some.inj e1]; exact hd)
theorem store_cell (F : Fr h₀ L s.heap m) (N : News h₀ L s.heap news) (hc : cl.lookup x = some c) (hm : (c, o) ∈ news) (hd : o.data = .cell v₀)
    (h : ∀ h' o', Fr h₀ L h' m → News h₀ L h' (recell news c o') → o'.data = .cell (some v) → Q () { s with heap := h' })
    (hk : cs.kind = .function := by rfl) (hx : (envX cn cs L a ccd cl).kindOf x = some .cell := by rfl) : wpAny M A (storeName (envX cn cs L a ccd cl) x v) Q E s := by
  have hmem := N (c, o) hm
  refine wpAny_storeName_cell hk hx hc ⟨o, hmem.1, hd⟩ fun h' hv hs => ?_
  obtain ⟨o', ho', hd'⟩ := hv
  refine h h' o' ⟨F.ns.sameBut hs (Ne.symm hmem.2.1), fun b ob e => (hs.2 b (fun q => ?_)).trans (F.keep b ob e), F.above⟩ (fun p hp => ?_) hd'
  · rw [q, hmem.2.2] at e; cases e
  · rcases List.mem_cons.mp hp with rfl | hp
    · exact ⟨ho', hmem.2⟩
    · obtain ⟨hp, hn⟩ := List.mem_filter.mp hp
      have hn' := of_decide_eq_true hn
      exact ⟨(hs.2 _ hn').trans (N p hp).1, (N p hp).2⟩
end
end Mine
namespace Mine
set_option maxRecDepth 100000 in
set_option maxHeartbeats 1000000 in
theorem diff_call {w : World} {E : Value → Shared → Prop} {s : Shared} {h₀ base : Heap} {env : Env} {L : Addr} {m mg mb : Str → Option Value} {mean : ExcName → Option Value} {news : List (Addr × Obj)} {b a : Addr} {Q : Value → Shared → Prop}
    (K0 : Below callerA base [] h₀) (hf : env.frame = some L) (hke : env.scope.kind = .function)
    (F : Fr h₀ L s.heap m) (KX : (hd.heap_39 w.params).In h₀) (N : News h₀ L s.heap news) {es₁ es₂ : Ass} (hb : DD PySem.Challenge.rw_nz0264_01.row.prog w news b es₁) (ha : DD PySem.Challenge.rw_nz0264_01.row.prog w news a es₂) (o₁ : EOk es₁) (o₂ : EOk es₂) (T : Top hd.view_39 (looseW hd.view_39 []) mean mg mb h₀)
    (k : ∀ (t : Addr) (h' : Heap) (tk : Nat) (news' : List (Addr × Obj)), Fr h₀ L h' m → News h₀ L h' news' → (∀ p ∈ news, p ∈ news') → DatIn news' (.ref t) (.tuple [ilist (gon es₁ es₂), ilist (gon es₂ es₁), ilist (oth es₁ es₂)]) → Q (.ref t) { s with heap := h', toks := tk }) :
    wpAny (model PySem.Challenge.rw_nz0264_01.row.prog w) (callerA.deeper env) (call (.ref 33) [.ref b, .ref a]) Q E s := by
  revert KX; k_fill; intro KX
  refine wpAny_call ?_
  refine' code_defC ?k1 ?k2 ?k3 ?k4 ?k5 ?kA ?kF ?kK ?k6 ?k7 ?k8 ?k9 ?kB ?kD ?_ ?c2 ?c3 ?c4
  case kA => exact rfl
  case kF => exact hf
  case kK => exact hke
  case k1 => k_asm
  case k2 => k_asm
  case k3 => k_asm
  case k4 => k_asm
  case k5 => k_asm
  case k6 => k_is
  case k7 => k_is
  case k8 => k_room
  case k9 => first | exact BindsTo.of_eq rfl | exact binds_K (by k_in) rfl (by k_is) rfl rfl rfl
  case kB => exact rfl
  case kD => decide +kernel
  case c2 => exact rfl
  case c3 => exact rfl
  case c4 => exact rfl
  intro g' L' h' tk' cells' FG' F' N' Y' B' X' T' l1
  obtain ⟨oa, ob, hE', da', db'⟩ := CellsAre.two Y'
  subst hE'
  clear Y'
  have da : oa.data = .cell (some (.ref a)) := da'
  have db : ob.data = .cell (some (.ref b)) := db'
  clear da' db'
  obtain ⟨m₀, F'⟩ : ∃ m₀, Fr g' L' h' m₀ := ⟨_, F'⟩
  (try simp only [List.cons_append, List.nil_append] at N'); (try dsimp only); (try k_fold)
  -- gone
  walk1
  refine asg_filter (fun k => !has es₂ k) F' rfl (by rfl) rfl (by with_unfolding_all rfl) (by with_unfolding_all rfl) (by decide) (by rfl) (by decide) (by rfl) (by rfl) (by rfl) (by decide) ?_ (by intro _; rfl)
  iterate 6 walk1
  refine sorted_dd (by rfl) F' N' (hb.mono fun p hp => .tail _ (.tail _ hp)) o₁ fun D h2 tk2 out c F2 N2 l2 i2 => ?_
  refine ⟨_, ks es₁, F2, N2, .inl ⟨D, out, c, rfl, .head _, i2⟩, ks_short _, fun C k t s₃ m₃ E' F₃ N₃ hn₃ hm₃ hk => ?_, ?_⟩
  · refine wpAny_isTrue_Compare1 (wpAny_Name (wpAny_loadName_local (by rfl) (by rfl) hn₃ hm₃ ?_) (by decide))
    refine lcf_cell (v := .ref a) N₃ rfl (.tail _ (.head _)) da ?_ rfl rfl
    refine dd_notIn N₃ (ha.mono fun p hp => .tail _ (.tail _ (.tail _ hp))) ?_
    exact wpAny_truthy_bool ⟨rfl, _, _, rfl, fun _ _ e => e⟩
  intro D₁ h3 tk3 ys₁ c₁ F3 N3 i3
  clear N2 F2 N' F' l2 i2
  -- new
  walk1
  refine asg_filter (fun k => !has es₁ k) F3 rfl (by rfl) rfl (by with_unfolding_all rfl) (by with_unfolding_all rfl) (by decide) (by rfl) (by decide) (by rfl) (by rfl) (by rfl) (by decide) ?_ (by intro _; rfl)
  iterate 6 walk1
  refine sorted_dd (by rfl) F3 N3 (ha.mono fun p hp => .tail _ (.tail _ (.tail _ (.tail _ hp)))) o₂ fun D' h4 tk4 out' c' F4 N4 l4 i4 => ?_
  refine ⟨_, ks es₂, F4, N4, .inl ⟨D', out', c', rfl, .head _, i4⟩, ks_short _, fun C k t s₃ m₃ E' F₃ N₃ hn₃ hm₃ hk => ?_, ?_⟩
  · refine wpAny_isTrue_Compare1 (wpAny_Name (wpAny_loadName_local (by rfl) (by rfl) hn₃ hm₃ ?_) (by decide))
    refine lcf_cell (v := .ref b) N₃ rfl (.tail _ (.tail _ (.tail _ (.tail _ (.head _))))) db ?_ rfl rfl
    refine dd_notIn N₃ (hb.mono fun p hp => .tail _ (.tail _ (.tail _ (.tail _ (.tail _ hp))))) ?_
    exact wpAny_truthy_bool ⟨rfl, _, _, rfl, fun _ _ e => e⟩
  intro D₂ h5 tk5 ys₂ c₂ F5 N5 i5
  clear N4 F4 N3 F3 l4 i4
  -- other
  walk1
  refine asg_filter (fun k => has es₁ k && dif es₁ es₂ k) F5 rfl (by rfl) rfl (by with_unfolding_all rfl) (by with_unfolding_all rfl) (by decide) (by rfl) (by decide) (by rfl) (by rfl) (by rfl) (by decide) ?_ (by intro _; rfl)
  iterate 6 walk1
  refine sorted_dd (by rfl) F5 N5 (ha.mono fun p hp => .tail _ (.tail _ (.tail _ (.tail _ (.tail _ (.tail _ hp)))))) o₂ fun D'' h6 tk6 out'' c'' F6 N6 l6 i6 => ?_
  refine ⟨_, ks es₂, F6, N6, .inl ⟨D'', out'', c'', rfl, .head _, i6⟩, ks_short _, fun C k t s₃ m₃ E' F₃ N₃ hn₃ hm₃ hk => ?_, ?_⟩
  · refine isTrue_and (wpAny_isTrue_Compare1 (wpAny_Name (wpAny_loadName_local (by rfl) (by rfl) hn₃ hm₃ ?_) (by decide)))
    refine lcf_cell (v := .ref b) N₃ rfl (by k_mem) db ?_ rfl rfl
    have hb' := hb.mono (news' := (D'', W.listOf out''.toArray c'') :: (D₂, W.listOf ys₂.toArray c₂) :: (D', W.listOf out'.toArray c') :: (D₁, W.listOf ys₁.toArray c₁) :: (D, W.listOf out.toArray c) :: (L' + 1 + 1, oa) :: (L' + 1, ob) :: news) fun p hp => .tail _ (.tail _ (.tail _ (.tail _ (.tail _ (.tail _ (.tail _ hp))))))
    have ha' := ha.mono (news' := (D'', W.listOf out''.toArray c'') :: (D₂, W.listOf ys₂.toArray c₂) :: (D', W.listOf out'.toArray c') :: (D₁, W.listOf ys₁.toArray c₁) :: (D, W.listOf out.toArray c) :: (L' + 1 + 1, oa) :: (L' + 1, ob) :: news) fun p hp => .tail _ (.tail _ (.tail _ (.tail _ (.tail _ (.tail _ (.tail _ hp))))))
    refine dd_in N₃ hb' (wpAny_truthy_bool ?_)
    cases e1 : has es₁ k with
    | false =>
      rw [if_neg (by simp)]
      exact ⟨by simp, _, _, rfl, fun _ _ e => e⟩
    | true =>
      rw [if_pos rfl]
      obtain ⟨dv₁, g1⟩ := has_get e1
      obtain ⟨dv₂, g2⟩ := has_get (ks_mem.mp hk).2
      have hn3' : ∀ t' : Nat, Shared.heap { s₃ with toks := t' } = s₃.heap := fun _ => rfl
      refine isTrue_and (wpAny_isTrue_Compare1 (Subscript_ ?_))
      refine lcf_cell (v := .ref b) N₃ rfl (by k_mem) db ?_ rfl rfl
      refine wpAny_Name (wpAny_loadName_local (by rfl) (by rfl) hn₃ hm₃ ?_) (by decide)
      refine dd_item N₃ hb' g1 (fun v₁ hv₁ => ?_)
      refine Subscript_ (lcf_cell (v := .ref a) N₃ rfl (by k_mem) da ?_ rfl rfl)
      refine wpAny_Name (wpAny_loadName_local (by rfl) (by rfl) hn₃ hm₃ ?_) (by decide)
      refine dd_item N₃ ha' g2 (fun v₂ hv₂ => ?_)
      refine dat_ne N₃ hv₁ hv₂ (o₁.okAt g1) (o₂.okAt g2) (Nat.le_of_ble_eq_true rfl) (wpAny_truthy_bool ?_)
      have ed := dif_at g1 g2
      cases e2 : sameD dv₁ dv₂ with
      | true =>
        rw [e2] at ed
        simp only [Bool.not_true] at ed
        rw [if_neg (by simp)]
        exact ⟨by rw [ed]; rfl, _, _, rfl, fun _ _ e => e⟩
      | false =>
        rw [e2] at ed
        simp only [Bool.not_false] at ed
        rw [if_pos (by rfl)]
        exact isTrue_and_nil ⟨by rw [ed]; rfl, _, _, rfl, fun _ _ e => e⟩
  intro D₃ h7 tk7 ys₃ c₃ F7 N7 i7
  clear N6 F6 N5 F5 l6 i6
  iterate 10 walk1
  refine newTuple_N F7 N7 (fun h8 F8 N8 => ?_) (by rw [sizeLine_eq]; exact Nat.le_of_ble_eq_true rfl)
  refine leaveK_ F8 N8 fun kF kN => ?_
  refine k _ h8 tk7 _ kF kN (fun p hp => by repeat (first | exact hp | refine List.Mem.tail _ ?_)) ?_
  refine .tuple (.head _) (.cons ?_ (.cons ?_ (.cons ?_ .nil)))
  · exact .list (by k_mem) (dat_ints i3)
  · exact .list (by k_mem) (dat_ints i5)
  · exact .list (by k_mem) (dat_ints i7)
end Mine
namespace Mine
/-- a Letter's dict -/
abbrev letObj (w : World) (k : Int) (fv : Value) (t t1 t2 t3 t4 t5 t6 t7 tb : Tok) : Obj :=
  dictOf [⟨PyData.keyHash w.params (Str.ofString "uid"), .str (Str.ofString "uid") t1, .int k t⟩, ⟨PyData.keyHash w.params (Str.ofString "octets"), .str (Str.ofString "octets") t2, .bytes #[] tb⟩,
    ⟨PyData.keyHash w.params (Str.ofString "flags"), .str (Str.ofString "flags") t3, fv⟩, ⟨PyData.keyHash w.params (Str.ofString "instant"), .str (Str.ofString "instant") t4, .int 0 t5⟩,
    ⟨PyData.keyHash w.params (Str.ofString "modseq"), .str (Str.ofString "modseq") t6, .int 2 t7⟩] 5
def LetIn (w : World) (news : List (Addr × Obj)) (v : Value) (e : Int × Dat) : Prop :=
  ∃ x d fv t t1 t2 t3 t4 t5 t6 t7 tb, v = .ref x ∧ (x, instObj 64 d) ∈ news ∧ (d, letObj w e.1 fv t t1 t2 t3 t4 t5 t6 t7 tb) ∈ news ∧ DatIn news fv e.2
theorem LetIn.mono {w : World} {news news' : List (Addr × Obj)} {v : Value} {e : Int × Dat} (h : LetIn w news v e) (hs : ∀ p ∈ news, p ∈ news') : LetIn w news' v e := by
  obtain ⟨x, d, fv, t, t1, t2, t3, t4, t5, t6, t7, tb, rfl, a, b, c⟩ := h
  exact ⟨x, d, fv, t, t1, t2, t3, t4, t5, t6, t7, tb, rfl, hs _ a, hs _ b, c.mono hs⟩
theorem all_ne_lt {news : List (Addr × Obj)} {d : Addr} (h : ∀ p ∈ news, p.1 < d) : ∀ p ∈ news, p.1 ≠ d := fun p hp => Nat.ne_of_lt (h p hp)
local macro_rules | `(tactic| k_all) => `(tactic| exact all_ne_lt (by assumption))
set_option maxRecDepth 100000 in
set_option maxHeartbeats 1000000 in
theorem letter_call {w : World} {E : Value → Shared → Prop} {s : Shared} {h₀ base : Heap} {env : Env} {L : Addr} {m mg mb : Str → Option Value} {mean : ExcName → Option Value} {news : List (Addr × Obj)} {Q : Value → Shared → Prop} {k : Int} {t t1 t2 tb : Tok} {fv : Value} {fds : List Dat}
    (K0 : Below callerA base [] h₀) (hf : env.frame = some L) (hke : env.scope.kind = .function)
    (F : Fr h₀ L s.heap m) (KX : (hd.heap_39 w.params).In h₀) (N : News h₀ L s.heap news) (T : Top hd.view_39 (looseW hd.view_39 []) mean mg mb h₀)
    (hfl : DatIn news fv (.tuple fds))
    (kk : ∀ (x d : Addr) (o : Obj) (h' : Heap) (tk : Nat), Fr h₀ L h' m → News h₀ L h' ((x, instObj 64 d) :: (d, o) :: news) → (∀ p ∈ news, p.1 < d) → d < x → (∀ news2, DatIn news2 fv (.tuple fds) → LetIn w ((x, instObj 64 d) :: (d, o) :: news2) (.ref x) (k, .tuple fds)) → Q (.ref x) { s with heap := h', toks := tk }) :
    wpAny (model PySem.Challenge.rw_nz0264_01.row.prog w) (callerA.deeper env) (call (.ref 64) [.int k t, .bytes #[] tb, fv, .int 0 t1, .int 2 t2]) Q E s := by
  obtain ⟨fa, fvs, fn, rfl, hm, hda⟩ : ∃ fa fvs fn, fv = .ref fa ∧ (fa, ({ cls := .type "tuple", data := .seq (List.toArray fvs) fn } : Obj)) ∈ news ∧ DatAll news fvs fds := by
    cases hfl with
    | tuple hm r => exact ⟨_, _, _, rfl, hm, r⟩
  revert KX; k_fill; intro KX
  refine' call_cls ?k1 ?k2 ?k3 ?k4 ?k5 ?k6 ?_
  case k1 => k_asm
  case k2 => k_asm
  case k3 => k_asm
  case k4 => k_is
  case k5 => k_is
  case k6 => k_is
  intro x' d' h' F' N' l1 l2
  k_lt2 l2
  refine' code_def ?k1 ?k2 ?k3 ?k4 ?k5 ?kA ?kF ?kK ?k6 ?k7 ?k8 ?k9 ?kB ?_ ?c2 ?c3 ?c4 ?c5
  case kA => exact rfl
  case kF => exact hf
  case kK => exact hke
  case k1 => k_asm
  case k2 => k_asm
  case k3 => k_asm
  case k4 => k_asm
  case k5 => k_asm
  case k6 => k_is
  case k7 => k_is
  case k8 => k_room
  case k9 => first | exact BindsTo.of_eq rfl | exact binds_K (by k_in) rfl (by k_is) rfl rfl rfl
  case c5 => decide
  case kB => exact locs rfl
  case c2 => exact rfl
  case c3 => exact rfl
  case c4 => exact rfl
  clear F N
  intro g' L2 h2 FG F2 N2 B2 X2 T2
  (try dsimp only)
  (try k_fold)
  repeat walk1
  refine call_tuple_tup (News.isTup (by k_asm) (.tail _ (.tail _ hm))) ?_
  repeat walk1
  refine kk x' d' _ _ _ (by assumption) (by assumption) l1 l2 fun news2 hd2 => ⟨x', d', .ref fa, _, _, _, _, _, _, _, _, _, rfl, .head _, .tail _ (.head _), hd2.mono fun p hp => .tail _ (.tail _ hp)⟩
end Mine
namespace Mine
/-! a dict's pairs, stored into -/
def put (es : Ass) (e : Int × Dat) : Ass := if es.any (fun kv => kv.1 = e.1) then es.map (fun kv => if kv.1 = e.1 then (kv.1, e.2) else kv) else es ++ [e]
def KV (news : List (Addr × Obj)) (kvs : List (Int × Value)) (es : Ass) : Prop := kvs.map (·.1) = es.map (·.1) ∧ DatAll news (kvs.map (·.2)) (es.map (·.2))
theorem KV.mono {news news' : List (Addr × Obj)} {kvs : List (Int × Value)} {es : Ass} (h : KV news kvs es) (hs : ∀ p ∈ news, p ∈ news') : KV news' kvs es := ⟨h.1, h.2.mono hs⟩
theorem KV.len {news : List (Addr × Obj)} {kvs : List (Int × Value)} {es : Ass} (h : KV news kvs es) : kvs.length = es.length := by have := congrArg List.length h.1; simpa using this
theorem KV.nil {news : List (Addr × Obj)} : KV news [] [] := ⟨rfl, .nil⟩
theorem KV.any {news : List (Addr × Obj)} {kvs : List (Int × Value)} {es : Ass} (h : KV news kvs es) (k : Int) : kvs.any (fun kv => kv.1 = k) = es.any (fun kv => kv.1 = k) := by
  have e1 : ∀ {β : Type} (l : List (Int × β)), l.any (fun kv => decide (kv.1 = k)) = (l.map (·.1)).any (fun x => decide (x = k)) := fun l => by rw [List.any_map]; rfl
  rw [e1, e1, h.1]
theorem KV.put {news : List (Addr × Obj)} {kvs : List (Int × Value)} {es : Ass} (h : KV news kvs es) {k : Int} {v : Value} {d : Dat} (hd : DatIn news v d) : KV news (stored kvs k v) (put es (k, d)) := by
  unfold stored Mine.put
  rw [h.any k]
  by_cases e : (es.any fun kv => decide (kv.1 = k)) = true
  · rw [if_pos e, if_pos e]
    clear e
    induction kvs generalizing es with
    | nil =>
      cases es with
      | nil => exact ⟨rfl, .nil⟩
      | cons _ _ => simp [KV] at h
    | cons kv kvs ih =>
      cases es with
      | nil => simp [KV] at h
      | cons e es =>
        obtain ⟨h1, h2⟩ := h
        simp only [List.map_cons, List.cons.injEq] at h1
        simp only [List.map_cons] at h2
        cases h2 with
        | cons g1 g2 =>
          obtain ⟨i1, i2⟩ := ih ⟨h1.2, g2⟩
          have ek := h1.1
          refine ⟨?_, ?_⟩
          · simp only [List.map_cons]
            rw [i1]
            by_cases q : kv.1 = k
            · rw [if_pos q, if_pos (ek ▸ q)]
              simp [ek]
            · rw [if_neg q, if_neg (ek ▸ q)]
              rw [ek]
          · simp only [List.map_cons]
            refine .cons ?_ i2
            by_cases q : kv.1 = k
            · rw [if_pos q, if_pos (ek ▸ q)]; exact hd
            · rw [if_neg q, if_neg (ek ▸ q)]; exact g1
  · rw [if_neg e, if_neg e]
    refine ⟨?_, ?_⟩
    · simp [h.1]
    · simp only [List.map_append, List.map_cons, List.map_nil]
      exact h.2.append (.one hd)
theorem put_len (es : Ass) (e : Int × Dat) : (put es e).length ≤ es.length + 1 := by
  unfold put
  split <;> simp
theorem puts_len (l : Ass) : ∀ es : Ass, (l.foldl put es).length ≤ es.length + l.length := by
  induction l with
  | nil => intro es; simp
  | cons e l ih => intro es; have := ih (put es e); have := put_len es e; simp only [List.foldl_cons, List.length_cons]; omega
def bro (es : Ass) (vns : List Int) (ls : Ass) : Ass := ((es.filter fun e => !vns.any (· == e.1)) ++ ls).foldl put []
theorem KV.at {news : List (Addr × Obj)} {kvs : List (Int × Value)} {es : Ass} (h : KV news kvs es) {i : Nat} {k : Int} {x : Value} (hx : kvs[i]? = some (k, x)) : ∃ d, es[i]? = some (k, d) ∧ DatIn news x d := by
  have hl := congrArg List.length h.1
  simp only [List.length_map] at hl
  have hi : i < kvs.length := (List.getElem?_eq_some_iff.mp hx).1
  have hi' : i < es.length := by omega
  obtain ⟨v, e1, e2⟩ := h.2.get (k := i) (by simpa using hi')
  have e3 : v = x := by
    rw [List.getElem?_map, hx] at e1
    exact (Option.some.inj e1).symm
  subst e3
  have e4 : (kvs.map (·.1))[i]? = (es.map (·.1))[i]? := by rw [h.1]
  rw [List.getElem?_map, List.getElem?_map, hx, List.getElem?_eq_getElem hi'] at e4
  have e5 : k = es[i].1 := Option.some.inj e4
  refine ⟨es[i].2, ?_, ?_⟩
  · rw [List.getElem?_eq_getElem hi', e5]
  · simpa using e2
theorem take_filter {es : Ass} {p : Int × Dat → Bool} {i : Nat} {e : Int × Dat} (h : es[i]? = some e) : (es.take (i + 1)).filter p = if p e = true then (es.take i).filter p ++ [e] else (es.take i).filter p := by
  rw [List.take_add_one, h, List.filter_append]
  by_cases q : p e = true
  · rw [if_pos q]; simp [q]
  · rw [if_neg q]; simp [q]
inductive LetsIn (w : World) (news : List (Addr × Obj)) : List Value → Ass → Prop
  | nil : LetsIn w news [] []
  | cons {v vs e es} : LetIn w news v e → LetsIn w news vs es → LetsIn w news (v :: vs) (e :: es)
theorem LetsIn.mono {w : World} {news news' : List (Addr × Obj)} (hs : ∀ p ∈ news, p ∈ news') : ∀ {vs : List Value} {es : Ass}, LetsIn w news vs es → LetsIn w news' vs es
  | _, _, .nil => .nil
  | _, _, .cons h r => .cons (h.mono hs) (r.mono hs)
theorem LetsIn.length {w : World} {news : List (Addr × Obj)} : ∀ {vs : List Value} {es : Ass}, LetsIn w news vs es → vs.length = es.length
  | _, _, .nil => rfl
  | _, _, .cons _ r => by simp [r.length]
theorem LetsIn.at {w : World} {news : List (Addr × Obj)} : ∀ {vs : List Value} {es : Ass}, LetsIn w news vs es → ∀ {i : Nat} {v : Value}, vs[i]? = some v → ∃ e, es[i]? = some e ∧ LetIn w news v e
  | _, _, .nil, _, _, h => by simp at h
  | _, _, .cons (e := e) h r, 0, _, hi => by cases hi; exact ⟨e, rfl, h⟩
  | _, _, .cons h r, i + 1, _, hi => by simpa using r.at (by simpa using hi)
theorem LetsIn.snoc {w : World} {news : List (Addr × Obj)} {v : Value} {e : Int × Dat} (h2 : LetIn w news v e) : ∀ {vs : List Value} {es : Ass}, LetsIn w news vs es → LetsIn w news (vs ++ [v]) (es ++ [e])
  | _, _, .nil => .cons h2 .nil
  | _, _, .cons h r => .cons h (r.snoc h2)
theorem fr_twice {g h : Heap} {L : Addr} {x : Str} {v : Option Value} {u m : Str → Option Value} (F : Fr g L h (fun y => if y = x then v else if y = x then u y else m y)) : Fr g L h (fun y => if y = x then v else m y) := by
  have e : (fun y => if y = x then v else if y = x then u y else m y) = fun y => if y = x then v else m y := by
    funext y
    by_cases q : y = x
    · rw [if_pos q, if_pos q]
    · rw [if_neg q, if_neg q, if_neg q]
  rw [← e]; exact F
local macro_rules | `(tactic| k_mem) => `(tactic| first | assumption | exact .tail _ (List.mem_append_right _ (by assumption)))
local macro_rules | `(tactic| walk_at "eval Name") => `(tactic| (k_here; k_dflt (refine' ld ?k1 ?k2 ?_; (case k1 => k_asm); (case k2 => first | assumption | exact (if_pos rfl) | exact (if_neg (by decide)).trans (by assumption)); k_whole)))
set_option maxRecDepth 100000 in
set_option maxHeartbeats 1000000 in
theorem brought_call {w : World} {E : Value → Shared → Prop} {s : Shared} {h₀ base : Heap} {env : Env} {L : Addr} {m mg mb : Str → Option Value} {mean : ExcName → Option Value} {news : List (Addr × Obj)} {Q : Value → Shared → Prop}
    {b vl cl : Addr} {es ls : Ass} {vvs cvs : List Value} {vns : List Int} {vc cc : Nat}
    (K0 : Below callerA base [] h₀) (hf : env.frame = some L) (hke : env.scope.kind = .function)
    (F : Fr h₀ L s.heap m) (KX : (hd.heap_39 w.params).In h₀) (N : News h₀ L s.heap news) (T : Top hd.view_39 (looseW hd.view_39 []) mean mg mb h₀)
    (hb : DD PySem.Challenge.rw_nz0264_01.row.prog w news b es) (ho : EOk es) (hv : (vl, PySem.W.listOf (List.toArray vvs) vc) ∈ news) (hvi : IntsAre vvs vns)
    (hc : (cl, PySem.W.listOf (List.toArray cvs) cc) ∈ news) (hci : LetsIn w news cvs ls) (hl : ls.length ≤ 100)
    (kk : ∀ (D : Addr) (h' : Heap) (tk : Nat) (news' : List (Addr × Obj)), Fr h₀ L h' m → News h₀ L h' news' → (∀ p ∈ news, p ∈ news') → DD PySem.Challenge.rw_nz0264_01.row.prog w news' D (bro es vns ls) → Q (.ref D) { s with heap := h', toks := tk }) :
    wpAny (model PySem.Challenge.rw_nz0264_01.row.prog w) (callerA.deeper env) (call (.ref 28) [.ref b, .ref vl, .ref cl]) Q E s := by
  revert KX; k_fill; intro KX
  refine wpAny_call ?_
  refine' code_def ?k1 ?k2 ?k3 ?k4 ?k5 ?kA ?kF ?kK ?k6 ?k7 ?k8 ?k9 ?kB ?_ ?c2 ?c3 ?c4 ?c5
  case kA => exact rfl
  case kF => exact hf
  case kK => exact hke
  case k1 => k_asm
  case k2 => k_asm
  case k3 => k_asm
  case k4 => k_asm
  case k5 => k_asm
  case k6 => k_is
  case k7 => k_is
  case k8 => k_room
  case k9 => first | exact BindsTo.of_eq rfl | exact binds_K (by k_in) rfl (by k_is) rfl rfl rfl
  case c5 => decide
  case kB => exact locs rfl
  case c2 => exact rfl
  case c3 => exact rfl
  case c4 => exact rfl
  clear F N
  intro g' L2 h2 FG F2 N2 B2 X2 T2
  (try dsimp only)
  (try k_fold)
  repeat walk1
  rename Fr _ _ _ _ => F3
  rename News _ _ _ _ => N3
  rename Obj.IsDictOf (PySem.intKind _ _) _ [] => hi3
  rename (_ == sysModules) = false => lo3
  rename_i D _ oD _ _ _ _ h3
  obtain ⟨m₀, F4, hm1, hm2, hm3, hm4⟩ : ∃ m₀, Fr g' L2 h3 m₀ ∧ m₀ (Str.ofString "flags_by_uid") = some (.ref b) ∧ m₀ (Str.ofString "vanished") = some (.ref vl) ∧ m₀ (Str.ofString "changed") = some (.ref cl) ∧ m₀ (Str.ofString "copy") = some (.ref D) := ⟨_, F3, rfl, rfl, rfl, rfl⟩
  clear F3
  have hbd := hb
  obtain ⟨od, kvs, b1, b2, b3, b4, b5⟩ := hb
  have hlen : kvs.length = es.length := by have := congrArg List.length b3; simpa using this
  have hs12 := ho.short
  have hlt : ∀ p ∈ news, p.1 < D := by assumption
  have hnD : ∀ p ∈ news, p.1 ∉ [D] := fun p hp hm => Nat.ne_of_lt (hlt p hp) (List.mem_singleton.mp hm)
  refine For_invT g' (ld F4 hm1 ?_) (by intro _; with_unfolding_all rfl)
  refine loop_dict (mu₀ := [(D, oD)]) (rest := news) (adr := [D]) (fun i m₁ mu tl => tl = [] ∧ (∃ u : Str → Option Value, m₁ = fun y => if y = Str.ofString "uid" then u y else m₀ y) ∧
    ∃ od' kvs', mu = [(D, od')] ∧ od'.IsDictOf (PySem.intKind PySem.Challenge.rw_nz0264_01.row.prog w) kvs' ∧ KV news kvs' (((es.take i).filter fun e => !vns.any (· == e.1)).foldl put []))
    rfl F4 N3 b1 b2 b5 rfl hnD ⟨rfl, ⟨m₀, by funext y; simp⟩, oD, [], rfl, hi3, .nil⟩ ?_ ?_
  · rintro i k x t m₁ mu tl I oI s₁ own hx ⟨rfl, ⟨u, rfl⟩, od', kvs', rfl, hd', hkv⟩ _ hoff _ hIo F5 N5
    simp only [List.cons_append, List.nil_append] at N5
    refine wpAny_assign_Name ?_
    iterate 4 walk1
    rename Fr _ _ _ _ => F6
    rename News _ _ _ _ => N6
    replace F6 := fr_twice F6
    iterate 3 walk1
    refine notin_list_ints (News.isList N6 (.tail _ (List.mem_append_right _ hv))) hvi ?_
    clear F5 N5
    obtain ⟨dv, ei, edv⟩ := KV.at ⟨b3, b4⟩ hx
    have hsz : kvs'.length ≤ sizeLine := by
      have e1 := hkv.len
      have e2 := puts_len ((es.take i).filter fun e => !vns.any (· == e.1)) []
      have e3 : ((es.take i).filter fun e => !vns.any (· == e.1)).length ≤ (es.take i).length := List.length_filter_le _ _
      have e4 : (es.take i).length ≤ es.length := by rw [List.length_take]; omega
      rw [e1, sizeLine_eq]
      simp only [List.length_nil] at e2
      omega
    cases hq : vns.any (· == k) with
    | false =>
      rw [Bool.not_false]
      repeat walk1
      refine kda_item (knd := PySem.intKind _ _) N6 (.tail _ (List.mem_append_right _ b1)) b2 (intKind_is _ _ _ _) (valueAt_of_get (by rw [b3]; exact ho.nodup) hx) ?_
      repeat walk1
      refine kda_set (knd := PySem.intKind _ _) F6 N6 (.head fun p hp q => hoff p (by simpa using hp) (List.mem_singleton.mpr q)) hd' (intKind_is _ _ _ _) hsz (fun h7 o7 F7 N7 hd7 => ?_)
      repeat walk1
      refine ⟨rfl, _, _, _, [(D, o7)], [], rfl, F7, N7, rfl, (fun _ h => nomatch h), rfl, ⟨_, rfl⟩, o7, _, rfl, hd7, ?_⟩
      rw [take_filter ei, if_pos (by simp [hq]), List.foldl_append]
      exact hkv.put edv
    | true =>
      rw [Bool.not_true]
      repeat walk1
      refine ⟨rfl, _, _, _, [(D, od')], [], rfl, F6, N6, rfl, (fun _ h => nomatch h), rfl, ⟨_, rfl⟩, od', kvs', rfl, hd', ?_⟩
      rw [take_filter ei, if_neg (by simp [hq])]
      exact hkv
  · rintro h8 tk8 m8 mu tl F8 N8 _ _ ⟨rfl, ⟨u, rfl⟩, od8, kvs8, rfl, hd8, hkv8⟩
    rw [hlen, List.take_length] at hkv8
    simp only [List.cons_append, List.nil_append] at N8
    obtain ⟨m₂, F9, hm5, hm6⟩ : ∃ m₂, Fr g' L2 h8 m₂ ∧ m₂ (Str.ofString "changed") = some (.ref cl) ∧ m₂ (Str.ofString "copy") = some (.ref D) := ⟨_, F8, hm3, hm4⟩
    clear F8 F4 hm1 hm2 hm3 hm4 hi3 m₀
    repeat walk1
    refine For_invT g' (ld F9 hm5 ?_) (by intro _; with_unfolding_all rfl)
    refine loop_list (mu₀ := [(D, od8)]) (rest := news) (adr := [D]) (fun i m₁ mu tl => tl = [] ∧ (∃ u : Str → Option Value, m₁ = fun y => if y = Str.ofString "letter" then u y else m₂ y) ∧
      ∃ od' kvs', mu = [(D, od')] ∧ od'.IsDictOf (PySem.intKind PySem.Challenge.rw_nz0264_01.row.prog w) kvs' ∧ KV news kvs' (((es.filter fun e => !vns.any (· == e.1)) ++ ls.take i).foldl put []))
      rfl F9 N8 hc rfl hnD ⟨rfl, ⟨m₂, by funext y; simp⟩, od8, kvs8, rfl, hd8, by simpa using hkv8⟩ ?_ ?_
    · rintro i v m₁ mu tl I oI s₁ own hx ⟨rfl, ⟨u, rfl⟩, od', kvs', rfl, hd', hkv⟩ _ hoff _ hIo F5 N5
      obtain ⟨e, he, hle⟩ := hci.at hx
      obtain ⟨x, d, fv, t, t1, t2, t3, t4, t5, t6, t7, tb, rfl, g1, g2, g3⟩ := hle
      simp only [List.cons_append, List.nil_append] at N5
      refine wpAny_assign_Name ?_
      iterate 3 walk1
      rename Fr _ _ _ _ => F6
      rename News _ _ _ _ => N6
      replace F6 := fr_twice F6
      clear F5 N5
      repeat walk1
      have hsz : kvs'.length ≤ sizeLine := by
        have e1 := hkv.len
        have e2 := puts_len ((es.filter fun e => !vns.any (· == e.1)) ++ ls.take i) []
        have e3 : (es.filter fun e => !vns.any (· == e.1)).length ≤ es.length := List.length_filter_le _ _
        have e4 : (ls.take i).length ≤ ls.length := by rw [List.length_take]; omega
        rw [e1, sizeLine_eq]
        simp only [List.length_nil, List.length_append] at e2
        omega
      refine kda_set (knd := PySem.intKind _ _) F6 N6 (.head fun p hp q => hoff p (by simpa using hp) (List.mem_singleton.mpr q)) hd' (intKind_is _ _ _ _) hsz (fun h7 o7 F7 N7 hd7 => ?_)
      repeat walk1
      refine ⟨rfl, _, _, _, [(D, o7)], [], rfl, F7, N7, rfl, (fun _ h => nomatch h), rfl, ⟨_, rfl⟩, o7, _, rfl, hd7, ?_⟩
      rw [List.take_add_one, he, Option.toList_some, ← List.append_assoc, List.foldl_append]
      exact hkv.put g3
    · rintro h9 tk9 m9 mu tl FA NA _ _ ⟨rfl, ⟨u, rfl⟩, oA, kvsA, rfl, hdA, hkvA⟩
      rw [hci.length, List.take_length] at hkvA
      simp only [List.cons_append, List.nil_append] at NA
      repeat walk1
      exact kk D h9 tk9 _ (by assumption) (by assumption) (fun p hp => .tail _ hp) ⟨oA, kvsA, .head _, hdA, hkvA.1, hkvA.2.mono fun p hp => .tail _ hp, lo3⟩
end Mine
namespace Mine
theorem mem_of_allLt {d : Nat} : ∀ {l : List (Addr × Obj)}, AllLt d l → ∀ p ∈ l, @LT.lt Nat _ p.1 d
  | [], _, _, h => nomatch h
  | _ :: _, h, p, hp => by
    rcases List.mem_cons.mp hp with rfl | hp
    · exact h.1
    · exact mem_of_allLt h.2 p hp
def Tups (es : Ass) : Prop := ∀ e ∈ es, ∃ fds : List Str, e.2 = .tuple (fds.map .str) ∧ fds.all PyData.strOk = true
def RowsOk (i : Nat) (l : Ass) : Prop := (l.map (·.1)).Pairwise (· < ·) ∧ (∀ e ∈ l, 1 ≤ e.1 ∧ e.1 ≤ i) ∧ Tups l
theorem all_off1 {l : List (Addr × Obj)} {a b : Addr} (h : ∀ p ∈ l, p.1 ∉ [a, b]) : ∀ p ∈ l, p.1 ≠ a := fun p hp q => h p hp (q ▸ .head _)
theorem all_off2 {l : List (Addr × Obj)} {a b : Addr} (h : ∀ p ∈ l, p.1 ∉ [a, b]) : ∀ p ∈ l, p.1 ≠ b := fun p hp q => h p hp (q ▸ .tail _ (.head _))
theorem sel2 (p : Nat → Bool) (a b : Str) (ta tb : Tok) (ha : PyData.strOk a = true) (hb : PyData.strOk b = true) :
    ∃ fds : List Str, (∀ news, DatAll news (sel p [.str a ta, .str b tb] [Value.str a ta, Value.str b tb].length) (fds.map .str)) ∧ fds.all PyData.strOk = true ∧ (sel p [.str a ta, .str b tb] [Value.str a ta, Value.str b tb].length).length ≤ 2 := by
  have e : sel p [.str a ta, .str b tb] [Value.str a ta, Value.str b tb].length = (if p 0 then [Value.str a ta] else []) ++ (if p 1 then [Value.str b tb] else []) := by
    have e1 := sel_succ (p := p) (its := [Value.str a ta, Value.str b tb]) (n := 0) (x := .str a ta) rfl
    have e2 := sel_succ (p := p) (its := [Value.str a ta, Value.str b tb]) (n := 1) (x := .str b tb) rfl
    have e0 : sel p [Value.str a ta, Value.str b tb] 0 = [] := rfl
    rw [e0] at e1
    rw [e1] at e2
    refine e2.trans ?_
    cases p 0 <;> cases p 1 <;> rfl
  rw [e]
  cases p 0 <;> cases p 1
  · exact ⟨[], fun _ => .nil, rfl, by simp⟩
  · exact ⟨[b], fun _ => .cons (.str _ _) .nil, by simp [hb], by simp⟩
  · exact ⟨[a], fun _ => .cons (.str _ _) .nil, by simp [ha], by simp⟩
  · exact ⟨[a, b], fun _ => .cons (.str _ _) (.cons (.str _ _) .nil), by simp [ha, hb], by simp⟩
local macro_rules | `(tactic| k_all) => `(tactic| first | exact all_off1 (by assumption) | exact all_off2 (by assumption))
local macro_rules | `(tactic| k_mem) => `(tactic| first | assumption | exact .tail _ (.tail _ (List.mem_append_right _ (by assumption))))
local macro_rules | `(tactic| walk_at "none of these 0") => `(tactic| skip)
local macro_rules | `(tactic| walk_at "eval Name") => `(tactic| (k_here; k_dflt (refine' nameX_L ?k1 ?k2 ?_ ?a ?b; (case k1 => k_asm); (case k2 => first | assumption | exact (if_pos rfl) | (refine (if_neg (by decide)).trans ?_; first | assumption | exact (if_pos rfl) | (refine (if_neg (by decide)).trans ?_; first | assumption | exact (if_pos rfl) | exact (if_neg (by decide)).trans (by assumption)))); (case a => rfl); (case b => rfl); k_whole)))
theorem reord5 {h₀ h : Heap} {L : Addr} {a b c d e f : Addr × Obj} {own tl news : List (Addr × Obj)} (N : News h₀ L h (a :: b :: c :: d :: e :: f :: (own ++ (tl ++ news)))) : News h₀ L h ([e, f] ++ (own ++ ((a :: b :: c :: d :: tl) ++ news))) := fun p hp => N p (by
  simp only [List.mem_append, List.mem_cons, List.not_mem_nil, or_false] at hp ⊢
  rcases hp with (h | h) | h | ((h | h | h | h | h) | h)
  all_goals simp [h])
theorem off2 {x a b : Addr} (h1 : x ≠ a) (h2 : x ≠ b) : x ∉ [a, b] := fun hm => by
  rcases List.mem_cons.mp hm with h | h
  · exact h1 h
  · exact h2 (List.mem_singleton.mp h)
theorem RowsOk.snoc {i : Nat} {l : Ass} (h : RowsOk i l) {fds : List Str} (hok : fds.all PyData.strOk = true) : RowsOk (i + 1) (l ++ [((i : Int) + 1, .tuple (fds.map .str))]) := by
  obtain ⟨h1, h2, h3⟩ := h
  refine ⟨?_, fun e he => ?_, fun e he => ?_⟩
  · rw [List.map_append]
    refine List.pairwise_append.mpr ⟨h1, List.pairwise_singleton _ _, fun a ha b hb => ?_⟩
    obtain ⟨e, he, rfl⟩ := List.mem_map.mp ha
    rw [List.mem_singleton.mp hb]
    have := (h2 e he).2
    show e.1 < (i : Int) + 1
    omega
  · rcases List.mem_append.mp he with he | he
    · have := h2 e he
      omega
    · rw [List.mem_singleton.mp he]
      show 1 ≤ (i : Int) + 1 ∧ (i : Int) + 1 ≤ ((i + 1 : Nat) : Int)
      omega
  · rcases List.mem_append.mp he with he | he
    · exact h3 e he
    · rw [List.mem_singleton.mp he]
      exact ⟨fds, rfl, hok⟩
def Rows2 (l : Ass) : Prop := (l.map (·.1)).Nodup ∧ (∀ e ∈ l, e.1 ∈ rng) ∧ Tups l
theorem rng_mem {k : Int} (h1 : 1 ≤ k) (h2 : k ≤ 12) : k ∈ rng := by
  have : k = 1 ∨ k = 2 ∨ k = 3 ∨ k = 4 ∨ k = 5 ∨ k = 6 ∨ k = 7 ∨ k = 8 ∨ k = 9 ∨ k = 10 ∨ k = 11 ∨ k = 12 := by omega
  rcases this with h | h | h | h | h | h | h | h | h | h | h | h <;> rw [h] <;> decide
theorem RowsOk.rows2 {i : Nat} {l : Ass} (h : RowsOk i l) (hi : i ≤ 12) : Rows2 l := by
  obtain ⟨h1, h2, h3⟩ := h
  refine ⟨asc_nodup h1, fun e he => ?_, h3⟩
  have := h2 e he
  exact rng_mem this.1 (by omega)
theorem Rows2.rev {l : Ass} (h : Rows2 l) : Rows2 l.reverse := by
  obtain ⟨h1, h2, h3⟩ := h
  refine ⟨?_, fun e he => h2 e (List.mem_reverse.mp he), fun e he => h3 e (List.mem_reverse.mp he)⟩
  rw [List.map_reverse]
  exact (List.reverse_perm _).nodup_iff.mpr h1
theorem datAll_rev {news : List (Addr × Obj)} : ∀ {vs : List Value} {ds : List Dat}, DatAll news vs ds → DatAll news vs.reverse ds.reverse
  | _, _, .nil => .nil
  | _, _, .cons h r => by
    rw [List.reverse_cons, List.reverse_cons]
    exact (datAll_rev r).append (.one h)
theorem put_new {es : Ass} {e : Int × Dat} (h : e.1 ∉ es.map (·.1)) : put es e = es ++ [e] := by
  unfold put
  rw [if_neg]
  intro q
  obtain ⟨x, hx, hk⟩ := List.any_eq_true.mp q
  exact h (by rw [← of_decide_eq_true hk]; exact List.mem_map_of_mem hx)
theorem puts_nodup' : ∀ {l es : Ass}, ((es ++ l).map (·.1)).Nodup → l.foldl put es = es ++ l
  | [], es, _ => by simp
  | e :: l, es, h => by
    have hn : e.1 ∉ es.map (·.1) := by
      rw [List.map_append, List.nodup_append] at h
      exact fun hm => h.2.2 _ hm _ (List.mem_map_of_mem (.head _)) rfl
    rw [List.foldl_cons, put_new hn, puts_nodup' (by rw [List.append_assoc]; exact h), List.append_assoc]
    rfl
theorem puts_nodup {l : Ass} (h : (l.map (·.1)).Nodup) : l.foldl put [] = l := by
  have := puts_nodup' (l := l) (es := []) (by simpa using h)
  simpa using this
theorem Rows2.ok {l : Ass} (h : Rows2 l) : EOk l := by
  refine ⟨h.1, h.2.1, fun e he => ?_⟩
  obtain ⟨fds, e1, e2⟩ := h.2.2 e he
  rw [e1]
  show (fds.map Dat.str).all (kqdOk 0) = true
  rw [List.all_map]
  exact e2
theorem pair_at {news : List (Addr × Obj)} {vs : List Value} {l : Ass} (h : DatAll news vs (l.map pr)) {i : Nat} {v : Value} (hv : vs[i]? = some v) :
    ∃ T k x t n d, v = .ref T ∧ (T, ({ cls := .type "tuple", data := .seq #[.int k t, x] n } : Obj)) ∈ news ∧ l[i]? = some (k, d) ∧ DatIn news x d := by
  have hl := h.length
  rw [List.length_map] at hl
  have hi : i < vs.length := (List.getElem?_eq_some_iff.mp hv).1
  have hi' : i < l.length := by omega
  obtain ⟨v', e1, e2⟩ := h.get (k := i) (by rw [List.length_map]; exact hi')
  rw [hv] at e1
  cases e1
  have e : (l.map pr)[i]'(by rw [List.length_map]; exact hi') = pr l[i] := by simp
  rw [e] at e2
  unfold pr at e2
  cases e2 with
  | tuple hm hr =>
    cases hr with
    | cons h1 hr =>
      cases h1 with
      | int _ t =>
        cases hr with
        | cons h2 hr =>
          cases hr
          exact ⟨_, _, _, t, _, l[i].2, rfl, hm, by rw [List.getElem?_eq_getElem hi'], h2⟩
theorem asg_pair {prog : Program} {w : World} {A : Around} {E : Value → Shared → Prop} {s : Shared} {h₀ : Heap} {env : Env} {m : Str → Option Value} {news : List (Addr × Obj)} {a b : Str} {pa pb tp : Pos} {kk : Nat} {T : Addr} {x y : Value} {n : Nat} {Q : Unit → Shared → Prop} (hh : A.handled = none)
    (F : Fr h₀ env.locals s.heap m) (N : News h₀ env.locals s.heap news) (hm : (T, ({ cls := .type "tuple", data := .seq #[x, y] n } : Obj)) ∈ news)
    (ha : env.kindOf a = some .local) (hb : env.kindOf b = some .local) (hp : (env.scope.kind == .class || (env.scope.kind == .module && env.locals != env.globals)) = false)
    (h : ∀ (h' : Heap) (tk : Nat), Fr h₀ env.locals h' (fun z => if z = b then some y else if z = a then some x else m z) → News h₀ env.locals h' news → Q () { s with heap := h', toks := tk }) :
    wpAny (model prog w) A (assign (.Tuple [.Name a pa, .Name b pb] kk tp) env (.ref T)) Q E s := by
  refine kcp_assign hh ⟨_, N.get hm, rfl, n, rfl⟩ ha hb hp F.ns fun h' tk hn hk => h h' tk ⟨hn, fun c o e => hk c o (fun q => ?_) (F.keep c o e), F.above⟩ fun p hp => ⟨hk _ _ (N p hp).2.1 (N p hp).1, (N p hp).2⟩
  have hL₀ : h₀.get? env.locals = none := Heap.get?_none_of_le F.above
  rw [q, hL₀] at e; cases e
set_option maxRecDepth 100000 in
set_option maxHeartbeats 1000000 in
theorem copy_call {w : World} {E : Value → Shared → Prop} {s : Shared} {h₀ base : Heap} {env : Env} {L : Addr} {m mg mb : Str → Option Value} {mean : ExcName → Option Value} {news : List (Addr × Obj)} {Q : Value → Shared → Prop}
    {n : Int} {tn : Tok} {tr : Bool}
    (K0 : Below callerA base [] h₀) (hf : env.frame = some L) (hke : env.scope.kind = .function)
    (F : Fr h₀ L s.heap m) (KX : (hd.heap_39 w.params).In h₀) (N : News h₀ L s.heap news) (T : Top hd.view_39 (looseW hd.view_39 []) mean mg mb h₀)
    (kk : ∀ (D : Addr) (h' : Heap) (tk : Nat) (news' : List (Addr × Obj)) (es : Ass), Fr h₀ L h' m → News h₀ L h' news' → (∀ p ∈ news, p ∈ news') → DD PySem.Challenge.rw_nz0264_01.row.prog w news' D es → EOk es → Tups es → Q (.ref D) { s with heap := h', toks := tk }) :
    wpAny (model PySem.Challenge.rw_nz0264_01.row.prog w) (callerA.deeper env) (call (.ref 73) [.int n tn, .bool tr]) Q E s := by
  revert KX; k_fill; intro KX
  refine wpAny_call ?_
  refine' code_defC ?k1 ?k2 ?k3 ?k4 ?k5 ?kA ?kF ?kK ?k6 ?k7 ?k8 ?k9 ?kB ?kD ?_ ?c2 ?c3 ?c4
  case kA => exact rfl
  case kF => exact hf
  case kK => exact hke
  case k1 => k_asm
  case k2 => k_asm
  case k3 => k_asm
  case k4 => k_asm
  case k5 => k_asm
  case k6 => k_is
  case k7 => k_is
  case k8 => k_room
  case k9 => first | exact BindsTo.of_eq rfl | exact binds_K (by k_in) rfl (by k_is) rfl rfl rfl
  case kB => exact rfl
  case kD => decide +kernel
  case c2 => exact rfl
  case c3 => exact rfl
  case c4 => exact rfl
  clear F N
  intro g' L2 h2 tk2 cells' FG F2 N2 Y2 B2 X2 T2 l1
  have hY := CellsAre.one Y2
  obtain ⟨oC, hE', dC⟩ := hY
  subst hE'
  clear Y2
  (try simp only [List.cons_append, List.nil_append] at N2); (try dsimp only); (try k_fold)
  obtain ⟨m₀, F3, hm1, hm2⟩ : ∃ m₀, Fr g' L2 h2 m₀ ∧ m₀ (Str.ofString "number") = some (.int n tn) ∧ m₀ (Str.ofString "is_turned") = some (.bool tr) := ⟨_, F2, rfl, rfl⟩
  clear F2
  iterate 5 walk1
  rename Fr _ _ _ _ => F3'
  rename News _ _ _ _ => N3'
  rename_i R hR lR
  iterate 3 walk1
  refine For_invT g' ?_ (by intro _; with_unfolding_all rfl)
  iterate 9 walk1
  rename Fr _ _ _ _ => F4
  rename News _ _ _ _ => N4
  rename IsRange _ _ _ _ _ _ _ _ => hr4
  have hlR := lR.1
  have hlN := lR.2
  have hnA : ∀ p ∈ news, p.1 ∉ [R, L2 + 1] := fun p hp hm => by
    rcases List.mem_cons.mp hm with e | hm
    · have := mem_of_allLt hlN p hp
      exact absurd e (Nat.ne_of_lt this)
    · have := l1 p hp
      exact absurd (List.mem_singleton.mp hm) (Nat.ne_of_lt (Nat.lt_succ_of_lt this))
  refine loop_rng (mu₀ := [(R, PySem.W.listOf #[] 0), (L2 + 1, oC)]) (rest := news) (adr := [R, L2 + 1]) (fun i m₁ mu tl => m₁ (Str.ofString "rows") = some (.ref R) ∧ m₁ (Str.ofString "is_turned") = some (.bool tr) ∧ (∃ k t, m₁ (Str.ofString "number") = some (.int k t)) ∧
    ∃ out c oC' l, mu = [(R, PySem.W.listOf (List.toArray out) c), (L2 + 1, oC')] ∧ (∃ v, oC'.data = .cell v) ∧ DatAll (tl ++ news) out (l.map pr) ∧ out.length ≤ i ∧ RowsOk i l)
    rfl F4 N4 hr4 rfl hnA ⟨if_pos rfl, (if_neg (by decide)).trans hm2, ⟨n, tn, (if_neg (by decide)).trans hm1⟩, [], 0, oC, [], rfl, ⟨_, dC⟩, .nil, Nat.zero_le _, .nil, (fun _ h => nomatch h), (fun _ h => nomatch h)⟩ ?_ ?_ (by intro I i s' v Q' _ h; unfold letOwnedTupleGo; exact wpAny_pure h)
  · rintro i t m₁ mu tl I oI s₁ own hi ⟨q1, q2, ⟨k, tk1, q3⟩, out, c, oC', l, rfl, ⟨vC, dC'⟩, hda, hol, hro⟩ _ hoff htI hIo F5 N5
    simp only [List.cons_append, List.nil_append] at N5
    refine wpAny_assign_Name ?_
    clear F4 N4
    iterate 23 walk1
    walk1
    · iterate 16 walk1
      rename 0 < Int.fmod k 5 => hz
      rename Fr _ _ _ _ => F6
      rename News _ _ _ _ => N6
      rename Obj.data _ = Data.cell _ => dC6
      rename_i oC6 _
      refine comp_enum F6 (fun i => decide (Int.fmod (Int.fdiv (Int.fmod k 5 - 1) (2 ^ i)) 2 = 1)) (by with_unfolding_all rfl) (by decide) (by rfl) (by decide) (by rfl) (by rfl) (by decide) (by decide) (by rfl) ?_ (by intro _; rfl)
      iterate 13 walk1
      rename Fr _ _ _ _ => F7
      rename News _ _ _ _ => N7
      rename_i D2 _ _ lD2 _ _ _ _ _ _
      refine enum_call F7 N7 (.head _) fun xv h8 F8 N8 hE => ?_
      refine ⟨_, _, _, 0, F8, N8, .head _, Nat.le_of_ble_eq_true rfl, hE, fun C i t x s₃ m₃ E' F₃ N₃ hn₃ ha₃ hx₃ => ?_, fun D h9 tk9 c9 F9 N9 hD9 => ?_⟩
      · have hi2 : i = 0 ∨ i = 1 := by
          have := (List.getElem?_eq_some_iff.mp hx₃).1
          simp only [List.length_cons, List.length_nil] at this
          omega
        refine wpAny_isTrue_Compare1 ?_
        iterate 3 walk1
        refine lcf_cell N₃ rfl (.tail _ (.tail _ (.head _))) dC6 ?_ rfl rfl
        iterate 5 walk1
        rcases hi2 with rfl | rfl
        · iterate 7 walk1
          exact ⟨by first | rfl | simp, _, _, rfl, fun _ _ e => e⟩
        · iterate 7 walk1
          exact ⟨by first | rfl | simp, _, _, rfl, fun _ _ e => e⟩
      · obtain ⟨fds, hfd, hok, hzl⟩ := sel2 (fun i => decide (Int.fmod (Int.fdiv (Int.fmod k 5 - 1) (2 ^ i)) 2 = 1)) ⟨#[92, 70, 108, 97, 103, 103, 101, 100]⟩ ⟨#[92, 83, 101, 101, 110]⟩ _ _ (by decide +kernel) (by decide +kernel)
        generalize hzs : sel _ _ _ = zs at N9 hfd hzl
        clear F8 N8 hE F6 N6 F7 N7
        iterate 1 walk1
        refine kde_tupleOf F9 N9 (News.isList N9 (.head _)) (by rw [List.size_toArray]; omega) rfl fun DT h10 F10 N10 l10 => ?_
        clear F9 N9
        walk1
        have lP : ∀ p ∈ (DT, _) :: (D, _) :: (D2, _) :: (R, _) :: (L2 + 1, oC6) :: (own ++ (tl ++ news)), p.1 < h10.objs.size := fun p hp => Heap.lt_size (N10 p hp).1
        refine newTuple_N F10 N10 (fun h11 F11 N11 => ?_) (by rw [sizeLine_eq]; exact Nat.le_of_ble_eq_true rfl)
        clear F10 N10
        iterate 1 walk1
        dsimp only at N11
        generalize h10.objs.size = P at N11 lP ⊢
        have neP : P ≠ R := fun e => Nat.lt_irrefl _ (e ▸ lP _ (.tail _ (.tail _ (.tail _ (.head _)))))
        have neT : DT ≠ R := fun e => Nat.lt_irrefl _ (e ▸ l10 _ (.tail _ (.tail _ (.head _))))
        have neD : D ≠ R := fun e => hD9 _ (.tail _ (.head _)) e.symm
        have neD2 : D2 ≠ R := fun e => Nat.lt_irrefl _ (e ▸ lD2.1)
        have hall : ∀ p ∈ (L2 + 1, oC6) :: (own ++ (tl ++ news)), p.1 ≠ R := fun p hp => by
          rcases List.mem_cons.mp hp with rfl | hp
          · exact Nat.ne_of_lt hlR
          · exact all_off1 hoff p hp
        refine append_K F11 N11 (.tail neP (.tail neT (.tail neD (.tail neD2 (.head hall))))) (fun h12 F12 N12 => ?_) ?_
        · clear F11 N11
          repeat walk1
          rw [List.push_toArray] at N12
          have hI : ∀ x : Addr, (∀ p ∈ own ++ (tl ++ news), p.1 ≠ x) → x ≠ I := fun x hx e => hx _ (List.mem_append_left _ hIo) e.symm
          refine ⟨rfl, h12, _, _, [(R, PySem.W.listOf (List.toArray (out ++ [Value.ref P])) (c + 1)), (L2 + 1, oC6)], (P, _) :: (DT, _) :: (D, _) :: (D2, _) :: tl, rfl, F12, reord5 N12, rfl, ?_,
            (if_neg (by decide)).trans ((if_neg (by decide)).trans q1), (if_neg (by decide)).trans ((if_neg (by decide)).trans q2), ⟨_, _, if_pos rfl⟩, out ++ [Value.ref P], c + 1, oC6, l ++ [((i : Int) + 1, .tuple (fds.map .str))], rfl, ⟨_, dC6⟩, ?_, by rw [List.length_append]; exact Nat.succ_le_succ hol, ?_⟩
          · intro p hp
            rcases List.mem_cons.mp hp with rfl | hp
            · refine ⟨off2 neP (fun e => Nat.lt_irrefl _ (e ▸ lP _ (.tail _ (.tail _ (.tail _ (.tail _ (.head _))))))), hI _ fun q hq e => Nat.lt_irrefl _ (e ▸ lP q (.tail _ (.tail _ (.tail _ (.tail _ (.tail _ hq))))))⟩
            rcases List.mem_cons.mp hp with rfl | hp
            · refine ⟨off2 neT (fun e => Nat.lt_irrefl _ (e ▸ l10 _ (.tail _ (.tail _ (.tail _ (.head _)))))), hI _ fun q hq e => Nat.lt_irrefl _ (e ▸ l10 q (.tail _ (.tail _ (.tail _ (.tail _ hq)))))⟩
            rcases List.mem_cons.mp hp with rfl | hp
            · refine ⟨off2 neD (fun e => hD9 _ (.tail _ (.tail _ (.head _))) e.symm), hI _ fun q hq e => hD9 q (.tail _ (.tail _ (.tail _ hq))) e⟩
            rcases List.mem_cons.mp hp with rfl | hp
            · refine ⟨off2 neD2 (fun e => Nat.lt_irrefl _ (e ▸ lD2.2.1)), hI _ fun q hq e => Nat.lt_irrefl _ (e ▸ mem_of_allLt lD2.2.2 q hq)⟩
            · refine ⟨hoff p (List.mem_append_right _ (List.mem_append_left _ hp)), ?_⟩
              exact htI p hp
          · rw [List.map_append]
            refine DatAll.append (hda.mono fun p hp => ?_) (.one ?_)
            · rcases List.mem_append.mp hp with hp | hp
              · exact List.mem_append_left _ (.tail _ (.tail _ (.tail _ (.tail _ hp))))
              · exact List.mem_append_right _ hp
            · exact .tuple (vs := [.int ((i : Int) + 1) t, .ref DT]) (n := 0) (.head _) (.cons (.int _ _) (.cons (.tuple (.tail _ (.head _)) (hfd _)) .nil))
          · exact hro.snoc hok
        · rw [List.size_toArray, sizeLine_eq]
          omega
    · repeat walk1
      rename Fr _ _ _ _ => F6
      rename News _ _ _ _ => N6
      rename Obj.data _ = Data.cell _ => dC6
      refine ⟨rfl, _, _, _, [(R, PySem.W.listOf (List.toArray out) c), (L2 + 1, _)], tl, rfl, F6, N6, rfl, fun p hp => ⟨hoff p (List.mem_append_right _ (List.mem_append_left _ hp)), htI p hp⟩,
        (if_neg (by decide)).trans ((if_neg (by decide)).trans q1), (if_neg (by decide)).trans ((if_neg (by decide)).trans q2), ⟨_, _, if_pos rfl⟩, out, c, _, l, rfl, ⟨_, dC6⟩, hda, Nat.le_succ_of_le hol, hro.1, fun e he => ?_, hro.2.2⟩
      have := hro.2.1 e he
      omega
  · rintro h8 tk8 m8 mu tl F8 N8 _ htl ⟨q1, q2, _, out, c, oC', l, rfl, _, hda, hol, hro⟩
    simp only [List.cons_append, List.nil_append] at N8
    iterate 5 walk1
    rename Fr _ _ _ _ => FA
    rename News _ _ _ _ => NA
    rename Obj.IsDictOf (PySem.intKind _ _) _ [] => hiA
    rename (_ == sysModules) = false => loA
    rename_i D _ oD _ _ _ _ _ lA hA
    refine For_invT g' ?_ (by intro _; with_unfolding_all rfl)
    have hDr : ∀ p ∈ (R, PySem.W.listOf (List.toArray out) c) :: (L2 + 1, oC') :: (tl ++ news), p.1 < D := fun p hp => by
      rcases List.mem_cons.mp hp with rfl | hp
      · exact lA.1
      · rcases List.mem_cons.mp hp with rfl | hp
        · exact lA.2.1
        · exact mem_of_allLt lA.2.2 p hp
    have hr0 := hro.rows2 (Nat.le_refl _)
    have hda0 : DatAll ((R, PySem.W.listOf (List.toArray out) c) :: (L2 + 1, oC') :: (tl ++ news)) out (l.map pr) := hda.mono fun p hp => .tail _ (.tail _ hp)
    have hm0 : ∃ mF : Str → Option Value, Fr g' L2 hA mF ∧ mF (Str.ofString "found") = some (.ref D) ∧ mF (Str.ofString "rows") = some (.ref R) ∧ mF (Str.ofString "is_turned") = some (.bool tr) := ⟨_, FA, if_pos rfl, (if_neg (by decide)).trans q1, (if_neg (by decide)).trans q2⟩
    clear FA q1 q2 hm1 hm2
    obtain ⟨mF, FA, f1, f2, f3⟩ := hm0
    cases tr with
    | false => 
      iterate 6 walk1
      have pk : ∃ (outs : List Value) (cs : Nat) (rest : Led) (l2 : Ass), News g' L2 hA ([(D, oD)] ++ rest) ∧ (R, PySem.W.listOf (List.toArray outs) cs) ∈ rest ∧ (∀ p ∈ rest, p.1 ∉ [D]) ∧ (∀ p ∈ news, p ∈ rest) ∧ DatAll rest outs (l2.map pr) ∧ outs.length ≤ 12 ∧ Rows2 l2 :=
        ⟨out, c, _, l, NA, .head _, fun p hp q => Nat.lt_irrefl _ (by have := hDr p hp; rwa [List.mem_singleton.mp q] at this), fun p hp => .tail _ (.tail _ (List.mem_append_right _ hp)), hda0, hol, hr0⟩
      obtain ⟨outs, cs, rest, l2, N9, hS, hnD, hsub, hda2, hol2, hr2⟩ := pk
      refine loop_list (mu₀ := [(D, oD)]) (rest := rest) (adr := [D]) (fun i m₁ mu tl => tl = [] ∧ m₁ (Str.ofString "found") = some (.ref D) ∧ ∃ od' kvs', mu = [(D, od')] ∧ od'.IsDictOf (PySem.intKind PySem.Challenge.rw_nz0264_01.row.prog w) kvs' ∧ KV rest kvs' ((l2.take i).foldl put []))
        rfl FA N9 hS rfl hnD ⟨rfl, f1, oD, [], rfl, hiA, .nil⟩ ?_ ?_
      · rintro i v m₁ mu tl2 I oI s₁ own hx ⟨rfl, g1, od', kvs', rfl, hd', hkv⟩ _ hoff _ hIo F5 N5
        simp only [List.cons_append, List.nil_append] at N5
        obtain ⟨TT, k, x, t, nn, dv, rfl, hmT, hli, hdv⟩ := pair_at hda2 hx
        refine asg_pair rfl F5 N5 (.tail _ (List.mem_append_right _ hmT)) (by rfl) (by rfl) (by rfl) fun h6 tk6 F6 N6 => ?_
        clear F5 N5
        repeat walk1
        have hsz : kvs'.length ≤ sizeLine := by
          have e1 := hkv.len
          have e2 := puts_len (l2.take i) []
          have e4 : (l2.take i).length ≤ l2.length := by rw [List.length_take]; omega
          have e5 := hda2.length
          rw [List.length_map] at e5
          rw [e1, sizeLine_eq]
          simp only [List.length_nil] at e2
          omega
        refine kda_set (knd := PySem.intKind _ _) F6 N6 (.head fun p hp q => hoff p (by simpa using hp) (List.mem_singleton.mpr q)) hd' (intKind_is _ _ _ _) hsz (fun h7 o7 F7 N7 hd7 => ?_)
        repeat walk1
        refine ⟨rfl, _, _, _, [(D, o7)], [], rfl, F7, N7, rfl, (fun _ h => nomatch h), rfl, (if_neg (by decide)).trans ((if_neg (by decide)).trans g1), o7, _, rfl, hd7, ?_⟩
        rw [List.take_add_one, hli, Option.toList_some, List.foldl_append]
        exact hkv.put hdv
      · rintro h9 tk9 m9 mu tl2 F9 N9 _ _ ⟨rfl, g1, oA, kvsA, rfl, hdA, hkvA⟩
        have e5 := hda2.length
        rw [List.length_map] at e5
        rw [e5, List.take_length, puts_nodup hr2.1] at hkvA
        simp only [List.cons_append, List.nil_append] at N9
        clear FA NA
        repeat walk1
        exact kk D h9 tk9 _ l2 (by assumption) (by assumption) (fun p hp => .tail _ (hsub p hp)) ⟨oA, kvsA, .head _, hdA, hkvA.1, hkvA.2.mono fun p hp => .tail _ hp, loA⟩ hr2.ok hr2.2.2
    | true =>
      iterate 15 walk1
      rename News _ _ _ _ => NB
      rename Fr _ _ _ _ => FB
      rename_i hB
      dsimp only at NB FB ⊢
      rw [krv_pick] at NB
      have pk : ∃ (outs : List Value) (cs : Nat) (rest : Led) (l2 : Ass), News g' L2 hB ([(D, oD)] ++ rest) ∧ (hA.objs.size + 1, PySem.W.listOf (List.toArray outs) cs) ∈ rest ∧ (∀ p ∈ rest, p.1 ∉ [D]) ∧ (∀ p ∈ news, p ∈ rest) ∧ DatAll rest outs (l2.map pr) ∧ outs.length ≤ 12 ∧ Rows2 l2 := by
        refine ⟨out.reverse, 0, (hA.objs.size + 1, PySem.W.listOf (List.toArray out.reverse) 0) :: (R, PySem.W.listOf (List.toArray out) c) :: (L2 + 1, oC') :: (tl ++ news), l.reverse, fun p hp => NB p ?_, .head _, fun p hp q => ?_, fun p hp => .tail _ (.tail _ (.tail _ (List.mem_append_right _ hp))), ?_, by rw [List.length_reverse]; exact hol, hr0.rev⟩
        · rcases List.mem_cons.mp hp with rfl | hp
          · exact .tail _ (.head _)
          · rcases List.mem_cons.mp hp with rfl | hp
            · exact .head _
            · exact .tail _ (.tail _ hp)
        · have hDs := Heap.lt_size (NA _ (.head _)).1
          rcases List.mem_cons.mp hp with rfl | hp
          · have q' := List.mem_singleton.mp q
            exact absurd q' (Nat.ne_of_gt (Nat.lt_succ_of_lt hDs))
          · have := hDr p hp
            rw [List.mem_singleton.mp q] at this
            exact Nat.lt_irrefl _ this
        · rw [List.map_reverse]
          exact datAll_rev (hda0.mono fun p hp => .tail _ hp)
      obtain ⟨outs, cs, rest, l2, N9, hS, hnD, hsub, hda2, hol2, hr2⟩ := pk
      refine loop_list (mu₀ := [(D, oD)]) (rest := rest) (adr := [D]) (fun i m₁ mu tl => tl = [] ∧ m₁ (Str.ofString "found") = some (.ref D) ∧ ∃ od' kvs', mu = [(D, od')] ∧ od'.IsDictOf (PySem.intKind PySem.Challenge.rw_nz0264_01.row.prog w) kvs' ∧ KV rest kvs' ((l2.take i).foldl put []))
        rfl FB N9 hS rfl hnD ⟨rfl, f1, oD, [], rfl, hiA, .nil⟩ ?_ ?_
      · rintro i v m₁ mu tl2 I oI s₁ own hx ⟨rfl, g1, od', kvs', rfl, hd', hkv⟩ _ hoff _ hIo F5 N5
        simp only [List.cons_append, List.nil_append] at N5
        obtain ⟨TT, k, x, t, nn, dv, rfl, hmT, hli, hdv⟩ := pair_at hda2 hx
        refine asg_pair rfl F5 N5 (.tail _ (List.mem_append_right _ hmT)) (by rfl) (by rfl) (by rfl) fun h6 tk6 F6 N6 => ?_
        clear F5 N5
        repeat walk1
        have hsz : kvs'.length ≤ sizeLine := by
          have e1 := hkv.len
          have e2 := puts_len (l2.take i) []
          have e4 : (l2.take i).length ≤ l2.length := by rw [List.length_take]; omega
          have e5 := hda2.length
          rw [List.length_map] at e5
          rw [e1, sizeLine_eq]
          simp only [List.length_nil] at e2
          omega
        refine kda_set (knd := PySem.intKind _ _) F6 N6 (.head fun p hp q => hoff p (by simpa using hp) (List.mem_singleton.mpr q)) hd' (intKind_is _ _ _ _) hsz (fun h7 o7 F7 N7 hd7 => ?_)
        repeat walk1
        refine ⟨rfl, _, _, _, [(D, o7)], [], rfl, F7, N7, rfl, (fun _ h => nomatch h), rfl, (if_neg (by decide)).trans ((if_neg (by decide)).trans g1), o7, _, rfl, hd7, ?_⟩
        rw [List.take_add_one, hli, Option.toList_some, List.foldl_append]
        exact hkv.put hdv
      · rintro h9 tk9 m9 mu tl2 F9 N9 _ _ ⟨rfl, g1, oA, kvsA, rfl, hdA, hkvA⟩
        have e5 := hda2.length
        rw [List.length_map] at e5
        rw [e5, List.take_length, puts_nodup hr2.1] at hkvA
        simp only [List.cons_append, List.nil_append] at N9
        clear FA NA
        repeat walk1
        exact kk D h9 tk9 _ l2 (by assumption) (by assumption) (fun p hp => .tail _ (hsub p hp)) ⟨oA, kvsA, .head _, hdA, hkvA.1, hkvA.2.mono fun p hp => .tail _ hp, loA⟩ hr2.ok hr2.2.2
end Mine
namespace Mine
open LCg in
theorem compRest_ind {prog : Program} {w : World} {A : Around} {h₀ : Heap} {L : Addr} {m : Str → Option Value} {env : Env} {elt : PySem.Expr} {x : Str} {scope : Scope} {cl : List (Str × Addr)} {s : Shared} {S : List (Addr × Obj) → Prop} {P : Nat → Value → Prop} {Fin : List Value → List (Addr × Obj) → Prop}
    (n : Nat) (Inv : Nat → List Value → List (Addr × Obj) → Prop)
    (step : ∀ i ys news, i < n → Inv i ys news → ∀ v I oI C oC D m₂ h tk (E' : Value → Shared → Prop), P i v → NsObj oC m₂ → m₂ x = some v → Fr h₀ L h m → News h₀ L h ((I, oI) :: (C, oC) :: (D, lst ys) :: news) → Off3 I C D news →
      wpAny (model prog w) A (eval elt (compEnvC scope cl C env)) (fun y s₂ => ∃ h' tk' nw, s₂ = { s with heap := h', toks := tk' } ∧ Fr h₀ L h' m ∧ News h₀ L h' (nw ++ ((I, oI) :: (C, oC) :: (D, lst ys) :: news)) ∧ (∀ p ∈ nw, ∀ q ∈ (I, oI) :: (C, oC) :: (D, lst ys) :: news, q.1 < p.1) ∧ S (nw ++ news) ∧ Inv (i + 1) (ys ++ [y]) (nw ++ news)) E' { s with heap := h, toks := tk })
    (fin : ∀ ys news, Inv n ys news → Fin ys news) : ∀ (k i : Nat) (ys : List Value) (news : List (Addr × Obj)), i + k = n → Inv i ys news → CompRest prog w A h₀ L m env elt x scope cl s S P Fin k i ys news
  | 0, i, ys, news, hk, hI => fin ys news (by have : i = n := by omega
                                              rw [← this]; exact hI)
  | k + 1, i, ys, news, hk, hI => by
    intro v I oI C oC D m₂ h tk E' hP hC hx F N off hne
    refine wpAny_mono (step i ys news (by omega) hI v I oI C oC D m₂ h tk E' hP hC hx F N off) (fun y s₂ hy => ?_) fun _ _ e => e
    obtain ⟨h', tk', nw, rfl, F', N', hlt, hS, hI'⟩ := hy
    refine ⟨h', tk', nw ++ news, rfl, F', fun p hp => N' p ?_, ?_, hS, compRest_ind n Inv step fin k (i + 1) _ _ (by omega) hI'⟩
    · rcases List.mem_cons.mp hp with rfl | hp
      · exact List.mem_append_right _ (.head _)
      · rcases List.mem_cons.mp hp with rfl | hp
        · exact List.mem_append_right _ (.tail _ (.head _))
        · rcases List.mem_cons.mp hp with rfl | hp
          · exact List.mem_append_right _ (.tail _ (.tail _ (.head _)))
          · rcases List.mem_append.mp hp with hp | hp
            · exact List.mem_append_left _ hp
            · exact List.mem_append_right _ (.tail _ (.tail _ (.tail _ hp)))
    · refine Off3.of fun p hp => ?_
      rcases List.mem_append.mp hp with hp | hp
      · exact ⟨Nat.ne_of_gt (hlt p hp (I, oI) (.head _)), Nat.ne_of_gt (hlt p hp (C, oC) (.tail _ (.head _))), Nat.ne_of_gt (hlt p hp (D, lst ys) (.tail _ (.tail _ (.head _))))⟩
      · exact off.mem p hp
end Mine
namespace Mine
theorem ks_le (es : Ass) : (ks es).length ≤ 12 := by
  have h2 : (ks es).length ≤ rng.length := List.length_filter_le _ _
  have h3 : rng.length = 12 := by decide
  omega
theorem gon_le (a b : Ass) : (gon a b).length ≤ 12 := Nat.le_trans (List.length_filter_le _ _) (ks_le a)
theorem oth_le (a b : Ass) : (oth a b).length ≤ 12 := Nat.le_trans (List.length_filter_le _ _) (ks_le b)
/-- the letters of some keys -/
def lets (es : Ass) (ns : List Int) : Ass := ns.map fun k => (k, (get es k).getD .none)
theorem lets_take (es : Ass) (ns : List Int) (i : Nat) {k : Int} (h : ns[i]? = some k) : (lets es ns).take (i + 1) = (lets es ns).take i ++ [(k, (get es k).getD .none)] := by
  unfold lets
  rw [List.take_add_one, List.getElem?_map, h]
  rfl
theorem has2_of {es1 es2 : Ass} {ns : List Int} (p : ns.Perm (gon es2 es1 ++ oth es1 es2)) {i : Nat} {k : Int} (h : ns[i]? = some k) : has es2 k = true := by
  have hm := p.mem_iff.mp (List.mem_of_getElem? h)
  rcases List.mem_append.mp hm with hm | hm
  · exact (ks_mem.mp (List.mem_filter.mp hm).1).2
  · exact (ks_mem.mp (List.mem_filter.mp hm).1).2
theorem get_in {es : Ass} {k : Int} {d : Dat} (h : get es k = some d) : (k, d) ∈ es := by
  unfold get at h
  cases hf : es.find? (fun e => e.1 = k) with
  | none => rw [hf] at h; cases h
  | some p =>
    rw [hf] at h
    cases h
    have e1 := List.find?_some hf
    have e2 := List.mem_of_find?_eq_some hf
    rw [← of_decide_eq_true e1]
    exact e2
theorem get_tup {es : Ass} (u : Tups es) {k : Int} (h : has es k = true) : ∃ dv, get es k = some dv ∧ ∃ fds, dv = .tuple fds := by
  obtain ⟨d, e⟩ := has_get h
  obtain ⟨fds, e1, _⟩ := u _ (get_in e)
  exact ⟨d, e, _, e1⟩
end Mine
namespace Mine
section
variable {prog : Program} {w : World} {A : Around} {E : Value → Shared → Prop} {s : Shared} {h₀ : Heap} {L d : Addr} {m : Str → Option Value} {news : List (Addr × Obj)} {es : Ass}
theorem items_method {pl : Sem Bool} {Q : Value × List Value → Shared → Prop} (N : News h₀ L s.heap news) (hd : DD prog w news d es) (h : Q (.builtin "dict.items", [.ref d]) s) : wpAny (model prog w) A (getMethod (.ref d) (Str.ofString "items") pl) Q E s := by
  obtain ⟨od, kvs, a, b, c, e, f⟩ := hd
  exact kdl_method (knd := PySem.intKind prog w) PySem.F.slot_dict_items PySem.F.type_dict_items N a b h
theorem items_call {Q : Value → Shared → Prop} (F : Fr h₀ L s.heap m) (N : News h₀ L s.heap news) (hd : DD prog w news d es)
    (h : ∀ (v : Addr) (h' : Heap), Fr h₀ L h' m → News h₀ L h' ((v, ({ cls := .type "dict_items", data := .fields #[.ref d] } : Obj)) :: news) → Q (.ref v) { s with heap := h' }) : wpAny (model prog w) A (call (.builtin "dict.items") [.ref d]) Q E s := by
  obtain ⟨od, kvs, a, b, c, e, f⟩ := hd
  have hD := kda_dict (knd := PySem.intKind prog w) N a b
  exact call_meetsIn PySem.F.slot_dict_items hD.typeIs PySem.F.entry_dict_items (PySem.F.args_dict_items_1 _) (meets_dict_items (PySem.intKind prog w) d f) ⟨⟨kvs, hD⟩, h _ _ (F.push _) (News.push F N _)⟩
end
end Mine
namespace Mine
/-- what the law's body knows of its made things -/
structure LS (prog : Program) (w : World) (news : List (Addr × Obj)) (c1 c2 : Addr) (oc1 oc2 : Obj) (D1 D2 K : Addr) (es1 es2 : Ass) : Prop where
  m1 : (c1, oc1) ∈ news
  m2 : (c2, oc2) ∈ news
  d1 : DD prog w news D1 es1
  d2 : DD prog w news D2 es2
  kp : DatIn news (.ref K) (.tuple [.list (SI es1), .list (SI es2)])
theorem LS.mono {prog : Program} {w : World} {news news' : List (Addr × Obj)} {c1 c2 : Addr} {oc1 oc2 : Obj} {D1 D2 K : Addr} {es1 es2 : Ass} (h : LS prog w news c1 c2 oc1 oc2 D1 D2 K es1 es2) (hs : ∀ p ∈ news, p ∈ news') : LS prog w news' c1 c2 oc1 oc2 D1 D2 K es1 es2 :=
  ⟨hs _ h.m1, hs _ h.m2, h.d1.mono hs, h.d2.mono hs, h.kp.mono hs⟩
theorem gon_eq (es1 es2 : Ass) : (rng.filter fun k => has es1 k && !has es2 k) = gon es1 es2 := by
  unfold gon ks
  rw [List.filter_filter]
  congr 1
  funext k
  rw [Bool.and_comm]
theorem oth_eq (es1 es2 : Ass) : (rng.filter fun k => has es1 k && (has es2 k && dif es1 es2 k)) = oth es1 es2 := by
  unfold oth ks
  rw [List.filter_filter]
  congr 1
  funext k
  cases has es1 k <;> cases has es2 k <;> cases dif es1 es2 k <;> rfl
end Mine
namespace Mine
/-! the plain law -/
theorem ok_ilist (n : Nat) (ns : List Int) : kqdOk (n + 1) (ilist ns) = true := by
  unfold ilist
  show (ns.map Dat.int).all (kqdOk n) = true
  rw [List.all_map]
  exact List.all_eq_true.mpr fun x _ => by cases n <;> rfl
theorem ok_tri (a b c : List Int) : kqdOk 8 (.tuple [ilist a, ilist b, ilist c]) = true := by
  show ([ilist a, ilist b, ilist c].all (kqdOk 7)) = true
  simp only [List.all_cons, List.all_nil, ok_ilist, Bool.and_true]
theorem dif_comm (es1 es2 : Ass) (k : Int) : dif es1 es2 k = dif es2 es1 k := by
  unfold dif
  congr 1
  exact decide_eq_decide.mpr ⟨Eq.symm, Eq.symm⟩
theorem oth_comm (es1 es2 : Ass) : oth es2 es1 = oth es1 es2 := by
  rw [← oth_eq, ← oth_eq]
  congr 1
  funext k
  rw [dif_comm es2 es1]
  cases has es1 k <;> cases has es2 k <;> rfl
theorem sameD_refl (d : Dat) : sameD d d = true := sameD_iff.mpr rfl
theorem get_nil (k : Int) : get [] k = none := rfl
theorem get_cons (e : Int × Dat) (es : Ass) (k : Int) : get (e :: es) k = if e.1 = k then some e.2 else get es k := by
  unfold get
  rw [List.find?_cons]
  by_cases h : e.1 = k
  · rw [if_pos h, decide_eq_true h]; rfl
  · rw [if_neg h, decide_eq_false h]
theorem get_append (a b : Ass) (k : Int) : get (a ++ b) k = (get a k).or (get b k) := by
  induction a with
  | nil => simp [get_nil]
  | cons e a ih =>
    rw [List.cons_append, get_cons, get_cons, ih]
    by_cases h : e.1 = k
    · rw [if_pos h, if_pos h]; rfl
    · rw [if_neg h, if_neg h]
theorem any_has (es : Ass) (k : Int) : (es.any fun kv => decide (kv.1 = k)) = has es k := by
  unfold has
  induction es with
  | nil => rfl
  | cons e es ih =>
    rw [List.any_cons, get_cons, ih]
    by_cases h : e.1 = k
    · rw [if_pos h, decide_eq_true h]; rfl
    · rw [if_neg h, decide_eq_false h, Bool.false_or]
theorem get_setv (es : Ass) (e : Int × Dat) (k : Int) : get (es.map fun kv => if kv.1 = e.1 then (kv.1, e.2) else kv) k = if e.1 = k then (if has es k then some e.2 else none) else get es k := by
  induction es with
  | nil => by_cases h : e.1 = k <;> simp [h, get_nil, has]
  | cons x es ih =>
    rw [List.map_cons, get_cons, ih]
    unfold has
    rw [get_cons]
    by_cases h1 : e.1 = k
    · by_cases h2 : x.1 = e.1
      · simp [h2, h1]
      · have h3 : ¬ x.1 = k := fun q => h2 (q.trans h1.symm)
        rw [if_neg h2, if_neg h3, if_pos h1, if_neg h3, if_pos h1]
        first | done | rfl
    · by_cases h2 : x.1 = e.1
      · have h3 : ¬ x.1 = k := fun q => h1 (h2.symm.trans q)
        rw [if_pos h2]
        simp [h1, h3]
      · rw [if_neg h2, if_neg h1, if_neg h1]
theorem put_get (es : Ass) (e : Int × Dat) (k : Int) : get (put es e) k = if e.1 = k then some e.2 else get es k := by
  unfold put
  rw [any_has]
  by_cases h : has es e.1 = true
  · rw [if_pos h, get_setv]
    by_cases h2 : e.1 = k
    · rw [if_pos h2, if_pos h2, if_pos (h2 ▸ h)]
    · rw [if_neg h2, if_neg h2]
  · rw [if_neg h, get_append, get_cons, get_nil]
    by_cases h2 : e.1 = k
    · have h3 : get es k = none := by
        have : has es k = false := by rw [← h2]; exact Bool.eq_false_iff.mpr h
        exact Option.isSome_eq_false_iff.mp this |> Option.isNone_iff_eq_none.mp
      rw [h3, if_pos h2]; rfl
    · rw [if_neg h2, if_neg h2, Option.or_none]
theorem put_keys (es : Ass) (e : Int × Dat) : (put es e).map (·.1) = if has es e.1 = true then es.map (·.1) else es.map (·.1) ++ [e.1] := by
  unfold put
  rw [any_has]
  by_cases h : has es e.1 = true
  · rw [if_pos h, if_pos h, List.map_map]
    refine List.map_congr_left fun x _ => ?_
    show (if x.1 = e.1 then (x.1, e.2) else x).1 = x.1
    by_cases q : x.1 = e.1
    · rw [if_pos q]
    · rw [if_neg q]
  · rw [if_neg h, if_neg h, List.map_append]
    first | done | rfl
theorem put_ok {es : Ass} (h : EOk es) {e : Int × Dat} (h1 : e.1 ∈ rng) (h2 : kqdOk 1 e.2 = true) : EOk (put es e) := by
  refine ⟨?_, fun x hx => ?_, fun x hx => ?_⟩
  · rw [put_keys]
    by_cases q : has es e.1 = true
    · rw [if_pos q]; exact h.nodup
    · rw [if_neg q]
      refine List.nodup_append.mpr ⟨h.nodup, by simp, fun a ha b hb => ?_⟩
      rw [List.mem_singleton.mp hb]
      intro e'
      subst e'
      exact q (has_iff.mpr ha)
  · have hm : x.1 ∈ (put es e).map (·.1) := List.mem_map_of_mem hx
    rw [put_keys] at hm
    by_cases q : has es e.1 = true
    · rw [if_pos q] at hm
      obtain ⟨y, hy, e'⟩ := List.mem_map.mp hm
      rw [← e']; exact h.inR y hy
    · rw [if_neg q] at hm
      rcases List.mem_append.mp hm with hm | hm
      · obtain ⟨y, hy, e'⟩ := List.mem_map.mp hm
        rw [← e']; exact h.inR y hy
      · rw [List.mem_singleton.mp hm]; exact h1
  · unfold put at hx
    by_cases q : (es.any fun kv => decide (kv.1 = e.1)) = true
    · rw [if_pos q] at hx
      obtain ⟨y, hy, e'⟩ := List.mem_map.mp hx
      rw [← e']
      by_cases q2 : y.1 = e.1
      · rw [if_pos q2]; exact h2
      · rw [if_neg q2]; exact h.ok y hy
    · rw [if_neg q] at hx
      rcases List.mem_append.mp hx with hx | hx
      · exact h.ok x hx
      · rw [List.mem_singleton.mp hx]; exact h2
theorem puts_ok : ∀ {l es : Ass}, EOk es → (∀ e ∈ l, e.1 ∈ rng ∧ kqdOk 1 e.2 = true) → EOk (l.foldl put es)
  | [], _, h, _ => h
  | e :: l, es, h, hl => by
    rw [List.foldl_cons]
    exact puts_ok (put_ok h (hl e (.head _)).1 (hl e (.head _)).2) fun x hx => hl x (.tail _ hx)
theorem eok_nil : EOk [] := ⟨.nil, (fun _ h => nomatch h), fun _ h => nomatch h⟩
theorem bro_ok {es ls : Ass} {vns : List Int} (h : EOk es) (hl : ∀ e ∈ ls, e.1 ∈ rng ∧ kqdOk 1 e.2 = true) : EOk (bro es vns ls) := by
  refine puts_ok eok_nil fun e he => ?_
  rcases List.mem_append.mp he with he | he
  · have := (List.mem_filter.mp he).1
    exact ⟨h.inR e this, h.ok e this⟩
  · exact hl e he
theorem lets_ok {es : Ass} (h : EOk es) {ns : List Int} (hn : ∀ k ∈ ns, has es k = true) : ∀ e ∈ lets es ns, e.1 ∈ rng ∧ kqdOk 1 e.2 = true := fun e he => by
  obtain ⟨k, hk, rfl⟩ := List.mem_map.mp he
  obtain ⟨d, hd⟩ := has_get (hn k hk)
  have hm := get_in hd
  refine ⟨h.inR (k, d) hm, ?_⟩
  show kqdOk 1 ((get es k).getD .none) = true
  rw [hd]
  exact h.ok _ hm
theorem puts_lets (es2 : Ass) (k : Int) : ∀ (ns : List Int) (es : Ass), get ((lets es2 ns).foldl put es) k = if k ∈ ns then some ((get es2 k).getD .none) else get es k
  | [], es => by simp [lets]
  | n :: ns, es => by
    show get ((lets es2 ns).foldl put (put es (n, (get es2 n).getD .none))) k = _
    rw [puts_lets es2 k ns, put_get]
    by_cases h1 : k ∈ ns
    · rw [if_pos h1, if_pos (.tail _ h1)]
    · rw [if_neg h1]
      by_cases h2 : n = k
      · subst h2
        rw [if_pos rfl, if_pos (.head _)]
      · rw [if_neg h2, if_neg]
        intro hm
        rcases List.mem_cons.mp hm with e | hm
        · exact h2 e.symm
        · exact h1 hm
theorem get_filter (es : Ass) (q : Int → Bool) (k : Int) : get (es.filter fun e => q e.1) k = if q k = true then get es k else none := by
  induction es with
  | nil => by_cases h : q k = true <;> simp [h, get_nil]
  | cons e es ih =>
    rw [get_cons]
    by_cases h : q e.1 = true
    · rw [List.filter_cons_of_pos (p := fun e : Int × Dat => q e.1) h, get_cons, ih]
      by_cases h2 : e.1 = k
      · rw [if_pos h2, if_pos (h2 ▸ h), if_pos h2]
      · rw [if_neg h2, if_neg h2]
    · rw [List.filter_cons_of_neg (p := fun e : Int × Dat => q e.1) h, ih]
      by_cases h2 : e.1 = k
      · have h3 : ¬ q k = true := h2 ▸ h
        rw [if_neg h3, if_neg h3]
      · rw [if_neg h2]
theorem bro_get {es1 es2 : Ass} (o1 : EOk es1) (vns ns : List Int) (k : Int) : get (bro es1 vns (lets es2 ns)) k = if k ∈ ns then some ((get es2 k).getD .none) else if vns.any (· == k) = true then none else get es1 k := by
  unfold bro
  rw [List.foldl_append, puts_lets]
  congr 1
  have hnd : ((es1.filter fun e => !vns.any (· == e.1)).map (·.1)).Nodup := (List.filter_sublist.map _).nodup o1.nodup
  rw [puts_nodup hnd, get_filter es1 (fun x => !vns.any (· == x)) k]
  cases vns.any (· == k) <;> rfl
theorem get_none {es : Ass} {k : Int} (h : has es k = false) : get es k = none := Option.isNone_iff_eq_none.mp (Option.isSome_eq_false_iff.mp h)
theorem EOk.inRk {es : Ass} (o : EOk es) {k : Int} (h : has es k = true) : k ∈ rng := by
  obtain ⟨d, hd⟩ := has_get h
  exact o.inR _ (get_in hd)
theorem mem_gon {a b : Ass} (o : EOk a) {k : Int} : k ∈ gon a b ↔ has a k = true ∧ has b k = false := by
  unfold gon
  rw [List.mem_filter, ks_mem]
  constructor
  · rintro ⟨⟨_, h1⟩, h2⟩
    exact ⟨h1, by simpa using h2⟩
  · rintro ⟨h1, h2⟩
    exact ⟨⟨o.inRk h1, h1⟩, by rw [h2]; rfl⟩
theorem mem_oth {a b : Ass} (o : EOk b) {k : Int} : k ∈ oth a b ↔ has b k = true ∧ has a k = true ∧ dif a b k = true := by
  unfold oth
  rw [List.mem_filter, ks_mem, Bool.and_eq_true]
  constructor
  · rintro ⟨⟨_, h1⟩, h2⟩
    exact ⟨h1, h2⟩
  · rintro ⟨h1, h2⟩
    exact ⟨⟨o.inRk h1, h1⟩, h2⟩
theorem any_mem {ns : List Int} {k : Int} : ns.any (· == k) = true ↔ k ∈ ns := by
  rw [List.any_eq_true]
  constructor
  · rintro ⟨x, hx, e⟩
    rw [← eq_of_beq e]; exact hx
  · exact fun h => ⟨k, h, beq_self_eq_true k⟩
theorem bro_turned {es1 es2 : Ass} {ns : List Int} (o1 : EOk es1) (o2 : EOk es2) (p : ns.Perm (gon es2 es1 ++ oth es1 es2)) (k : Int) : get (bro es1 (gon es1 es2) (lets es2 ns)) k = get es2 k := by
  rw [bro_get o1]
  have hm : k ∈ ns ↔ k ∈ gon es2 es1 ∨ k ∈ oth es1 es2 := by rw [p.mem_iff, List.mem_append]
  rw [mem_gon o2, mem_oth o2] at hm
  cases h2 : has es2 k with
  | true =>
    obtain ⟨d, hd⟩ := has_get h2
    by_cases hin : k ∈ ns
    · rw [if_pos hin, hd]; rfl
    · rw [if_neg hin, if_neg]
      · have h1 : has es1 k = true := by
          cases q : has es1 k with
          | true => rfl
          | false => exact absurd (hm.mpr (.inl ⟨h2, q⟩)) hin
        have hd' : dif es1 es2 k = false := by
          cases q : dif es1 es2 k with
          | false => rfl
          | true => exact absurd (hm.mpr (.inr ⟨h2, h1, q⟩)) hin
        unfold dif at hd'
        simpa using hd'
      · intro q
        have := (mem_gon o1).mp (any_mem.mp q)
        rw [h2] at this
        exact nomatch this.2
  | false =>
    rw [get_none h2]
    have hin : k ∉ ns := fun q => by
      rcases hm.mp q with h | h
      · rw [h2] at h; exact nomatch h.1
      · rw [h2] at h; exact nomatch h.1
    rw [if_neg hin]
    cases h1 : has es1 k with
    | true => rw [if_pos (any_mem.mpr ((mem_gon o1).mpr ⟨h1, h2⟩))]
    | false => rw [get_none h1]; split <;> rfl
theorem bro_all {es1 es2 : Ass} (o1 : EOk es1) (o2 : EOk es2) (x : Int) (k : Int) : get (bro es1 (gon es1 es2 ++ [x]) (lets es2 (ks es2))) k = get es2 k := by
  rw [bro_get o1]
  cases h2 : has es2 k with
  | true =>
    obtain ⟨d, hd⟩ := has_get h2
    rw [if_pos (ks_mem.mpr ⟨o2.inRk h2, h2⟩), hd]; rfl
  | false =>
    rw [get_none h2, if_neg (fun q => by rw [(ks_mem.mp q).2] at h2; cases h2)]
    cases h1 : has es1 k with
    | true => rw [if_pos (any_mem.mpr (List.mem_append_left _ ((mem_gon o1).mpr ⟨h1, h2⟩)))]
    | false => rw [get_none h1]; split <;> rfl
theorem bro_nil {es : Ass} (o : EOk es) : bro es [] [] = es := by
  unfold bro
  rw [List.append_nil]
  have : (es.filter fun e => !([] : List Int).any (· == e.1)) = es := List.filter_eq_self.mpr fun _ _ => rfl
  rw [this]
  exact puts_nodup o.nodup
theorem SI_congr {a b : Ass} (h : ∀ k, get a k = get b k) : SI a = SI b := by
  have hk : ks a = ks b := by
    unfold ks
    congr 1
    funext k
    unfold has
    rw [h k]
  unfold SI
  rw [hk]
  exact List.map_congr_left fun k _ => by rw [h k]
theorem ok_SIn (n : Nat) {es : Ass} (o : EOk es) : kqdOk (n + 3) (.list (SI es)) = true := by
  show (SI es).all (kqdOk (n + 2)) = true
  refine List.all_eq_true.mpr fun d hd => ?_
  obtain ⟨k, hk, rfl⟩ := List.mem_map.mp hd
  obtain ⟨x, hx⟩ := has_get (ks_mem.mp hk).2
  show [Dat.int k, (get es k).getD .none].all (kqdOk (n + 1)) = true
  rw [hx]
  simp only [List.all_cons, List.all_nil, Bool.and_true, Option.getD_some]
  rw [show kqdOk (n + 1) (Dat.int k) = true from rfl, Bool.true_and]
  exact ok_le (o.ok _ (get_in hx)) (by omega)
theorem ok_SI {es : Ass} (o : EOk es) : kqdOk 8 (.list (SI es)) = true := ok_SIn 5 o
theorem ok_two {a b : Ass} (o1 : EOk a) (o2 : EOk b) : kqdOk 8 (.tuple [.list (SI a), .list (SI b)]) = true := by
  show ([Dat.list (SI a), .list (SI b)].all (kqdOk 7)) = true
  simp only [List.all_cons, List.all_nil, ok_SIn 4 o1, ok_SIn 4 o2, Bool.and_true]
theorem gon_self {es : Ass} : gon es es = [] := by
  unfold gon ks
  rw [List.filter_filter]
  exact List.filter_eq_nil_iff.mpr fun k _ => by cases has es k <;> simp
theorem oth_self {es : Ass} : oth es es = [] := by
  unfold oth
  exact List.filter_eq_nil_iff.mpr fun k _ => by unfold dif; simp
section
variable {prog : Program} {w : World} {A : Around} {E : Value → Shared → Prop} {s : Shared} {h₀ : Heap} {L K : Addr} {news : List (Addr × Obj)} {d1 d2 : Dat} {value slice : PySem.Expr} {u : Tok} {Q : Value → Shared → Prop}
theorem kept0 (N : News h₀ L s.heap news) (hk : DatIn news (.ref K) (.tuple [d1, d2])) (h : ∀ v, DatIn news v d1 → Q v s)
    (hs : subscripted slice false (.ref K) (.int 0 u) = operate [.ref K, .int 0 u] (getItem (.ref K) (.int 0 u)) := by with_unfolding_all rfl) : wpAny (model prog w) A (subscriptTail value slice (.ref K) (.int 0 u)) Q E s := by
  cases hk with
  | tuple hm hr =>
    cases hr with
    | cons a hr =>
      cases hr with
      | cons b hr =>
        cases hr
        exact item_tupleT (News.isTup N hm) (by decide) (by decide) rfl rfl (h _ a) hs
theorem kept1 (N : News h₀ L s.heap news) (hk : DatIn news (.ref K) (.tuple [d1, d2])) (h : ∀ v, DatIn news v d2 → Q v s)
    (hs : subscripted slice false (.ref K) (.int 1 u) = operate [.ref K, .int 1 u] (getItem (.ref K) (.int 1 u)) := by with_unfolding_all rfl) : wpAny (model prog w) A (subscriptTail value slice (.ref K) (.int 1 u)) Q E s := by
  cases hk with
  | tuple hm hr =>
    cases hr with
    | cons a hr =>
      cases hr with
      | cons b hr =>
        cases hr
        exact item_tupleT (News.isTup N hm) (by decide) (by decide) rfl rfl (h _ b) hs
end
end Mine
namespace Mine
theorem rng_short : rng.length ≤ 100000 := by decide
end Mine
namespace Mine
local macro_rules | `(tactic| k_mem) => `(tactic| assumption)
local macro_rules | `(tactic| walk_at "none of these 0") => `(tactic| skip)
local macro_rules | `(tactic| walk_at "none of these 1") => `(tactic| skip)
local macro_rules | `(tactic| walk_at "eval Name") => `(tactic| (k_here; k_dflt (refine' nameX_L ?k1 ?k2 ?_ ?a ?b; (case k1 => k_asm); (case k2 => first | assumption | exact (if_pos rfl) | (refine (if_neg (by decide)).trans ?_; first | assumption | exact (if_pos rfl) | (refine (if_neg (by decide)).trans ?_; first | assumption | exact (if_pos rfl) | exact (if_neg (by decide)).trans (by assumption)))); (case a => rfl); (case b => rfl); k_whole)))
set_option maxRecDepth 100000 in
set_option maxHeartbeats 60000000 in
theorem hold : PySem.Challenge.rw_nz0264_01.Holds := Mine.hd (by
  k_go0
  all_goals try k_fold
  iterate 22 walk1
  rename_i w s₀ s₁ mg mb G Y fa o pm doc ho hg KX X V GL T B TE TW w_1 w_2 M w_3 w_4 hcd w_5 hs hlay0 hL hr hl2 w_6 w_7 w_8 w_9 w_10 hL_1 ra w1 r0 hI hr_1 hcond' hcond'_1 K0 hD h₁ tk₁ w_11 w_12 left right X0 l' h' l1 D' ws' h'_1 hI' l1_1 D'_1 ws'_1 h'_2 hI'_1 hC' hL' l1_2 h'_3 F' N'
  have fin : ∀ (h' : Heap) (tk : Nat) (m' : Str → Option Value), Fr s₁.heap s₁.heap.objs.size h' m' → qk (.ret (.bool true)) { s₁ with heap := h', toks := tk } := by
    intro h' tk m' F
    clear F' N'
    k_unfold
    dsimp only
    wrow_close
  have hlen : (List.take 2 (w_5 ++ [7, 5])).length = 2 := by rw [hC', List.length_append]; simp
  generalize List.take 2 (w_5 ++ [7, 5]) = ns at hI'_1 hlen
  clear_value qk ek
  obtain ⟨m₀, F0, hcells⟩ : ∃ m₀, Fr s₁.heap s₁.heap.objs.size h'_3 m₀ ∧ m₀ (Str.ofString "cells") = some (.ref D'_1) := ⟨_, F', if_pos rfl⟩
  have lf : w_11.data = Data.cell none := left
  have rt : w_12.data = Data.cell none := right
  dsimp only
  clear left right F'
  try clear h'_2
  try clear hL'
  try clear hC'
  try clear l1_1
  try clear hI'
  try clear h'_1
  try clear l1
  try clear h'
  try clear X0
  try clear tk₁
  try clear h₁
  try clear hD
  try clear hcond'_1
  try clear hcond'
  try clear hr_1
  try clear hI
  try clear r0
  try clear w1
  try clear ra
  try clear hL_1
  try clear w_10
  try clear w_9
  try clear w_8
  try clear w_7
  try clear w_6
  try clear hl2
  try clear hr
  try clear hL
  try clear hlay0
  try clear hs
  try clear w_5
  try clear hcd
  try clear w_4
  try clear w_3
  try clear M
  try clear w_2
  try clear w_1
  try clear TW
  try clear TE
  try clear B
  try clear GL
  try clear V
  try clear X
  try clear hg
  try clear ho
  try clear doc
  try clear pm
  try clear o
  try clear fa
  try clear Y
  try clear G
  w_top off
  match ns, hlen, hI'_1 with
  | [n0, n1], _, hI2 =>
  obtain ⟨t0, t1, e2⟩ : ∃ t0 t1, ws'_1 = [.int n0 t0, .int n1 t1] := by
    cases hI2 with
    | cons _ t0 r => cases r with
      | cons _ t1 r => cases r; exact ⟨t0, t1, rfl⟩
  subst e2
  iterate 16 walk1
  refine copy_call K0 rfl rfl F0 KX N' T fun D1 h2 tk2 news1 es1 F1 N1 sub1 d1 o1 u1 => ?_
  clear F0 N'
  iterate 8 walk1
  refine item_litK (News.isList N1 (sub1 _ (.head _))) (by decide) (by decide) rfl ?_
  iterate 4 walk1
  refine copy_call K0 rfl rfl F1 KX N1 T fun D2 h3 tk3 news2 es2 F2 N2 sub2 d2 o2 u2 => ?_
  clear F1 N1
  iterate 5 walk1
  rename Fr _ _ _ _ => F3
  rename News _ _ _ _ => N3
  obtain ⟨newsT, subT, N3'⟩ : ∃ newsT, (∀ p ∈ news2, p ∈ newsT) ∧ News _ _ _ newsT := ⟨_, fun p hp => List.mem_cons_of_mem _ hp, N3⟩
  have hc1 : (s₁.heap.objs.size + 1, w_12) ∈ newsT := subT _ (sub2 _ (sub1 _ (by k_mem)))
  have hc2 : (s₁.heap.objs.size + 1 + 1, w_11) ∈ newsT := subT _ (sub2 _ (sub1 _ (by k_mem)))
  clear N3
  refine store_cell F3 N3' rfl hc1 rt (fun h4 oc1 F4 N4 e4 => ?_) rfl rfl
  iterate 2 walk1
  have hc3 : (s₁.heap.objs.size + 1 + 1, w_11) ∈ recell newsT (s₁.heap.objs.size + 1) oc1 := recell_mem hc2 (Nat.succ_ne_self _)
  refine store_cell F4 N4 rfl hc3 lf (fun h5 oc2 F5 N5 e5 => ?_) rfl rfl
  have m1 : (s₁.heap.objs.size + 1, oc1) ∈ recell (recell newsT (s₁.heap.objs.size + 1) oc1) (s₁.heap.objs.size + 1 + 1) oc2 := recell_mem (o := oc2) (c := s₁.heap.objs.size + 1 + 1) (List.Mem.head _ : (s₁.heap.objs.size + 1, oc1) ∈ recell newsT (s₁.heap.objs.size + 1) oc1) (Nat.ne_of_lt (Nat.lt_succ_self _))
  have m2 : (s₁.heap.objs.size + 1 + 1, oc2) ∈ recell (recell newsT (s₁.heap.objs.size + 1) oc1) (s₁.heap.objs.size + 1 + 1) oc2 := .head _
  have k1 := recell_nc (o' := oc1) N3' hc1 rt
  have k2 := recell_nc (o' := oc2) N4 hc3 lf
  have dd1 := dd_nc (dd_nc (d1.mono fun p hp => subT p (sub2 p hp)) k1) k2
  have dd2 := dd_nc (dd_nc (d2.mono subT) k1) k2
  generalize recell (recell newsT (s₁.heap.objs.size + 1) oc1) (s₁.heap.objs.size + 1 + 1) oc2 = news3 at m1 m2 dd1 dd2 N5
  clear k1 k2 hc1 hc2 hc3 F4 N4 F3 N3' d1 d2 sub1 sub2 subT lf rt hcells hI2 l1_2 
  walk1
  dsimp only
  try clear h4
  try clear newsT
  try clear l1
  try clear news2
  try clear h3
  try clear tk2
  try clear news1
  try clear h2
  try clear t
  try clear t1
  try clear t0
  try clear hlen
  try clear hI'_1
  try clear ns
  try clear x
  try clear h'_3
  try clear ws'
  try clear l'
  try clear w_11
  try clear w_12
  try clear tk₁
  w_top off
  iterate 10 walk1
  refine items_method N5 dd1 ?_
  walk1
  refine items_call F5 N5 dd1 fun v1 h6 F6 N6 => ?_
  clear F5 N5
  iterate 1 walk1
  refine sorted_items (by rfl) F6 N6 (.head _) (dd1.mono fun p hp => .tail _ hp) o1 fun S1 h7 tk7 news7 F7 N7 sub7 ds1 => ?_
  clear F6 N6
  replace m1 := sub7 _ (.tail _ m1)
  replace m2 := sub7 _ (.tail _ m2)
  replace dd1 := dd1.mono fun p hp => sub7 p (.tail _ hp)
  replace dd2 := dd2.mono fun p hp => sub7 p (.tail _ hp)
  clear sub7
  iterate 7 walk1
  refine items_method N7 dd2 ?_
  walk1
  refine items_call F7 N7 dd2 fun v2 h8 F8 N8 => ?_
  clear F7 N7
  iterate 1 walk1
  refine sorted_items (by rfl) F8 N8 (.head _) (dd2.mono fun p hp => .tail _ hp) o2 fun S2 h9 tk9 news9 F9 N9 sub9 ds2 => ?_
  clear F8 N8
  replace m1 := sub9 _ (.tail _ m1)
  replace m2 := sub9 _ (.tail _ m2)
  replace dd1 := dd1.mono fun p hp => sub9 p (.tail _ hp)
  replace dd2 := dd2.mono fun p hp => sub9 p (.tail _ hp)
  replace ds1 := ds1.mono fun p hp => sub9 p (.tail _ hp)
  clear sub9
  iterate 4 walk1
  rename Fr _ _ _ _ => FA
  rename News _ _ _ _ => NA
  obtain ⟨K, newsA, hL, mK, FK, NK, hkept⟩ : ∃ K newsA, LS PySem.Challenge.rw_nz0264_01.row.prog w newsA (s₁.heap.objs.size + 1) (s₁.heap.objs.size + 1 + 1) oc1 oc2 D1 D2 K es1 es2 ∧ ∃ mK, Fr _ _ _ mK ∧ News _ _ _ newsA ∧ mK (Str.ofString "kept") = some (.ref K) :=
    ⟨_, _, ⟨List.mem_cons_of_mem _ m1, List.mem_cons_of_mem _ m2, dd1.mono fun p hp => List.mem_cons_of_mem _ hp, dd2.mono fun p hp => List.mem_cons_of_mem _ hp,
      .tuple (vs := [.ref S1, .ref S2]) (List.Mem.head _) (.cons (ds1.mono fun p hp => List.mem_cons_of_mem _ hp) (.cons (ds2.mono fun p hp => List.mem_cons_of_mem _ hp) .nil))⟩, _, FA, NA, if_pos rfl⟩
  clear FA NA m1 m2 dd1 dd2 ds1 ds2
  dsimp only
  try clear l1
  w_top off
  walk1
  refine asg_filter (fun k => has es1 k && !has es2 k) FK rfl (by rfl) rfl (by with_unfolding_all rfl) (by with_unfolding_all rfl) (by decide) (by rfl) (by decide) (by rfl) (by rfl) (by rfl) (by decide) ?_ (by intro _; rfl)
  iterate 9 walk1
  rename IsRange _ _ _ _ _ _ _ _ => hr
  rename Fr _ _ _ _ => FR
  rename News _ _ _ _ => NR
  refine ⟨newsA, rng, FR, NR, .inr ⟨_, _, _, _, rfl, hr, rfl⟩, rng_short, fun C k t s₃ m₃ E' F₃ N₃ hn₃ hm₃ hk => ?_, ?_⟩
  · refine isTrue_and (wpAny_isTrue_Compare1 (wpAny_Name (wpAny_loadName_local (by rfl) (by rfl) hn₃ hm₃ ?_) (by decide)))
    refine lcf_cell (v := .ref D1) N₃ rfl hL.m1 e4 ?_ rfl rfl
    refine dd_in N₃ hL.d1 (wpAny_truthy_bool ?_)
    cases has es1 k with
    | false =>
      rw [if_neg (by simp)]
      exact ⟨rfl, _, _, rfl, fun _ _ e => e⟩
    | true =>
      rw [if_pos rfl]
      refine isTrue_and (wpAny_isTrue_Compare1 (wpAny_Name (wpAny_loadName_local (by rfl) (by rfl) hn₃ hm₃ ?_) (by decide)))
      refine lcf_cell (v := .ref D2) N₃ rfl hL.m2 e5 ?_ rfl rfl
      refine dd_notIn N₃ hL.d2 (wpAny_truthy_bool ?_)
      cases has es2 k with
      | true =>
        rw [if_neg (by simp)]
        exact ⟨rfl, _, _, rfl, fun _ _ e => e⟩
      | false =>
        rw [if_pos (by rfl)]
        exact isTrue_and_nil ⟨rfl, _, _, rfl, fun _ _ e => e⟩
  clear hr FR NR
  try clear FK
  try clear NK
  intro G h4 tk4 gs cG F4 N4 iG
  rw [gon_eq] at iG
  replace hL := hL.mono fun p hp => List.mem_cons_of_mem (G, PySem.W.listOf (List.toArray gs) cG) hp
  -- new
  walk1
  refine asg_filter (fun k => has es2 k && !has es1 k) F4 rfl (by rfl) rfl (by with_unfolding_all rfl) (by with_unfolding_all rfl) (by decide) (by rfl) (by decide) (by rfl) (by rfl) (by rfl) (by decide) ?_ (by intro _; rfl)
  iterate 9 walk1
  rename IsRange _ _ _ _ _ _ _ _ => hr
  rename Fr _ _ _ _ => FR
  rename News _ _ _ _ => NR
  refine ⟨_, rng, FR, NR, .inr ⟨_, _, _, _, rfl, hr, rfl⟩, rng_short, fun C k t s₃ m₃ E' F₃ N₃ hn₃ hm₃ hk => ?_, ?_⟩
  · refine isTrue_and (wpAny_isTrue_Compare1 (wpAny_Name (wpAny_loadName_local (by rfl) (by rfl) hn₃ hm₃ ?_) (by decide)))
    refine lcf_cell (v := .ref D2) N₃ rfl hL.m2 e5 ?_ rfl rfl
    refine dd_in N₃ hL.d2 (wpAny_truthy_bool ?_)
    cases has es2 k with
    | false =>
      rw [if_neg (by simp)]
      exact ⟨rfl, _, _, rfl, fun _ _ e => e⟩
    | true =>
      rw [if_pos rfl]
      refine isTrue_and (wpAny_isTrue_Compare1 (wpAny_Name (wpAny_loadName_local (by rfl) (by rfl) hn₃ hm₃ ?_) (by decide)))
      refine lcf_cell (v := .ref D1) N₃ rfl hL.m1 e4 ?_ rfl rfl
      refine dd_notIn N₃ hL.d1 (wpAny_truthy_bool ?_)
      cases has es1 k with
      | true =>
        rw [if_neg (by simp)]
        exact ⟨rfl, _, _, rfl, fun _ _ e => e⟩
      | false =>
        rw [if_pos (by rfl)]
        exact isTrue_and_nil ⟨rfl, _, _, rfl, fun _ _ e => e⟩
  clear hr FR NR
  try clear F4
  try clear N4
  intro W h5 tk5 ws cW F5 N5 iW
  rw [gon_eq] at iW
  replace hL := hL.mono fun p hp => List.mem_cons_of_mem (W, PySem.W.listOf (List.toArray ws) cW) hp
  -- turned
  walk1
  refine asg_filter (fun k => has es1 k && (has es2 k && dif es1 es2 k)) F5 rfl (by rfl) rfl (by with_unfolding_all rfl) (by with_unfolding_all rfl) (by decide) (by rfl) (by decide) (by rfl) (by rfl) (by rfl) (by decide) ?_ (by intro _; rfl)
  iterate 9 walk1
  rename IsRange _ _ _ _ _ _ _ _ => hr
  rename Fr _ _ _ _ => FR
  rename News _ _ _ _ => NR
  refine ⟨_, rng, FR, NR, .inr ⟨_, _, _, _, rfl, hr, rfl⟩, rng_short, fun C k t s₃ m₃ E' F₃ N₃ hn₃ hm₃ hk => ?_, ?_⟩
  · refine isTrue_and (wpAny_isTrue_Compare1 (wpAny_Name (wpAny_loadName_local (by rfl) (by rfl) hn₃ hm₃ ?_) (by decide)))
    refine lcf_cell (v := .ref D1) N₃ rfl hL.m1 e4 ?_ rfl rfl
    refine dd_in N₃ hL.d1 (wpAny_truthy_bool ?_)
    cases q1 : has es1 k with
    | false =>
      rw [if_neg (by simp)]
      exact ⟨rfl, _, _, rfl, fun _ _ e => e⟩
    | true =>
      rw [if_pos rfl]
      refine isTrue_and (wpAny_isTrue_Compare1 (wpAny_Name (wpAny_loadName_local (by rfl) (by rfl) hn₃ hm₃ ?_) (by decide)))
      refine lcf_cell (v := .ref D2) N₃ rfl hL.m2 e5 ?_ rfl rfl
      refine dd_in N₃ hL.d2 (wpAny_truthy_bool ?_)
      cases q2 : has es2 k with
      | false =>
        rw [if_neg (by simp)]
        exact ⟨rfl, _, _, rfl, fun _ _ e => e⟩
      | true =>
        rw [if_pos rfl]
        obtain ⟨dv₁, g1⟩ := has_get q1
        obtain ⟨dv₂, g2⟩ := has_get q2
        refine isTrue_and (wpAny_isTrue_Compare1 (Subscript_ ?_))
        refine lcf_cell (v := .ref D1) N₃ rfl hL.m1 e4 ?_ rfl rfl
        refine wpAny_Name (wpAny_loadName_local (by rfl) (by rfl) hn₃ hm₃ ?_) (by decide)
        refine dd_item N₃ hL.d1 g1 (fun v₁ hv₁ => ?_)
        refine Subscript_ (lcf_cell (v := .ref D2) N₃ rfl hL.m2 e5 ?_ rfl rfl)
        refine wpAny_Name (wpAny_loadName_local (by rfl) (by rfl) hn₃ hm₃ ?_) (by decide)
        refine dd_item N₃ hL.d2 g2 (fun v₂ hv₂ => ?_)
        refine dat_ne N₃ hv₁ hv₂ (o1.okAt g1) (o2.okAt g2) (Nat.le_of_ble_eq_true rfl) (wpAny_truthy_bool ?_)
        have ed := dif_at g1 g2
        cases q3 : sameD dv₁ dv₂ with
        | true =>
          rw [q3] at ed
          simp only [Bool.not_true] at ed
          rw [if_neg (by simp)]
          exact ⟨by rw [ed]; rfl, _, _, rfl, fun _ _ e => e⟩
        | false =>
          rw [q3] at ed
          simp only [Bool.not_false] at ed
          rw [if_pos (by rfl)]
          exact isTrue_and_nil ⟨by rw [ed]; rfl, _, _, rfl, fun _ _ e => e⟩
  clear hr FR NR
  try clear F5
  try clear N5
  intro U h6 tk6 us cU F6 N6 iU
  rw [oth_eq] at iU
  replace hL := hL.mono fun p hp => List.mem_cons_of_mem (U, PySem.W.listOf (List.toArray us) cU) hp
  obtain ⟨newsB, subB, NB⟩ : ∃ newsB, (∀ p ∈ (U, PySem.W.listOf (List.toArray us) cU) :: (W, PySem.W.listOf (List.toArray ws) cW) :: (G, PySem.W.listOf (List.toArray gs) cG) :: newsA, p ∈ newsB) ∧ News _ _ _ newsB := ⟨_, fun _ h => h, N6⟩
  obtain ⟨mB, FB, nG, nW, nU, nK⟩ : ∃ mB, Fr _ _ _ mB ∧ mB (Str.ofString "gone") = some (.ref G) ∧ mB (Str.ofString "new") = some (.ref W) ∧ mB (Str.ofString "turned") = some (.ref U) ∧ mB (Str.ofString "kept") = some (.ref K) :=
    ⟨_, F6, (if_neg (by decide)).trans ((if_neg (by decide)).trans (if_pos rfl)), (if_neg (by decide)).trans (if_pos rfl), if_pos rfl, (if_neg (by decide)).trans ((if_neg (by decide)).trans ((if_neg (by decide)).trans hkept))⟩
  have mU := subB _ (List.Mem.head _)
  have mW := subB _ (List.Mem.tail _ (List.Mem.head _))
  have mG := subB _ (List.Mem.tail _ (List.Mem.tail _ (List.Mem.head _)))
  replace hL := hL.mono subB
  clear subB F6 N6 hkept
  dsimp only
  w_top off
  have m1 := hL.m1
  have m2 := hL.m2
  iterate 13 walk1
  refine diff_call K0 rfl rfl FB KX NB hL.d1 hL.d2 o1 o2 T fun r1 h7 tk7 news7 F7 N7 sub7 dr1 => ?_
  clear FB NB
  replace hL := hL.mono sub7
  replace mU := sub7 _ mU
  replace mW := sub7 _ mW
  replace mG := sub7 _ mG
  replace m1 := hL.m1
  replace m2 := hL.m2
  clear sub7
  iterate 9 walk1
  rename Fr _ _ _ _ => F8
  rename News _ _ _ _ => N8
  obtain ⟨news8, sub8, N9, dt⟩ : ∃ news8, (∀ p ∈ news7, p ∈ news8) ∧ News _ _ _ news8 ∧ DatIn news8 (.ref _) (.tuple [ilist (gon es1 es2), ilist (gon es2 es1), ilist (oth es1 es2)]) :=
    ⟨_, fun p hp => List.mem_cons_of_mem _ hp, N8, .tuple (vs := [.ref G, .ref W, .ref U]) (List.Mem.head _) (.cons (.list (List.mem_cons_of_mem _ mG) (dat_ints iG)) (.cons (.list (List.mem_cons_of_mem _ mW) (dat_ints iW)) (.cons (.list (List.mem_cons_of_mem _ mU) (dat_ints iU)) .nil)))⟩
  refine dat_ne N9 (dr1.mono sub8) dt (ok_tri _ _ _) (ok_tri _ _ _) (Nat.le_of_ble_eq_true rfl) ?_
  rw [sameD_refl, Bool.not_true]
  replace hL := hL.mono sub8
  replace mU := sub8 _ mU
  replace mW := sub8 _ mW
  replace mG := sub8 _ mG
  replace m1 := hL.m1
  replace m2 := hL.m2
  clear sub8 dr1 dt N8
  iterate 13 walk1
  refine diff_call K0 rfl rfl F8 KX N9 hL.d2 hL.d1 o2 o1 T fun r2 h9 tk9 news9 F9 NA sub9 dr2 => ?_
  clear F8 N9
  replace hL := hL.mono sub9
  replace mU := sub9 _ mU
  replace mW := sub9 _ mW
  replace mG := sub9 _ mG
  replace m1 := hL.m1
  replace m2 := hL.m2
  clear sub9
  iterate 9 walk1
  rename Fr _ _ _ _ => FA
  rename News _ _ _ _ => NC
  obtain ⟨newsD, subD, ND, dt⟩ : ∃ newsD, (∀ p ∈ news9, p ∈ newsD) ∧ News _ _ _ newsD ∧ DatIn newsD (.ref _) (.tuple [ilist (gon es2 es1), ilist (gon es1 es2), ilist (oth es1 es2)]) :=
    ⟨_, fun p hp => List.mem_cons_of_mem _ hp, NC, .tuple (vs := [.ref W, .ref G, .ref U]) (List.Mem.head _) (.cons (.list (List.mem_cons_of_mem _ mW) (dat_ints iW)) (.cons (.list (List.mem_cons_of_mem _ mG) (dat_ints iG)) (.cons (.list (List.mem_cons_of_mem _ mU) (dat_ints iU)) .nil)))⟩
  rw [oth_comm] at dr2
  refine dat_ne ND (dr2.mono subD) dt (ok_tri _ _ _) (ok_tri _ _ _) (Nat.le_of_ble_eq_true rfl) ?_
  rw [sameD_refl, Bool.not_true]
  replace hL := hL.mono subD
  replace mU := subD _ mU
  replace mW := subD _ mW
  replace mG := subD _ mG
  replace m1 := hL.m1
  replace m2 := hL.m2
  clear subD dr2 dt NC
  iterate 6 walk1
  dsimp only
  clear m1 m2
  w_top off
  have m1 := hL.m1
  have m2 := hL.m2
  walk1
  refine LCg.Assign_ListComp_U FA rfl (by with_unfolding_all rfl) (by with_unfolding_all rfl) (by decide) (by rfl) (by decide) (by rfl) (by rfl) (by rfl) ?_ (by intro _; with_unfolding_all rfl)
  iterate 7 walk1
  refine add_lists_ints FA ND (News.isList ND mW) (News.isList ND mU) iW iU (fun h7 F7 N7 i7 => ?_) (by rw [sizeLine_eq]; have := gon_le es2 es1; have := oth_le es1 es2; omega)
  walk1
  have h64 : (ws ++ us).length < 64 := by
    have e1 := i7.length
    have := gon_le es2 es1
    have := oth_le es1 es2
    rw [List.length_append (as := gon es2 es1)] at e1
    omega
  refine sorted_N F7 N7 (News.isList N7 (List.Mem.head _)) i7 h64 fun h8 out ns8 e8 F8 N8 i8 p8 o8 => ?_
  obtain ⟨newsE, subE, mS, NE⟩ : ∃ newsE, (∀ p ∈ newsD, p ∈ newsE) ∧ (_, seqObj "list" (List.toArray out) e8) ∈ newsE ∧ News _ _ _ newsE := ⟨_, fun p hp => List.mem_cons_of_mem _ (List.mem_cons_of_mem _ hp), List.Mem.head _, N8⟩
  clear N8 N7 F7 FA ND
  replace hL := hL.mono subE
  replace mU := subE _ mU
  replace mW := subE _ mW
  replace mG := subE _ mG
  clear m1 m2 subE
  refine LCg.CompSrc.ledger (k := e8) rfl F8 NE mS (by rw [List.size_toArray, sizeLine_eq]; have := i8.length; have := p8.length_eq; have := i7.length; omega) fun g => ?_
  refine compRest_ind out.toArray.size (fun i ys nw => (∀ p ∈ newsE, p ∈ nw) ∧ LetsIn w nw ys ((lets es2 ns8).take i)) ?_ ?_ _ 0 [] _ (Nat.zero_add _) ⟨fun _ h => h, .nil⟩
  · rintro i ys nw hi ⟨hsub, hls⟩ v I oI C oC DD m₂ h tk E' hP hC hx F N off
    have hns := hC.ns (N.get (List.Mem.tail _ (List.Mem.head _)))
    obtain ⟨k, t, rfl, hk⟩ : ∃ k t, v = .int k t ∧ ns8[i]? = some k := by
      have hi' : i < ns8.length := by have := i8.length; rw [List.size_toArray] at hi; omega
      obtain ⟨t, ht⟩ := i8.get i ns8[i] (by simp [hi'])
      have hP' : out[i]? = some v := by simpa using hP
      rw [ht] at hP'
      exact ⟨_, t, (Option.some.inj hP').symm, by simp [hi']⟩
    iterate 5 walk1
    refine wpAny_Name (wpAny_loadName_local (by rfl) (by rfl) hns hx ?_) (by decide)
    iterate 4 walk1
    refine lcf_cell (v := .ref D2) N rfl (List.Mem.tail _ (List.Mem.tail _ (List.Mem.tail _ (hsub _ hL.m2)))) e5 ?_ rfl rfl
    refine wpAny_Name (wpAny_loadName_local (by rfl) (by rfl) hns hx ?_) (by decide)
    obtain ⟨dv, gk, fds, edv⟩ : ∃ dv, get es2 k = some dv ∧ ∃ fds, dv = .tuple fds := get_tup u2 (has2_of p8 hk)
    have Nn : News _ _ _ nw := fun p hp => N p (List.Mem.tail _ (List.Mem.tail _ (List.Mem.tail _ hp)))
    refine dd_item Nn (hL.d2.mono hsub) gk (fun fv hfv => ?_)
    iterate 6 walk1
    subst edv
    refine letter_call K0 rfl rfl F KX N T (hfv.mono fun p hp => List.Mem.tail _ (List.Mem.tail _ (List.Mem.tail _ hp))) fun xL dL oL h9 tk9 F9 N9 lt9 lx9 hle => ?_
    refine ⟨h9, tk9, [(xL, instObj 64 dL), (dL, oL)], rfl, F9, N9, fun p hp q hq => ?_, .inr ⟨_, List.Mem.tail _ (List.Mem.tail _ (hsub _ mS)), rfl, _, rfl⟩, fun p hp => List.Mem.tail _ (List.Mem.tail _ (hsub p hp)), ?_⟩
    · rcases List.mem_cons.mp hp with rfl | hp
      · exact Nat.lt_trans (lt9 q hq) lx9
      · rw [List.mem_singleton.mp hp]; exact lt9 q hq
    · rw [lets_take es2 ns8 i hk, gk]
      exact LetsIn.snoc (hle nw hfv) (hls.mono fun p hp => List.Mem.tail _ (List.Mem.tail _ hp))
  · rintro ys nw ⟨hsub, hls⟩ LE h9 tk9 F9 N9 off
    have hfull : (lets es2 ns8).take out.toArray.size = lets es2 ns8 := by
      rw [List.size_toArray, i8.length]
      exact List.take_of_length_le (by unfold lets; rw [List.length_map]; exact Nat.le_refl _)
    rw [hfull] at hls
    have hll : (lets es2 ns8).length ≤ 100 := by
      unfold lets
      rw [List.length_map, p8.length_eq, List.length_append]
      have := gon_le es2 es1
      have := oth_le es1 es2
      omega
    obtain ⟨newsF, subF, mL, NF⟩ : ∃ newsF, (∀ p ∈ nw, p ∈ newsF) ∧ (LE, PySem.W.listOf (List.toArray ys) ys.length) ∈ newsF ∧ News _ _ _ newsF := ⟨_, fun p hp => List.mem_cons_of_mem _ hp, List.Mem.head _, N9⟩
    obtain ⟨mF, FF, nG', nW', nU', nK', nL'⟩ : ∃ mF, Fr _ _ _ mF ∧ mF (Str.ofString "gone") = some (.ref G) ∧ mF (Str.ofString "new") = some (.ref W) ∧ mF (Str.ofString "turned") = some (.ref U) ∧ mF (Str.ofString "kept") = some (.ref K) ∧ mF (Str.ofString "letters") = some (.ref LE) :=
      ⟨_, F9, (if_neg (by decide)).trans nG, (if_neg (by decide)).trans nW, (if_neg (by decide)).trans nU, (if_neg (by decide)).trans nK, if_pos rfl⟩
    replace hL := hL.mono fun p hp => subF p (hsub p hp)
    replace mU := subF _ (hsub _ mU)
    replace mW := subF _ (hsub _ mW)
    replace mG := subF _ (hsub _ mG)
    replace hls := hls.mono subF
    have hhas : ∀ k ∈ ns8, has es2 k = true := fun k hk => by
      obtain ⟨j, hj⟩ := List.mem_iff_getElem?.mp hk
      exact has2_of p8 hj
    have hbr : ∀ k, get (bro es1 (gon es1 es2) (lets es2 ns8)) k = get es2 k := bro_turned o1 o2 p8
    clear N9 F9 nG nW nU nK hsub subF off mS NE F8 i8 p8 o8 i7 h64 hfull
    dsimp only
    w_top off
    have m1 := hL.m1
    have m2 := hL.m2
    iterate 20 walk1
    refine brought_call K0 rfl rfl FF KX NF T hL.d1 o1 mG iG mL hls hll fun B1 h10 tk10 news10 F10 N10 sub10 b1 => ?_
    clear FF NF
    replace hL := hL.mono sub10
    replace mU := sub10 _ mU
    replace mW := sub10 _ mW
    replace mG := sub10 _ mG
    clear sub10 m1 m2
    have ob1 := bro_ok (vns := gon es1 es2) o1 (lets_ok o2 hhas)
    refine items_method N10 b1 ?_
    iterate 1 walk1
    refine items_call F10 N10 b1 fun v1 h11 F11 N11 => ?_
    clear F10 N10
    iterate 1 walk1
    refine sorted_items (by rfl) F11 N11 (List.Mem.head _) (b1.mono fun p hp => List.mem_cons_of_mem _ hp) ob1 fun S1 h12 tk12 news12 F12 N12 sub12 ds1 => ?_
    clear F11 N11
    rw [SI_congr hbr] at ds1
    replace hL := hL.mono fun p hp => sub12 p (List.mem_cons_of_mem _ hp)
    replace mU := sub12 _ (List.mem_cons_of_mem _ mU)
    replace mW := sub12 _ (List.mem_cons_of_mem _ mW)
    replace mG := sub12 _ (List.mem_cons_of_mem _ mG)
    clear sub12 b1
    iterate 3 walk1
    refine kept1 N12 hL.kp fun kv hkv => ?_
    refine dat_ne N12 ds1 hkv (ok_SI o2) (ok_SI o2) (Nat.le_of_ble_eq_true rfl) ?_
    rw [sameD_refl, Bool.not_true]
    clear hkv ds1
    have m1 := hL.m1
    have m2 := hL.m2
    iterate 24 walk1
    rename Fr _ _ _ _ => F13
    rename News _ _ _ _ => N13
    obtain ⟨news13, sub13, mE1, mE2, N14⟩ : ∃ news13, (∀ p ∈ news12, p ∈ news13) ∧ (_, PySem.W.listOf (List.toArray []) 0) ∈ news13 ∧ (_, PySem.W.listOf (List.toArray []) 0) ∈ news13 ∧ News _ _ _ news13 := ⟨_, fun p hp => List.mem_cons_of_mem _ (List.mem_cons_of_mem _ hp), List.Mem.tail _ (List.Mem.head _), List.Mem.head _, N13⟩
    clear N13 m1 m2
    replace hL := hL.mono sub13
    replace mU := sub13 _ mU
    replace mW := sub13 _ mW
    replace mG := sub13 _ mG
    clear sub13
    refine brought_call K0 rfl rfl F13 KX N14 T hL.d1 o1 mE1 .nil mE2 .nil (Nat.zero_le _) fun B2 h15 tk15 news15 F15 N15 sub15 b2 => ?_
    rw [bro_nil o1] at b2
    clear F13 N14
    replace hL := hL.mono sub15
    replace mU := sub15 _ mU
    replace mW := sub15 _ mW
    replace mG := sub15 _ mG
    clear sub15 mE1 mE2
    refine items_method N15 b2 ?_
    walk1
    refine items_call F15 N15 b2 fun v2 h16 F16 N16 => ?_
    clear F15 N15
    walk1
    refine sorted_items (by rfl) F16 N16 (List.Mem.head _) (b2.mono fun p hp => List.mem_cons_of_mem _ hp) o1 fun S2 h17 tk17 news17 F17 N17 sub17 ds2 => ?_
    clear F16 N16
    replace hL := hL.mono fun p hp => sub17 p (List.mem_cons_of_mem _ hp)
    replace mU := sub17 _ (List.mem_cons_of_mem _ mU)
    replace mW := sub17 _ (List.mem_cons_of_mem _ mW)
    replace mG := sub17 _ (List.mem_cons_of_mem _ mG)
    clear sub17 b2
    iterate 3 walk1
    refine kept0 N17 hL.kp fun kv hkv => ?_
    refine dat_ne N17 ds2 hkv (ok_SI o1) (ok_SI o1) (Nat.le_of_ble_eq_true rfl) ?_
    rw [sameD_refl, Bool.not_true]
    clear hkv ds2
    iterate 6 walk1
    dsimp only
    clear hbr hhas hls hll
    w_top off
    have m1 := hL.m1
    have m2 := hL.m2
    iterate 21 walk1
    rename Fr _ _ _ _ => F18
    rename News _ _ _ _ => N18
    refine add_lists_ints F18 N18 (News.isList N18 (List.mem_cons_of_mem _ mG)) (News.isList N18 (items := List.toArray [Value.int 99 _]) (List.Mem.head _)) iG (.cons 99 _ .nil) (fun h19 F19 N19 i19 => ?_) (by rw [sizeLine_eq]; have := gon_le es1 es2; simp only [List.length_cons, List.length_nil]; omega)
    obtain ⟨news20, sub20, mV, N20⟩ : ∃ news20, (∀ p ∈ news17, p ∈ news20) ∧ (_, PySem.W.listOf (List.toArray (gs ++ [Value.int 99 _])) 0) ∈ news20 ∧ News _ _ _ news20 := ⟨_, fun p hp => List.mem_cons_of_mem _ (List.mem_cons_of_mem _ hp), List.Mem.head _, N19⟩
    clear F18 N18 N19 m1 m2
    replace hL := hL.mono sub20
    have m1 := hL.m1
    have m2 := hL.m2
    clear sub20
    walk1
    refine LCg.ListComp_U F19 (by with_unfolding_all rfl) (by decide) (by rfl) (by decide) (by rfl) ?_ (by intro _; with_unfolding_all rfl)
    iterate 6 walk1
    refine sorted_dd (by rfl) F19 N20 hL.d2 o2 fun SS h21 tk21 out2 c21 F21 N21 l21 i21 => ?_
    obtain ⟨newsE2, subE2, mS2, NE2⟩ : ∃ newsE2, (∀ p ∈ news20, p ∈ newsE2) ∧ (SS, PySem.W.listOf (List.toArray out2) c21) ∈ newsE2 ∧ News _ _ _ newsE2 := ⟨_, fun p hp => List.mem_cons_of_mem _ hp, List.Mem.head _, N21⟩
    clear N21 F19 N20 m1 m2 l21
    replace hL := hL.mono subE2
    replace mV := subE2 _ mV
    clear subE2
    have hk12 := ks_le es2
    refine LCg.CompSrc.ledger (k := c21) rfl F21 NE2 mS2 (by rw [List.size_toArray, sizeLine_eq]; have := i21.length; omega) fun g2 => ?_
    refine compRest_ind out2.toArray.size (fun i ys nw => (∀ p ∈ newsE2, p ∈ nw) ∧ LetsIn w nw ys ((lets es2 (ks es2)).take i)) ?_ ?_ _ 0 [] _ (Nat.zero_add _) ⟨fun _ h => h, .nil⟩
    · rintro i ys nw hi ⟨hsub, hls⟩ v I oI C oC DD m₂ h tk E' hP hC hx F N off
      have hns := hC.ns (N.get (List.Mem.tail _ (List.Mem.head _)))
      obtain ⟨k, t, rfl, hk⟩ : ∃ k t, v = .int k t ∧ (ks es2)[i]? = some k := by
        have hi' : i < (ks es2).length := by have := i21.length; rw [List.size_toArray] at hi; omega
        obtain ⟨t, ht⟩ := i21.get i (ks es2)[i] (by simp [hi'])
        have hP' : out2[i]? = some v := by simpa using hP
        rw [ht] at hP'
        exact ⟨_, t, (Option.some.inj hP').symm, by simp [hi']⟩
      iterate 5 walk1
      refine wpAny_Name (wpAny_loadName_local (by rfl) (by rfl) hns hx ?_) (by decide)
      iterate 4 walk1
      refine lcf_cell (v := .ref D2) N rfl (List.Mem.tail _ (List.Mem.tail _ (List.Mem.tail _ (hsub _ hL.m2)))) e5 ?_ rfl rfl
      refine wpAny_Name (wpAny_loadName_local (by rfl) (by rfl) hns hx ?_) (by decide)
      obtain ⟨dv, gk, fds, edv⟩ : ∃ dv, get es2 k = some dv ∧ ∃ fds, dv = .tuple fds := get_tup u2 (ks_mem.mp (List.mem_of_getElem? hk)).2
      have Nn : News _ _ _ nw := fun p hp => N p (List.Mem.tail _ (List.Mem.tail _ (List.Mem.tail _ hp)))
      refine dd_item Nn (hL.d2.mono hsub) gk (fun fv hfv => ?_)
      iterate 6 walk1
      subst edv
      refine letter_call K0 rfl rfl F KX N T (hfv.mono fun p hp => List.Mem.tail _ (List.Mem.tail _ (List.Mem.tail _ hp))) fun xL dL oL h9 tk9 F9 N9 lt9 lx9 hle => ?_
      refine ⟨h9, tk9, [(xL, instObj 64 dL), (dL, oL)], rfl, F9, N9, fun p hp q hq => ?_, .inr ⟨_, List.Mem.tail _ (List.Mem.tail _ (hsub _ mS2)), rfl, _, rfl⟩, fun p hp => List.Mem.tail _ (List.Mem.tail _ (hsub p hp)), ?_⟩
      · rcases List.mem_cons.mp hp with rfl | hp
        · exact Nat.lt_trans (lt9 q hq) lx9
        · rw [List.mem_singleton.mp hp]; exact lt9 q hq
      · rw [lets_take es2 (ks es2) i hk, gk]
        exact LetsIn.snoc (hle nw hfv) (hls.mono fun p hp => List.Mem.tail _ (List.Mem.tail _ hp))
    · rintro ys nw ⟨hsub, hls⟩ LE h9 tk9 F9 N9 off
      have hfull : (lets es2 (ks es2)).take out2.toArray.size = lets es2 (ks es2) := by
        rw [List.size_toArray, i21.length]
        exact List.take_of_length_le (by unfold lets; rw [List.length_map]; exact Nat.le_refl _)
      rw [hfull] at hls
      have hll : (lets es2 (ks es2)).length ≤ 100 := by
        unfold lets
        rw [List.length_map]
        omega
      obtain ⟨newsF, subF, mL, NF⟩ : ∃ newsF, (∀ p ∈ nw, p ∈ newsF) ∧ (LE, PySem.W.listOf (List.toArray ys) ys.length) ∈ newsF ∧ News _ _ _ newsF := ⟨_, fun p hp => List.mem_cons_of_mem _ hp, List.Mem.head _, N9⟩
      replace hL := hL.mono fun p hp => subF p (hsub p hp)
      replace mV := subF _ (hsub _ mV)
      replace hls := hls.mono subF
      clear N9 hsub subF off mS2 NE2 F21 hfull 
      iterate 2 walk1
      refine brought_call K0 rfl rfl F9 KX NF T hL.d1 o1 mV i19 mL hls hll fun B3 h22 tk22 news22 F22 N22 sub22 b3 => ?_
      clear F9 NF
      replace hL := hL.mono sub22
      clear sub22 mV mL hls
      have ob3 := bro_ok (vns := gon es1 es2 ++ [99]) o1 (lets_ok o2 (ns := ks es2) fun k hk => (ks_mem.mp hk).2)
      refine items_method N22 b3 ?_
      walk1
      refine items_call F22 N22 b3 fun v3 h23 F23 N23 => ?_
      clear F22 N22
      walk1
      refine sorted_items (by rfl) F23 N23 (List.Mem.head _) (b3.mono fun p hp => List.mem_cons_of_mem _ hp) ob3 fun S3 h24 tk24 news24 F24 N24 sub24 ds3 => ?_
      clear F23 N23
      rw [SI_congr (bro_all o1 o2 99)] at ds3
      replace hL := hL.mono fun p hp => sub24 p (List.mem_cons_of_mem _ hp)
      clear sub24 b3
      iterate 3 walk1
      refine kept1 N24 hL.kp fun kv hkv => ?_
      refine dat_ne N24 ds3 hkv (ok_SI o2) (ok_SI o2) (Nat.le_of_ble_eq_true rfl) ?_
      rw [sameD_refl, Bool.not_true]
      clear hkv ds3
      iterate 4 walk1
      dsimp only
      w_top off
      have m1 := hL.m1
      have m2 := hL.m2
      iterate 13 walk1
      refine diff_call K0 rfl rfl F24 KX N24 hL.d1 hL.d1 o1 o1 T fun r3 h25 tk25 news25 F25 N25 sub25 dr3 => ?_
      clear F24 N24 m1 m2
      replace hL := hL.mono sub25
      clear sub25
      rw [gon_self, oth_self] at dr3
      iterate 15 walk1
      rename Fr _ _ _ _ => F26
      rename News _ _ _ _ => NX
      obtain ⟨news26, sub26, N26, dt⟩ : ∃ news26, (∀ p ∈ news25, p ∈ news26) ∧ News _ _ _ news26 ∧ DatIn news26 (.ref _) (.tuple [ilist [], ilist [], ilist []]) :=
        ⟨_, fun p hp => List.mem_cons_of_mem _ (List.mem_cons_of_mem _ (List.mem_cons_of_mem _ (List.mem_cons_of_mem _ hp))), NX, .tuple (vs := [.ref _, .ref _, .ref _]) (List.Mem.head _)
          (.cons (.list (vs := []) (List.Mem.tail _ (List.Mem.tail _ (List.Mem.tail _ (List.Mem.head _)))) .nil) (.cons (.list (vs := []) (List.Mem.tail _ (List.Mem.tail _ (List.Mem.head _))) .nil) (.cons (.list (vs := []) (List.Mem.tail _ (List.Mem.head _)) .nil) .nil)))⟩
      refine dat_eq N26 (dr3.mono sub26) dt (ok_tri _ _ _) (ok_tri _ _ _) (Nat.le_of_ble_eq_true rfl) ?_
      rw [sameD_refl]
      replace hL := hL.mono sub26
      clear NX dt dr3 sub26
      have m1 := hL.m1
      have m2 := hL.m2
      iterate 12 walk1
      refine items_method N26 hL.d1 ?_
      walk1
      refine items_call F26 N26 hL.d1 fun v4 h27 F27 N27 => ?_
      clear F26 N26 m1 m2
      walk1
      refine sorted_items (by rfl) F27 N27 (List.Mem.head _) (hL.d1.mono fun p hp => List.mem_cons_of_mem _ hp) o1 fun S4 h28 tk28 news28 F28 N28 sub28 ds4 => ?_
      clear F27 N27
      replace hL := hL.mono fun p hp => sub28 p (List.mem_cons_of_mem _ hp)
      clear sub28
      have m1 := hL.m1
      have m2 := hL.m2
      iterate 7 walk1
      refine items_method N28 hL.d2 ?_
      walk1
      refine items_call F28 N28 hL.d2 fun v5 h29 F29 N29 => ?_
      clear F28 N28 m1 m2
      walk1
      refine sorted_items (by rfl) F29 N29 (List.Mem.head _) (hL.d2.mono fun p hp => List.mem_cons_of_mem _ hp) o2 fun S5 h30 tk30 news30 F30 N30 sub30 ds5 => ?_
      clear F29 N29
      replace hL := hL.mono fun p hp => sub30 p (List.mem_cons_of_mem _ hp)
      replace ds4 := ds4.mono fun p hp => sub30 p (List.mem_cons_of_mem _ hp)
      clear sub30
      iterate 3 walk1
      rename Fr _ _ _ _ => F31
      rename News _ _ _ _ => N31
      obtain ⟨news32, sub32, N32, dt⟩ : ∃ news32, (∀ p ∈ news30, p ∈ news32) ∧ News _ _ _ news32 ∧ DatIn news32 (.ref _) (.tuple [.list (SI es1), .list (SI es2)]) :=
        ⟨_, fun p hp => List.mem_cons_of_mem _ hp, N31, .tuple (vs := [.ref S4, .ref S5]) (List.Mem.head _) (.cons (ds4.mono fun p hp => List.mem_cons_of_mem _ hp) (.cons (ds5.mono fun p hp => List.mem_cons_of_mem _ hp) .nil))⟩
      refine dat_eq N32 dt (hL.kp.mono sub32) (ok_two o1 o2) (ok_two o1 o2) (Nat.le_of_ble_eq_true rfl) ?_
      rw [sameD_refl]
      exact fin _ _ _ F31)
end Mine
theorem PySem.Challenge.cw_nz0264_01_holds : PySem.Challenge.rw_nz0264_01.Holds :=
  Mine.hold
