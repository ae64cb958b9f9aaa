import PyProof.Rows.All
import Wide.All
import OpenK.AllK
import Wide.FinOn
import PySem.Challenge.RW_ok0005_01
open PySem PySem.W PyProof.Rows
set_option Elab.async false
namespace Mine
set_option maxRecDepth 100000 in
set_option maxHeartbeats 8000000 in
open_top hd for PySem.Challenge.rw_ok0005_01
theorem top_off : True := by
  w_top off
  trivial
end Mine
section
open PySem PySem.W PyProof.Rows PySem.Spec PySem.Calls
set_option maxRecDepth 100000
namespace Mine

/-! the pure model: names in order, pairs in order; a thing is added where it is new -/
noncomputable def addU {α : Type} [DecidableEq α] (l : List α) (x : α) : List α := if x ∈ l then l else l ++ [x]
theorem addU_old {α : Type} [DecidableEq α] {l : List α} {x : α} (h : x ∈ l) : addU l x = l := if_pos h
theorem addU_new {α : Type} [DecidableEq α] {l : List α} {x : α} (h : x ∉ l) : addU l x = l ++ [x] := if_neg h
theorem mem_addU {α : Type} [DecidableEq α] (l : List α) (x : α) : x ∈ addU l x := by
  unfold addU; split
  · assumption
  · simp
theorem sub_addU {α : Type} [DecidableEq α] {l : List α} {x y : α} (h : y ∈ l) : y ∈ addU l x := by
  unfold addU; split
  · assumption
  · simp [h]
theorem of_mem_addU {α : Type} [DecidableEq α] {l : List α} {x y : α} (h : y ∈ addU l x) : y ∈ l ∨ y = x := by
  unfold addU at h; split at h
  · exact .inl h
  · simpa using h
theorem len_addU {α : Type} [DecidableEq α] (l : List α) (x : α) : (addU l x).length ≤ l.length + 1 := by
  unfold addU; split <;> simp
theorem nodup_addU {α : Type} [DecidableEq α] {l : List α} (x : α) (h : l.Nodup) : (addU l x).Nodup := by
  unfold addU; split
  · exact h
  · rename_i hn
    rw [List.nodup_append]
    refine ⟨h, by simp, ?_⟩
    intro a ha b hb e
    simp at hb
    subst hb
    exact hn (e ▸ ha)
/-- the place of x in l -/
noncomputable def idx {α : Type} [DecidableEq α] : List α → α → Nat
  | [], _ => 0
  | y :: r, x => if y = x then 0 else idx r x + 1
theorem idx_new {α : Type} [DecidableEq α] {x : α} : ∀ {l : List α}, x ∉ l → idx l x = l.length
  | [], _ => rfl
  | y :: r, h => by
    have h1 : y ≠ x := fun e => h (e ▸ List.mem_cons_self)
    rw [idx, if_neg h1, idx_new fun e => h (List.mem_cons_of_mem _ e), List.length_cons]
theorem idx_lt {α : Type} [DecidableEq α] {x : α} : ∀ {l : List α}, x ∈ l → idx l x < l.length
  | y :: r, h => by
    by_cases e : y = x
    · rw [idx, if_pos e, List.length_cons]; omega
    · have h2 : x ∈ r := (List.mem_cons.mp h).resolve_left fun q => e q.symm
      have := idx_lt h2
      rw [idx, if_neg e, List.length_cons]; omega
theorem idx_get {α : Type} [DecidableEq α] {x : α} : ∀ {l : List α}, x ∈ l → l[idx l x]? = some x
  | y :: r, h => by
    by_cases e : y = x
    · rw [idx, if_pos e, e]; rfl
    · have h2 : x ∈ r := (List.mem_cons.mp h).resolve_left fun q => e q.symm
      rw [idx, if_neg e, List.getElem?_cons_succ]; exact idx_get h2
theorem idx_before {α : Type} [DecidableEq α] {x : α} : ∀ {l : List α} {i : Nat} {y : α}, i < idx l x → l[i]? = some y → y ≠ x
  | z :: r, i, y, h, hy => by
    by_cases e : z = x
    · rw [idx, if_pos e] at h; omega
    · rw [idx, if_neg e] at h
      cases i with
      | zero => simp at hy; exact hy ▸ e
      | succ i => rw [List.getElem?_cons_succ] at hy; exact idx_before (by omega) hy
theorem idx_nodup {α : Type} [DecidableEq α] {x : α} : ∀ {l : List α} {i : Nat}, l.Nodup → l[i]? = some x → idx l x = i
  | z :: r, i, h, hx => by
    rw [List.nodup_cons] at h
    cases i with
    | zero => simp at hx; rw [idx, if_pos hx]
    | succ i =>
      rw [List.getElem?_cons_succ] at hx
      have e : z ≠ x := fun e => h.1 (e ▸ List.mem_of_getElem? hx)
      rw [idx, if_neg e, idx_nodup h.2 hx]
theorem idx_append {α : Type} [DecidableEq α] {x : α} : ∀ {l l' : List α}, x ∈ l → idx (l ++ l') x = idx l x
  | y :: r, l', h => by
    by_cases e : y = x
    · rw [List.cons_append, idx, if_pos e, idx, if_pos e]
    · have h2 : x ∈ r := (List.mem_cons.mp h).resolve_left fun q => e q.symm
      rw [List.cons_append, idx, if_neg e, idx, if_neg e, idx_append h2]
theorem idx_snoc {α : Type} [DecidableEq α] {x : α} : ∀ {l : List α}, x ∉ l → idx (l ++ [x]) x = l.length
  | [], _ => by simp [idx]
  | y :: r, h => by
    have h1 : y ≠ x := fun e => h (e ▸ List.mem_cons_self)
    rw [List.cons_append, idx, if_neg h1, idx_snoc fun e => h (List.mem_cons_of_mem _ e), List.length_cons]
theorem idx_addU_old {α : Type} [DecidableEq α] {l : List α} {x y : α} (h : y ∈ l) : idx (addU l x) y = idx l y := by
  unfold addU; split
  · rfl
  · exact idx_append h
theorem idx_addU {α : Type} [DecidableEq α] (l : List α) (x : α) : idx (addU l x) x = idx l x := by
  by_cases h : x ∈ l
  · exact idx_addU_old h
  · rw [addU_new h, idx_snoc h, idx_new h]
theorem idx_inj {α : Type} [DecidableEq α] {l : List α} {x y : α} (h : x ∈ l) (e : idx l x = idx l y) : x = y := by
  have h1 := idx_get h
  have hy : y ∈ l := Decidable.byContradiction fun hn => by have := idx_new hn; have := idx_lt h; omega
  have h2 := idx_get hy
  rw [e, h2] at h1
  exact (Option.some.inj h1).symm

/-- a functor's key: the name's place, the arity -/
noncomputable def fkey (ns : List Str) (p : Str × Int) : List Int := [((idx ns p.1 : Nat) : Int), p.2]
theorem fkey_inj {ns : List Str} {p q : Str × Int} (h : p.1 ∈ ns) (e : fkey ns p = fkey ns q) : p = q := by
  unfold fkey at e
  injection e with e1 e2
  injection e2 with e2 _
  have : idx ns p.1 = idx ns q.1 := Int.ofNat.inj e1
  exact Prod.ext (idx_inj h this) e2
theorem fkey_addU {ns : List Str} {x : Str} {p : Str × Int} (h : p.1 ∈ ns) : fkey (addU ns x) p = fkey ns p := by
  unfold fkey; rw [idx_addU_old h]
theorem map_fkey_addU {ns : List Str} {x : Str} {ps : List (Str × Int)} (h : ∀ p ∈ ps, p.1 ∈ ns) : ps.map (fkey (addU ns x)) = ps.map (fkey ns) :=
  List.map_congr_left fun p hp => fkey_addU (h p hp)
theorem mem_fkey {ns : List Str} {ps : List (Str × Int)} {p : Str × Int} (hp : p.1 ∈ ns) : fkey ns p ∈ ps.map (fkey ns) ↔ p ∈ ps := by
  constructor
  · intro h
    obtain ⟨q, hq, e⟩ := List.mem_map.mp h
    exact (fkey_inj hp e.symm) ▸ hq
  · exact fun h => List.mem_map.mpr ⟨p, h, rfl⟩
theorem idx_fkey {ns : List Str} {p : Str × Int} (hp : p.1 ∈ ns) : ∀ {ps : List (Str × Int)}, idx (ps.map (fkey ns)) (fkey ns p) = idx ps p
  | [] => rfl
  | q :: r => by
    rw [List.map_cons, idx, idx, idx_fkey hp]
    by_cases e : q = p
    · subst e; simp
    · have e' : fkey ns q ≠ fkey ns p := fun h => e (fkey_inj hp h.symm).symm
      rw [if_neg e, if_neg e']

/-! objects -/
abbrev tupObj (vs : List Value) : Obj := { cls := .type "tuple", data := .seq vs.toArray }

/-- a dict that holds each name under its place -/
def AtomDict (w : World) (o : Obj) (ns : List Str) : Prop :=
  ∃ kvs : List (Str × Value), o.IsDictOf (strKind Challenge.rw_ok0005_01.row.prog w) kvs ∧ kvs.map (·.1) = ns ∧ ∀ (i : Nat) (x : Str) (v : Value), kvs[i]? = some (x, v) → ∃ t, v = .int (i : Int) t

/-- a dict that holds each functor's key under its place; qs: the addresses of the keys' tuples -/
def FunDict (w : World) (o : Obj) (qs : List Addr) (ks : List (List Int)) : Prop :=
  o.ExactDict ∧ ∃ (es : Array DictEntry) (ep : Nat) (xs : List (List Int × Addr × Value)), o.data = .dict es ep ∧ es.toList = xs.map (entryOfKey (tupleKind (intKind Challenge.rw_ok0005_01.row.prog w))) ∧
    xs.map (·.1) = ks ∧ xs.map (·.2.1) = qs ∧ (∀ (i : Nat) (k : List Int) (q : Addr) (v : Value), xs[i]? = some (k, q, v) → ∃ t, v = .int (i : Int) t) ∧ ks.Nodup

/-- the tuples of the functors' keys lie in the ledger -/
def KeysAt (news : List (Addr × Obj)) (qs : List Addr) (ks : List (List Int)) : Prop :=
  qs.length = ks.length ∧ ∀ (i : Nat) (q : Addr) (k : List Int), qs[i]? = some q → ks[i]? = some k → ∃ (a r : Int) (t u : Tok), k = [a, r] ∧ (q, tupObj [.int a t, .int r u]) ∈ news
theorem KeysAt.mono {news news' : List (Addr × Obj)} {qs : List Addr} {ks : List (List Int)} (h : KeysAt news qs ks) (hs : ∀ p ∈ news, p ∈ news') : KeysAt news' qs ks :=
  ⟨h.1, fun i q k hq hk => let ⟨a, r, t, u, e, m⟩ := h.2 i q k hq hk; ⟨a, r, t, u, e, hs _ m⟩⟩
theorem KeysAt.snoc {news : List (Addr × Obj)} {qs : List Addr} {ks : List (List Int)} {q : Addr} {a r : Int} {t u : Tok} (h : KeysAt news qs ks) (m : (q, tupObj [.int a t, .int r u]) ∈ news) : KeysAt news (qs ++ [q]) (ks ++ [[a, r]]) := by
  refine ⟨by simp [h.1], fun i q' k hq hk => ?_⟩
  by_cases hi : i < qs.length
  · rw [List.getElem?_append_left hi] at hq
    rw [List.getElem?_append_left (h.1 ▸ hi)] at hk
    exact h.2 i q' k hq hk
  · rw [List.getElem?_append_right (Nat.le_of_not_lt hi)] at hq
    rw [List.getElem?_append_right (by rw [← h.1]; exact Nat.le_of_not_lt hi)] at hk
    have e0 : i - qs.length = 0 := by
      cases e : i - qs.length with
      | zero => rfl
      | succ n => rw [e] at hq; simp at hq
    rw [← h.1] at hk
    rw [e0] at hq hk
    simp at hq hk
    subst hq hk
    exact ⟨a, r, t, u, rfl, m⟩

/-- the law's own pairs lie in the ledger -/
def PairsAt (news : List (Addr × Obj)) (qs : List Addr) (ps : List (Str × Int)) : Prop :=
  qs.length = ps.length ∧ ∀ (i : Nat) (q : Addr) (p : Str × Int), qs[i]? = some q → ps[i]? = some p → ∃ (t u : Tok), (q, tupObj [.str p.1 t, .int p.2 u]) ∈ news
theorem PairsAt.mono {news news' : List (Addr × Obj)} {qs : List Addr} {ps : List (Str × Int)} (h : PairsAt news qs ps) (hs : ∀ p ∈ news, p ∈ news') : PairsAt news' qs ps :=
  ⟨h.1, fun i q k hq hk => let ⟨t, u, m⟩ := h.2 i q k hq hk; ⟨t, u, hs _ m⟩⟩
theorem PairsAt.snoc {news : List (Addr × Obj)} {qs : List Addr} {ps : List (Str × Int)} {q : Addr} {x : Str} {r : Int} {t u : Tok} (h : PairsAt news qs ps) (m : (q, tupObj [.str x t, .int r u]) ∈ news) : PairsAt news (qs ++ [q]) (ps ++ [(x, r)]) := by
  refine ⟨by simp [h.1], fun i q' k hq hk => ?_⟩
  by_cases hi : i < qs.length
  · rw [List.getElem?_append_left hi] at hq
    rw [List.getElem?_append_left (h.1 ▸ hi)] at hk
    exact h.2 i q' k hq hk
  · rw [List.getElem?_append_right (Nat.le_of_not_lt hi)] at hq
    rw [List.getElem?_append_right (by rw [← h.1]; exact Nat.le_of_not_lt hi)] at hk
    have e0 : i - qs.length = 0 := by
      cases e : i - qs.length with
      | zero => rfl
      | succ n => rw [e] at hq; simp at hq
    rw [← h.1] at hk
    rw [e0] at hq hk
    simp at hq hk
    subst hq hk
    exact ⟨t, u, m⟩
theorem PairsAt.get {news : List (Addr × Obj)} {qs : List Addr} {ps : List (Str × Int)} (h : PairsAt news qs ps) {i : Nat} {p : Str × Int} (hp : ps[i]? = some p) : ∃ q t u, qs[i]? = some q ∧ (q, tupObj [.str p.1 t, .int p.2 u]) ∈ news := by
  have hi : i < qs.length := by rw [h.1]; exact (List.getElem?_eq_some_iff.mp hp).1
  obtain ⟨t, u, m⟩ := h.2 i _ p (List.getElem?_eq_getElem hi) hp
  exact ⟨_, t, u, List.getElem?_eq_getElem hi, m⟩
theorem KeysAt.get {news : List (Addr × Obj)} {qs : List Addr} {ks : List (List Int)} (h : KeysAt news qs ks) {i : Nat} {k : List Int} (hp : ks[i]? = some k) : ∃ q a r t u, k = [a, r] ∧ qs[i]? = some q ∧ (q, tupObj [.int a t, .int r u]) ∈ news := by
  have hi : i < qs.length := by rw [h.1]; exact (List.getElem?_eq_some_iff.mp hp).1
  obtain ⟨a, r, t, u, e, m⟩ := h.2 i _ k (List.getElem?_eq_getElem hi) hp
  exact ⟨_, a, r, t, u, e, List.getElem?_eq_getElem hi, m⟩

/-! the name's dict -/
theorem valueAt_nth : ∀ {kvs : List (Str × Value)} {n : Nat} {x : Str}, (∀ (i : Nat) (y : Str) (v : Value), kvs[i]? = some (y, v) → ∃ t, v = .int ((n + i : Nat) : Int) t) →
    (x ∈ kvs.map (·.1) → ∃ t, valueAt kvs x = some (.int ((n + idx (kvs.map (·.1)) x : Nat) : Int) t)) ∧ (x ∉ kvs.map (·.1) → valueAt kvs x = none)
  | [], _, _, _ => ⟨fun h => by simp at h, fun _ => rfl⟩
  | (y, v) :: r, n, x, h => by
    have ih := valueAt_nth (kvs := r) (n := n + 1) (x := x) fun i z u hz => by
      obtain ⟨t, e⟩ := h (i + 1) z u (by simpa using hz)
      exact ⟨t, by rw [e]; congr 2; omega⟩
    by_cases e : y = x
    · subst e
      refine ⟨fun _ => ?_, fun hn => by simp at hn⟩
      obtain ⟨t, ev⟩ := h 0 y v (by simp)
      exact ⟨t, by simp [valueAt, ev, idx]⟩
    · have e2 : valueAt ((y, v) :: r) x = valueAt r x := by simp [valueAt, e]
      rw [e2]
      refine ⟨fun hm => ?_, fun hn => ih.2 (by simp at hn ⊢; exact hn.2)⟩
      have hm' : x ∈ r.map (·.1) := by
        rw [List.map_cons, List.mem_cons] at hm
        rcases hm with hm | hm
        · exact absurd hm.symm e
        · exact hm
      obtain ⟨t, et⟩ := ih.1 hm'
      refine ⟨t, ?_⟩
      rw [et, List.map_cons, idx, if_neg e]
      congr 3; omega
theorem AtomDict.at {w : World} {o : Obj} {ns : List Str} {kvs : List (Str × Value)} (h2 : kvs.map (·.1) = ns) (h3 : ∀ (i : Nat) (x : Str) (v : Value), kvs[i]? = some (x, v) → ∃ t, v = .int (i : Int) t) (x : Str) :
    (x ∈ ns → ∃ t, valueAt kvs x = some (.int ((idx ns x : Nat) : Int) t)) ∧ (x ∉ ns → valueAt kvs x = none) := by
  have := valueAt_nth (kvs := kvs) (n := 0) (x := x) fun i y v hv => by simpa using h3 i y v hv
  subst h2
  simpa using this
theorem stored_new {K : Type} [DecidableEq K] {kvs : List (K × Value)} {k : K} (h : k ∉ kvs.map (·.1)) (v : Value) : stored kvs k v = kvs ++ [(k, v)] := by
  unfold stored
  rw [if_neg]
  simp only [List.any_eq_true, not_exists, not_and, decide_eq_true_eq]
  intro x hx e
  exact h (List.mem_map.mpr ⟨x, hx, e⟩)

section
variable {w : World} {A : Around} {E : Value → Shared → Prop} {s : Shared} {h₀ : Heap} {L d : Addr} {m : Str → Option Value} {news : List (Addr × Obj)} {o : Obj} {ns : List Str}

theorem atomDict_typeIs (N : News h₀ L s.heap news) (hm : (d, o) ∈ news) (hd : AtomDict w o ns) : s.TypeIs (.ref d) "dict" :=
  let ⟨_, ⟨_, _, hc, _⟩, _⟩ := hd; ⟨o, (N _ hm).1, hc.1⟩
theorem exact_typeIs (N : News h₀ L s.heap news) (hm : (d, o) ∈ news) (hc : o.ExactDict) : s.TypeIs (.ref d) "dict" := ⟨o, (N _ hm).1, hc.1⟩
theorem AtomDict.exact (hd : AtomDict w o ns) : o.ExactDict := let ⟨_, ⟨_, _, hc, _⟩, _⟩ := hd; hc

theorem dict_getMethod {pl : Sem Bool} {Q : Value × List Value → Shared → Prop} (N : News h₀ L s.heap news) (hm : (d, o) ∈ news) (hc : o.ExactDict) (h : Q (.builtin "dict.get", [.ref d]) s) :
    wpAny (model Challenge.rw_ok0005_01.row.prog w) A (getMethod (.ref d) "get" pl) Q E s :=
  getMethod_builtin (exact_typeIs N hm hc) PySem.F.plainAttrs_dict PySem.F.slot_dict_get PySem.F.type_dict_get (fun b e => by cases e; exact ⟨o, (N _ hm).1, hc.2.1⟩) h

theorem atom_get {x : Str} {t u : Tok} {Q : Value → Shared → Prop} (N : News h₀ L s.heap news) (hm : (d, o) ∈ news) (hd : AtomDict w o ns) (lo : (d == sysModules) = false)
    (h1 : x ∈ ns → ∀ t', Q (.int ((idx ns x : Nat) : Int) t') { s with toks := s.toks + 1 }) (h2 : x ∉ ns → Q (.int (-1) u) { s with toks := s.toks + 1 }) :
    wpAny (model Challenge.rw_ok0005_01.row.prog w) A (call (.builtin "dict.get") [.ref d, .str x t, .int (-1) u]) Q E s := by
  obtain ⟨kvs, hk, e2, e3⟩ := hd
  have D : s.heap.DictOf (strKind Challenge.rw_ok0005_01.row.prog w) d kvs := Heap.dictOf_iff.mpr ⟨o, (N _ hm).1, hk⟩
  have T : s.TypeIs (.ref d) "dict" := D.mapOf.typeIs
  refine call_meetsIn PySem.F.slot_dict_get T PySem.F.entry_dict_get (PySem.F.args_dict_get_3 _ _ _) (meets_dict_get_default (strKind Challenge.rw_ok0005_01.row.prog w) d (strKind_is _ w x t) lo (.int (-1) u)) ⟨_, D.mapOf, ?_⟩
  have q := AtomDict.at (w := w) (o := o) e2 e3 x
  by_cases hx : x ∈ ns
  · obtain ⟨t', e⟩ := q.1 hx
    rw [e]; exact h1 hx t'
  · rw [q.2 hx]; exact h2 hx

theorem atom_set {x : Str} {t u : Tok} {Q : Unit → Shared → Prop} {g : Obj → List (Addr × Obj)} (F : Fr h₀ L s.heap m) (N : News h₀ L s.heap news) (U : UpdF d o news g) (hd : AtomDict w o ns) (hx : x ∉ ns) (hsz : ns.length ≤ 1000)
    (h : ∀ h' o', Fr h₀ L h' m → News h₀ L h' (g o') → AtomDict w o' (ns ++ [x]) → Q () { s with heap := h', toks := s.toks + 1 }) :
    wpAny (model Challenge.rw_ok0005_01.row.prog w) A (setItem (.ref d) (.str x t) (.int ((ns.length : Nat) : Int) u)) Q E s := by
  obtain ⟨pre, post, rfl, hg, a, b⟩ := U.split
  obtain ⟨kvs, hk, e2, e3⟩ := hd
  have hm := N (d, o) (List.mem_append_right _ (.head _))
  have hl : kvs.length = ns.length := by rw [← e2, List.length_map]
  refine wpAny_setItem_pairs (hsz := by rw [sizeLine_eq]; omega) (strKind_is Challenge.rw_ok0005_01.row.prog w x t) (Heap.dictOf_iff.mpr ⟨o, hm.1, hk⟩) fun h' hmm hs => ?_
  obtain ⟨o', ho', hd'⟩ := Heap.dictOf_iff.mp hmm
  rw [stored_new (e2 ▸ hx)] at hd'
  refine h h' o' (F.change hs hm.2.1 hm.2.2) (hg o' ▸ N.setIn a b hs ho') ⟨_, hd', by rw [List.map_append, e2]; rfl, fun i y v hv => ?_⟩
  by_cases hi : i < kvs.length
  · rw [List.getElem?_append_left hi] at hv
    exact e3 i y v hv
  · rw [List.getElem?_append_right (Nat.le_of_not_lt hi)] at hv
    have e0 : i - kvs.length = 0 := by
      cases e : i - kvs.length with
      | zero => rfl
      | succ n => rw [e] at hv; simp at hv
    rw [e0] at hv
    simp at hv
    exact ⟨u, by rw [← hv.2]; congr 2; omega⟩

/-! lists of the ledger -/
theorem lst_len {vs : List Value} {n k : Nat} {Q : Value → Shared → Prop} (N : News h₀ L s.heap news) (hm : (d, listOf vs.toArray n) ∈ news) (e : vs.length = k) (hk : k ≤ 1000)
    (h : Q (.int ((k : Nat) : Int) (s.toks + 1)) { s with toks := s.toks + 1 + 1 }) : wpAny (model Challenge.rw_ok0005_01.row.prog w) A (call (.builtin "len") [.ref d]) Q E s := by
  have hl : s.heap.IsList d vs.toArray := ⟨_, (N _ hm).1, rfl, n, rfl⟩
  have e2 : vs.toArray.size = k := by rw [List.size_toArray, e]
  exact len_list hl (by rw [e2]; omega) (by rw [e2]; exact h)
theorem lst_append {vs : List Value} {n k : Nat} {x : Value} {news' : List (Addr × Obj)} {Q : Value → Shared → Prop} (F : Fr h₀ L s.heap m) (N : News h₀ L s.heap news) (U : Upd d (listOf vs.toArray n) (listOf (vs ++ [x]).toArray (n + 1)) news news') (e : vs.length = k) (hk : k ≤ 1000)
    (h : ∀ h', Fr h₀ L h' m → News h₀ L h' news' → Q .none { s with heap := h' }) : wpAny (model Challenge.rw_ok0005_01.row.prog w) A (call (.builtin "list.append") [.ref d, x]) Q E s :=
  append_K (its := vs.toArray) F N (by rw [List.push_toArray]; exact U) h (by rw [List.size_toArray, sizeLine_eq]; omega)
end
end Mine

end
section
open PySem PySem.W PyProof.Rows PySem.Spec PySem.Calls
namespace Mine
local macro_rules | `(tactic| k_mem) => `(tactic| first | exact List.mem_cons_self | assumption | (refine List.mem_cons_of_mem _ ?_; k_mem))

local macro_rules | `(tactic| walk_at "getMethod ref") => `(tactic| (k_here; (with_reducible show wpAny _ _ (getMethod (Value.ref _) (PySem.Str.ofString "get") _) _ _ _); (rename AtomDict _ _ _ => hAD9); k_dflt (refine' dict_getMethod ?N ?m (AtomDict.exact hAD9) ?_; (case N => k_asm); (case m => k_mem))))
local macro_rules | `(tactic| walk_at "call builtin:dict.get") => `(tactic| (k_here; (show wpAny _ _ (call (Value.builtin _) [Value.ref _, Value.str _ _, Value.int _ _]) _ _ _); (rename AtomDict _ _ _ => hAD9); k_dflt (refine' atom_get ?N ?m hAD9 ?lo (fun hIn t9 => ?_) (fun hOut => ?_); (case N => k_asm); (case m => k_mem); (case lo => k_asm))))
local macro_rules | `(tactic| walk_at "call builtin:len") => `(tactic| (k_here; (show wpAny _ _ (call (Value.builtin _) [Value.ref _]) _ _ _); (rename StrsAre _ _ => hSA9); k_dflt (refine' lst_len ?N ?m (StrsAre.length hSA9) ?lo ?_; (case N => k_asm); (case m => k_mem); (case lo => k_asm))))
local macro_rules | `(tactic| walk_at "call builtin:list.append") => `(tactic| (k_here; (show wpAny _ _ (call (Value.builtin _) [Value.ref _, _]) _ _ _); (rename StrsAre _ _ => hSA9); k_dflt (refine' lst_append ?F ?N ?U (StrsAre.length hSA9) ?z ?_; (case F | N => k_asm); (case U => k_upd); (case z => k_asm)); intro h' F' N'; (try k_sweep)))
local macro_rules | `(tactic| walk_at "setItem ref str") => `(tactic| (k_here; (rename AtomDict _ _ _ => hAD9); k_dflt (refine' atom_set ?F ?N ?U hAD9 ?hx ?lo ?_; (case F | N => k_asm); (case U => k_updF); (case hx | lo => k_asm)); intro h' o' F' N' hd'; (try dsimp only at N'); (try k_sweep)))

set_option maxRecDepth 100000 in
set_option maxHeartbeats 8000000 in
theorem atom_ctr {w : World} {mean : ExcName → Option Value} {mg mb : Str → Option Value}
    {dp un : Nat} {gd : Option (List Code)} {cn : Str} {cs : Scope} {a : Addr} {ccd : Value} {cl : List (Str × Addr)} {outer : List Env} {A₀ : Around} {base h₀ : Heap} {L : Addr} {m : Str → Option Value} {s : Shared} {Q E : Value → Shared → Prop}
    {t d tx an fs fn : Addr} {c1 c2 c3 c4 : Int} {k1 k2 k3 k4 : Tok} {nd nv nu : Nat} {vs us : List Value} {oan ofn : Obj} {ns : List Str} {x : Str} {tx0 : Tok} {rest : List (Addr × Obj)}
    (B : Below A₀ base outer h₀) (F : Fr h₀ L s.heap m) (X : (hd.heap_39 w.params).In h₀) (N : News h₀ L s.heap ((t, instObj 115 d) :: (d, dictOf [⟨c1, .str (Str.ofString "texts") k1, .ref tx⟩, ⟨c2, .str (Str.ofString "atom_numbers") k2, .ref an⟩, ⟨c3, .str (Str.ofString "functors") k3, .ref fs⟩, ⟨c4, .str (Str.ofString "functor_numbers") k4, .ref fn⟩] nd) :: (tx, listOf vs.toArray nv) :: (an, oan) :: (fs, listOf us.toArray nu) :: (fn, ofn) :: rest))
    (T : Top hd.view_39 (looseW hd.view_39 []) mean mg mb h₀) (hk : cs.kind = .function) (hdp : dp + 10 < recursionLimit) (hun : un + 100 < cLine)
    (o1 : @LT.lt Nat _ d t) (o2 : @LT.lt Nat _ t tx) (o3 : @LT.lt Nat _ tx an) (o4 : @LT.lt Nat _ an fs) (o5 : @LT.lt Nat _ fs fn)
    (hoff : OwnOff rest [t, d, tx, an, fs, fn]) (lo : (an == sysModules) = false) (hS : StrsAre vs ns) (hA : AtomDict w oan ns) (hlen : ns.length ≤ 1000)
    (hret : ∀ (tv : Tok) (vs' : List Value) (nv' : Nat) (oan' : Obj) (h' : Heap) (tk' : Nat), StrsAre vs' (addU ns x) → AtomDict w oan' (addU ns x) → Fr h₀ L h' m →
      News h₀ L h' ((t, instObj 115 d) :: (d, dictOf [⟨c1, .str (Str.ofString "texts") k1, .ref tx⟩, ⟨c2, .str (Str.ofString "atom_numbers") k2, .ref an⟩, ⟨c3, .str (Str.ofString "functors") k3, .ref fs⟩, ⟨c4, .str (Str.ofString "functor_numbers") k4, .ref fn⟩] nd) :: (tx, listOf vs'.toArray nv') :: (an, oan') :: (fs, listOf us.toArray nu) :: (fn, ofn) :: rest) →
      Q (.int ((idx ns x : Nat) : Int) tv) { s with heap := h', toks := tk' }) :
    wpAny (model Challenge.rw_ok0005_01.row.prog w) (ktrTop dp un gd cn cs L a ccd cl outer) (call (.ref 49) [.ref t, .str x tx0]) Q E s := by

  revert X; k_fill; intro X
  refine wpAny_call ?_
  k_dflt ktr_enter
  k_steps
  · have hIn : x ∈ ns := by assumption
    exact hret _ vs nv oan _ _ (by rw [addU_old hIn]; assumption) (by rw [addU_old hIn]; assumption) (by assumption) (by assumption)
  · have hOut : x ∉ ns := by assumption
    have e := idx_new hOut
    rw [← e]
    exact hret _ (vs ++ [.str x tx0]) _ _ _ _ (by rw [addU_new hOut]; exact StrsAre.append' (by assumption) (.cons x tx0 .nil)) (by rw [addU_new hOut]; assumption) (by assumption) (by assumption)
end Mine


end
section
open PySem PySem.W PyProof.Rows PySem.Spec PySem.Calls
set_option maxRecDepth 100000
namespace Mine

abbrev prg : Program := Challenge.rw_ok0005_01.row.prog

theorem atKey_nth : ∀ {xs : List (List Int × Addr × Value)} {n : Nat} {x : List Int}, (∀ (i : Nat) (y : List Int) (q : Addr) (v : Value), xs[i]? = some (y, q, v) → ∃ t, v = .int ((n + i : Nat) : Int) t) →
    (x ∈ xs.map (·.1) → ∃ q t, atKey xs x = some (q, .int ((n + idx (xs.map (·.1)) x : Nat) : Int) t)) ∧ (x ∉ xs.map (·.1) → atKey xs x = none)
  | [], _, _, _ => ⟨fun h => by simp at h, fun _ => rfl⟩
  | (y, q, v) :: r, n, x, h => by
    have ih := atKey_nth (xs := r) (n := n + 1) (x := x) fun i z q' u hz => by
      obtain ⟨t, e⟩ := h (i + 1) z q' u (by simpa using hz)
      exact ⟨t, by rw [e]; congr 2; omega⟩
    by_cases e : y = x
    · subst e
      refine ⟨fun _ => ?_, fun hn => by simp at hn⟩
      obtain ⟨t, ev⟩ := h 0 y q v (by simp)
      exact ⟨q, t, by simp [atKey, ev, idx]⟩
    · have e2 : atKey ((y, q, v) :: r) x = atKey r x := by simp [atKey, e]
      rw [e2]
      refine ⟨fun hm => ?_, fun hn => ih.2 (by simp at hn ⊢; exact hn.2)⟩
      have hm' : x ∈ r.map (·.1) := by
        rw [List.map_cons, List.mem_cons] at hm
        rcases hm with hm | hm
        · exact absurd hm.symm e
        · exact hm
      obtain ⟨q', t, et⟩ := ih.1 hm'
      refine ⟨q', t, ?_⟩
      rw [et, List.map_cons, idx, if_neg e]
      congr 4; omega

section
variable {w : World} {A : Around} {E : Value → Shared → Prop} {s : Shared} {h₀ h : Heap} {L d : Addr} {m : Str → Option Value} {news : List (Addr × Obj)} {o : Obj} {qs : List Addr} {ks : List (List Int)}

theorem tupKey_of {q : Addr} {a r : Int} {t u : Tok} (N : News h₀ L h news) (hm : (q, tupObj [.int a t, .int r u]) ∈ news) : IsTupleKey (intKind prg w) h [a, r] q :=
  ⟨_, _, _, (N _ hm).1, rfl, rfl, ItemsAre.cons (intKind_is _ w a t) (ItemsAre.cons (intKind_is _ w r u) ItemsAre.nil)⟩
theorem keys_of {xs : List (List Int × Addr × Value)} (N : News h₀ L h news) (hk : KeysAt news (xs.map (·.2.1)) (xs.map (·.1))) : ∀ x ∈ xs, (tupleKind (intKind prg w)).is h x.1 x.2.1 := by
  intro x hx
  obtain ⟨i, hi⟩ := List.mem_iff_getElem?.mp hx
  obtain ⟨a, r, t, u, e, hm⟩ := hk.2 i x.2.1 x.1 (by rw [List.getElem?_map, hi]; rfl) (by rw [List.getElem?_map, hi]; rfl)
  rw [e]
  exact tupKey_of N hm
theorem FunDict.dict (N : News h₀ L h news) (hm : (d, o) ∈ news) (hd : FunDict w o qs ks) (hk : KeysAt news qs ks) : ∃ xs, h.DictOfH (tupleKind (intKind prg w)) d xs ∧ xs.map (·.1) = ks ∧ xs.map (·.2.1) = qs ∧
    (∀ (i : Nat) (k : List Int) (q : Addr) (v : Value), xs[i]? = some (k, q, v) → ∃ t, v = .int (i : Int) t) := by
  obtain ⟨hc, es, ep, xs, hdat, he, e1, e2, e3, hn⟩ := hd
  subst e1 e2
  exact ⟨xs, ⟨o, es, ep, (N _ hm).1, hc, hdat, he, keys_of N hk, hn⟩, rfl, rfl, e3⟩

theorem fun_get {q : Addr} {a r : Int} {t u v : Tok} {Q : Value → Shared → Prop} (hu : A.units + 1 < cLine) (N : News h₀ L s.heap news) (hm : (d, o) ∈ news) (hd : FunDict w o qs ks) (hk : KeysAt news qs ks) (hq : (q, tupObj [.int a t, .int r u]) ∈ news) (lo : (d == sysModules) = false)
    (h1 : [a, r] ∈ ks → ∀ t', Q (.int ((idx ks [a, r] : Nat) : Int) t') { s with toks := s.toks + 3 }) (h2 : [a, r] ∉ ks → Q (.int (-1) v) { s with toks := s.toks + 3 }) :
    wpAny (model Challenge.rw_ok0005_01.row.prog w) A (call (.builtin "dict.get") [.ref d, .ref q, .int (-1) v]) Q E s := by
  obtain ⟨xs, D, e1, e2, e3⟩ := hd.dict N hm hk
  refine call_meetsIn PySem.F.slot_dict_get D.typeIs PySem.F.entry_dict_get (PySem.F.args_dict_get_3 _ _ _) (meetsH_dict_get_default (tupleKind (intKind prg w)) d q lo (.int (-1) v)) ⟨tupleKind_room_in1 hu, [a, r], xs, tupKey_of N hq, D, ?_⟩
  have z := atKey_nth (xs := xs) (n := 0) (x := [a, r]) fun i y q v hv => by simpa using e3 i y q v hv
  rw [e1] at z
  by_cases hx : [a, r] ∈ ks
  · obtain ⟨q', t', e⟩ := z.1 hx
    rw [e, Nat.zero_add]
    exact h1 hx t'
  · rw [z.2 hx]
    exact h2 hx

theorem fun_set {q : Addr} {a r : Int} {t u v : Tok} {Q : Unit → Shared → Prop} {g : Obj → List (Addr × Obj)} (hu : A.units + 1 < cLine) (F : Fr h₀ L s.heap m) (N : News h₀ L s.heap news) (U : UpdF d o news g) (hd : FunDict w o qs ks) (hk : KeysAt news qs ks)
    (hq : (q, tupObj [.int a t, .int r u]) ∈ news) (hx : [a, r] ∉ ks) (hsz : ks.length ≤ 1000)
    (h : ∀ h' o', Fr h₀ L h' m → News h₀ L h' (g o') → FunDict w o' (qs ++ [q]) (ks ++ [[a, r]]) → Q () { s with heap := h', toks := s.toks + 3 }) :
    wpAny (model Challenge.rw_ok0005_01.row.prog w) A (setItem (.ref d) (.ref q) (.int ((ks.length : Nat) : Int) v)) Q E s := by
  obtain ⟨pre, post, rfl, hg, b1, b2⟩ := U.split
  have hm : (d, o) ∈ pre ++ (d, o) :: post := List.mem_append_right _ (.head _)
  obtain ⟨xs, D, e1, e2, e3⟩ := hd.dict N hm hk
  have hz := N (d, o) hm
  have hl : xs.length = ks.length := by rw [← e1, List.length_map]
  have hno : atKey xs [a, r] = none := by
    have z := atKey_nth (xs := xs) (n := 0) (x := [a, r]) fun i y q v hv => by simpa using e3 i y q v hv
    exact z.2 (e1 ▸ hx)
  refine wpAny_setItem_heap (hsz := by rw [sizeLine_eq]; omega) (knd := tupleKind (intKind prg w)) (tupleKind_room_in1 hu) (tupKey_of N hq) D fun h' hm' hs => ?_
  rw [storedH_new hno] at hm'
  obtain ⟨o', es', ep', ho', hc', hd', he', _, hn'⟩ := hm'
  refine h h' o' (F.change hs hz.2.1 hz.2.2) (hg o' ▸ N.setIn b1 b2 hs ho') ⟨hc', es', ep', _, hd', he', by rw [List.map_append, e1]; rfl, by rw [List.map_append, e2]; rfl, fun i k q' v' hv => ?_, ?_⟩
  · by_cases hi : i < xs.length
    · rw [List.getElem?_append_left hi] at hv
      exact e3 i k q' v' hv
    · rw [List.getElem?_append_right (Nat.le_of_not_lt hi)] at hv
      have e0 : i - xs.length = 0 := by
        cases e : i - xs.length with
        | zero => rfl
        | succ n => rw [e] at hv; simp at hv
      rw [e0] at hv
      simp at hv
      exact ⟨v, by rw [← hv.2.2]; congr 2; omega⟩
  · rw [List.map_append, e1] at hn'
    exact hn'
theorem off_cons {p : Addr × Obj} {rest : List (Addr × Obj)} {adr : List Addr} (h1 : ∀ b ∈ adr, p.1 ≠ b) (h2 : OwnOff rest adr) : OwnOff (p :: rest) adr := by
  intro q hq b hb
  rcases List.mem_cons.mp hq with rfl | hq
  · exact h1 b hb
  · exact h2 q hq b hb
theorem off_app {r1 r2 : List (Addr × Obj)} {adr : List Addr} (h1 : OwnOff r1 adr) (h2 : OwnOff r2 adr) : OwnOff (r1 ++ r2) adr := by
  intro q hq b hb
  rcases List.mem_append.mp hq with hq | hq
  · exact h1 q hq b hb
  · exact h2 q hq b hb
theorem off_left {r : List (Addr × Obj)} {a1 a2 : List Addr} (h : OwnOff r (a1 ++ a2)) : OwnOff r a1 := fun q hq b hb => h q hq b (List.mem_append_left _ hb)
theorem off_right {r : List (Addr × Obj)} {a1 a2 : List Addr} (h : OwnOff r (a1 ++ a2)) : OwnOff r a2 := fun q hq b hb => h q hq b (List.mem_append_right _ hb)
theorem map_addU {ns : List Str} {ps : List (Str × Int)} {p : Str × Int} (hp : p.1 ∈ ns) : addU (ps.map (fkey ns)) (fkey ns p) = (addU ps p).map (fkey ns) := by
  by_cases h : p ∈ ps
  · rw [addU_old h, addU_old ((mem_fkey hp).mpr h)]
  · rw [addU_new h, addU_new fun q => h ((mem_fkey hp).mp q), List.map_append]; rfl
theorem off_two {r : List (Addr × Obj)} {a b : Addr} {c : List Addr} (h : OwnOff r (a :: b :: c)) : OwnOff r [a, b] := fun q hq x hx => h q hq x (by
  simp only [List.mem_cons, List.not_mem_nil, or_false] at hx ⊢
  rcases hx with h | h
  · exact .inl h
  · exact .inr (.inl h))
theorem PairsAt.nil {l : List (Addr × Obj)} : PairsAt l [] [] := ⟨rfl, fun i q p h => by simp at h⟩
theorem PairsAt.cons {l : List (Addr × Obj)} {qs : List Addr} {ps : List (Str × Int)} {q : Addr} {x : Str} {r : Int} {t u : Tok} (m : (q, tupObj [.str x t, .int r u]) ∈ l) (h : PairsAt l qs ps) : PairsAt l (q :: qs) ((x, r) :: ps) := by
  refine ⟨by simp [h.1], fun i q' p hq hp => ?_⟩
  cases i with
  | zero => simp at hq hp; subst hq hp; exact ⟨t, u, m⟩
  | succ i => rw [List.getElem?_cons_succ] at hq hp; exact h.2 i q' p hq hp
theorem off_consN {a : Addr} {o : Obj} {r l : List (Addr × Obj)} (h : AllLt a l) (h2 : OwnOff r (l.map (·.1))) : OwnOff ((a, o) :: r) (l.map (·.1)) :=
  off_cons (fun b hb => by
    obtain ⟨z, hz, rfl⟩ := List.mem_map.mp hb
    exact Nat.ne_of_gt (kst_ltOf h z hz)) h2
theorem lt_comm {q : Addr} {r l : List (Addr × Obj)} (h : AllLt q (r ++ l)) : ∀ p ∈ l ++ r, @LT.lt Nat _ p.1 q := fun p hp => kst_ltOf h p (by
  rcases List.mem_append.mp hp with h | h
  · exact List.mem_append_right _ h
  · exact List.mem_append_left _ h)
theorem news_comm {q : Addr × Obj} {r l : List (Addr × Obj)} (N : News h₀ L h (q :: (r ++ l))) : News h₀ L h (q :: (l ++ r)) := fun p hp => N p (by
  rcases List.mem_cons.mp hp with h | h
  · rw [h]; exact List.mem_cons_self
  · refine List.mem_cons_of_mem _ ?_
    rcases List.mem_append.mp h with h | h
    · exact List.mem_append_right _ h
    · exact List.mem_append_left _ h)
theorem off_six {r : List (Addr × Obj)} {a1 a2 a3 a4 a5 a6 : Addr} {l : List Addr} (h : OwnOff r (a1 :: a2 :: a3 :: a4 :: a5 :: a6 :: l)) : OwnOff r [a1, a2, a3, a4, a5, a6] := fun q hq x hx => h q hq x (by
  have : x ∈ [a1, a2, a3, a4, a5, a6] ++ l := List.mem_append_left _ hx
  exact this)
theorem off_above {q t d tx an fs fn : Addr} {o : Obj} (h1 : @LT.lt Nat _ d t) (h2 : @LT.lt Nat _ t tx) (h3 : @LT.lt Nat _ tx an) (h4 : @LT.lt Nat _ an fs) (h5 : @LT.lt Nat _ fs fn) (h6 : @LT.lt Nat _ fn q) : ∀ b ∈ [t, d, tx, an, fs, fn], (q, o).1 ≠ b := by
  intro b hb
  simp only [List.mem_cons, List.not_mem_nil, or_false] at hb
  have : @LT.lt Nat _ b q := by rcases hb with h | h | h | h | h | h <;> subst h <;> omega
  exact Nat.ne_of_gt this
theorem off_below {l : List (Addr × Obj)} {t d tx an fs fn : Addr} (h1 : @LT.lt Nat _ d t) (h2 : @LT.lt Nat _ t tx) (h3 : @LT.lt Nat _ tx an) (h4 : @LT.lt Nat _ an fs) (h5 : @LT.lt Nat _ fs fn) (h6 : ∀ p ∈ l, @LT.lt Nat _ p.1 d) : OwnOff l [t, d, tx, an, fs, fn] := by
  intro p hp b hb
  simp only [List.mem_cons, List.not_mem_nil, or_false] at hb
  have h7 := h6 p hp
  have : @LT.lt Nat _ p.1 b := by rcases hb with h | h | h | h | h | h <;> subst h <;> omega
  exact Nat.ne_of_lt this
theorem take_addU {α : Type} [DecidableEq α] {l : List α} {i : Nat} {y : α} (hn : l.Nodup) (h : l[i]? = some y) : addU (l.take i) y = l.take (i + 1) := by
  have h1 : y ∉ l.take i := by
    intro hm
    obtain ⟨j, hj⟩ := List.mem_iff_getElem?.mp hm
    rw [List.getElem?_take] at hj
    split at hj
    · rename_i hlt
      have e1 := idx_nodup hn hj
      have e2 := idx_nodup hn h
      omega
    · cases hj
  rw [addU_new h1, List.take_add_one, h]; rfl
theorem atomDict_nil {w : World} {o : Obj} (h : o.IsDictOf (strKind prg w) []) : AtomDict w o [] := ⟨[], h, rfl, fun i x v hv => by simp at hv⟩
theorem funDict_nil {w : World} {o : Obj} (h : o.IsDictOf (intKind prg w) []) : FunDict w o [] [] := by
  obtain ⟨es, ep, hc, hd, _, hp, _⟩ := h
  have he : es.toList = [] := List.length_eq_zero_iff.mp hp.length
  exact ⟨hc, es, ep, [], hd, he, rfl, rfl, fun i k q v hv => by simp at hv, List.nodup_nil⟩
theorem mem_p1 {α : Type} {p t d tx an fs fn q : α} {l : List α} (h : p ∈ t :: d :: tx :: an :: fs :: fn :: q :: l) : p ∈ q :: fn :: fs :: an :: tx :: t :: d :: l := by
  simp only [List.mem_cons] at h ⊢; grind
theorem mem_p2 {α : Type} {p t d tx an fs fn q q2 : α} {l l2 : List α} (h : p ∈ t :: d :: tx :: an :: fs :: fn :: q2 :: q :: (l ++ l2)) : p ∈ q2 :: ((t :: d :: tx :: an :: fs :: fn :: q :: l) ++ l2) := by
  simp only [List.mem_cons, List.mem_append, List.cons_append] at h ⊢; grind
theorem mem_p3 {α : Type} {p q q2 : α} {l l2 l3 l4 : List α} (h : p ∈ (q2 :: q :: (l ++ l2)) ++ l3) : p ∈ q2 :: q :: (l ++ l2 ++ l3 ++ l4) := by
  simp only [List.mem_cons, List.mem_append, List.cons_append] at h ⊢; grind
theorem mem_p4 {α : Type} {p t d tx an fs fn q q2 : α} {l l2 l3 l4 l5 : List α} (h : p ∈ t :: d :: tx :: an :: fs :: fn :: ((q2 :: q :: (l ++ l2)) ++ (l3 ++ l5))) : p ∈ t :: d :: tx :: an :: fs :: fn :: ((q2 :: q :: (l ++ l2 ++ l3 ++ l4)) ++ l5) := by
  simp only [List.mem_cons, List.mem_append, List.cons_append] at h ⊢; grind
theorem mem_p5 {α : Type} {p t d tx an fs fn q q2 : α} {l l2 l3 l4 l5 : List α} (h : p ∈ l4) : p ∈ t :: d :: tx :: an :: fs :: fn :: ((q2 :: q :: (l ++ l2 ++ l3 ++ l4)) ++ l5) := by
  simp only [List.mem_cons, List.mem_append, List.cons_append]; simp [h]
theorem off_sub {r : List (Addr × Obj)} {a1 a2 : List Addr} (h : OwnOff r a1) (hs : ∀ b ∈ a2, b ∈ a1) : OwnOff r a2 := fun q hq b hb => h q hq b (hs b hb)
theorem off_comm {r r2 : List (Addr × Obj)} (h : OwnOff r (r2.map (·.1))) : OwnOff r2 (r.map (·.1)) := fun p hp b hb e => by
  obtain ⟨z, hz, rfl⟩ := List.mem_map.mp hb
  exact h z hz p.1 (List.mem_map.mpr ⟨p, hp, rfl⟩) e.symm
theorem off_grow {own add' : List (Addr × Obj)} {a1 a2 a3 : List Addr} (h1 : OwnOff own a1) (h2 : OwnOff add' a2) (hs : ∀ p ∈ own, p.1 ∈ a2) (h3 : ∀ b ∈ a3, b ∈ a1 ∨ b ∈ add'.map (·.1)) : OwnOff own a3 := by
  intro p hp b hb
  rcases h3 b hb with h | h
  · exact h1 p hp b h
  · obtain ⟨z, hz, rfl⟩ := List.mem_map.mp h
    exact fun e => h2 z hz p.1 (hs p hp) e.symm
theorem map_p6 {b t d tx an fs fn q q2 : Addr} {e1 e2 e3 e4 e5 e6 e7 e8 f1 f2 f3 f4 f5 f6 : Obj} {l l2 l3 l5 : List (Addr × Obj)} (h : b ∈ List.map (·.1) ((t, f1) :: (d, f2) :: (tx, f3) :: (an, f4) :: (fs, f5) :: (fn, f6) :: (((q2, e7) :: (q, e8) :: (l ++ l2)) ++ (l3 ++ l5)))) :
    b ∈ List.map (·.1) ((t, e1) :: (d, e2) :: (tx, e3) :: (an, e4) :: (fs, e5) :: (fn, e6) :: (((q2, e7) :: (q, e8) :: (l ++ l2)) ++ l3)) ∨ b ∈ l5.map (·.1) := by
  simp only [List.map_cons, List.map_append, List.mem_cons, List.mem_append, List.cons_append] at h ⊢
  grind
theorem own_p7 {p q q2 : Addr × Obj} {a1 : List Addr} {l l2 l3 own : List (Addr × Obj)} (h : p ∈ own) : p.1 ∈ a1 ++ (q2 :: q :: (l ++ l2 ++ l3 ++ own)).map (·.1) := by
  refine List.mem_append_right _ (List.mem_map.mpr ⟨p, ?_, rfl⟩)
  simp [h]
theorem map_p8 {b : Addr} {a1 : List Addr} {q q2 : Addr × Obj} {l l2 l3 own : List (Addr × Obj)} (h : b ∈ a1 ++ (q2 :: q :: (l ++ l2)).map (·.1)) : b ∈ a1 ++ (q2 :: q :: (l ++ l2 ++ l3 ++ own)).map (·.1) := by
  simp only [List.map_cons, List.map_append, List.mem_cons, List.mem_append] at h ⊢
  grind
theorem mem_p9 {α : Type} {p q q2 : α} {l l2 l3 : List α} (h : p ∈ (q2 :: q :: (l ++ l2)) ++ l3) : p ∈ l ++ (q2 :: q :: (l2 ++ l3)) := by
  simp only [List.mem_cons, List.mem_append, List.cons_append] at h ⊢; grind
theorem mem_p10 {α : Type} {p t d tx an fs fn q q2 : α} {l l2 l3 : List α} (h : p ∈ t :: d :: tx :: an :: fs :: fn :: (l ++ (q2 :: q :: (l2 ++ l3)))) : p ∈ t :: d :: tx :: an :: fs :: fn :: ((q2 :: q :: (l ++ l2)) ++ l3) := by
  simp only [List.mem_cons, List.mem_append, List.cons_append] at h ⊢; grind
theorem map_p11 {t d tx an fs fn q : Addr × Obj} {l : List (Addr × Obj)} {x : Addr} (h : x ∈ l.map (·.1)) : x ∈ List.map (·.1) (t :: d :: tx :: an :: fs :: fn :: q :: l) := by
  simp only [List.map_cons, List.mem_cons]; simp [h]
theorem map_p12 {a1 : List Addr} {q q2 : Addr × Obj} {l l2 : List (Addr × Obj)} {x : Addr} (h : x ∈ l.map (·.1)) : x ∈ a1 ++ List.map (·.1) (q2 :: q :: (l ++ l2)) := by
  simp only [List.map_cons, List.map_append, List.mem_append, List.mem_cons]; simp [h]
theorem off_nil {adr : List Addr} : OwnOff [] adr := fun _ hp => nomatch hp
theorem off_new {q t d tx an fs fn : Addr} {o : Obj} {rest : List (Addr × Obj)} (l : @LT.lt Nat _ t q ∧ @LT.lt Nat _ d q ∧ @LT.lt Nat _ tx q ∧ @LT.lt Nat _ an q ∧ @LT.lt Nat _ fs q ∧ @LT.lt Nat _ fn q ∧ AllLt q rest) :
    OwnOff [(q, o)] ([t, d, tx, an, fs, fn] ++ rest.map (·.1)) := by
  obtain ⟨l1, l2, l3, l4, l5, l6, l7⟩ := l
  intro p hp b hb
  rw [List.mem_singleton.mp hp]
  rcases List.mem_append.mp hb with hb | hb
  · simp only [List.mem_cons, List.not_mem_nil, or_false] at hb
    rcases hb with rfl | rfl | rfl | rfl | rfl | rfl
    · exact Nat.ne_of_gt l1
    · exact Nat.ne_of_gt l2
    · exact Nat.ne_of_gt l3
    · exact Nat.ne_of_gt l4
    · exact Nat.ne_of_gt l5
    · exact Nat.ne_of_gt l6
  · obtain ⟨z, hz, rfl⟩ := List.mem_map.mp hb
    exact Nat.ne_of_gt (kst_ltOf l7 z hz)
theorem FunDict.exact (hd : FunDict w o qs ks) : o.ExactDict := hd.1
end
end Mine

end
section
local macro_rules | `(tactic| walk_at "no such key") => `(tactic| fail)
open PySem PySem.W PyProof.Rows PySem.Spec PySem.Calls
namespace Mine

local macro_rules | `(tactic| walk_at "getMethod ref") => `(tactic| (k_here; (with_reducible show wpAny _ _ (getMethod (Value.ref _) (PySem.Str.ofString "get") _) _ _ _); (rename FunDict _ _ _ _ => hAD9); k_dflt (refine' dict_getMethod ?N ?m (FunDict.exact hAD9) ?_; (case N => k_asm); (case m => k_mem))))
local macro_rules | `(tactic| walk_at "call builtin:dict.get") => `(tactic| (k_here; (show wpAny _ _ (call (Value.builtin _) [Value.ref _, Value.ref _, Value.int _ _]) _ _ _); (rename FunDict _ _ _ _ => hAD9); (rename KeysAt _ _ _ => hKA9); k_dflt (refine' fun_get ?hu ?N ?m hAD9 (KeysAt.mono hKA9 ?sub) ?q ?lo (fun hIn t9 => ?_) (fun hOut => ?_); (case hu => ktr_units); (case N => k_asm); (case m | q => k_mem); (case lo => k_asm); (case sub => exact fun p hp => by simp only [List.mem_cons]; simp [hp]))))
local macro_rules | `(tactic| walk_at "call builtin:len") => `(tactic| (k_here; (show wpAny _ _ (call (Value.builtin _) [Value.ref _]) _ _ _); k_dflt (refine' lst_len ?N ?m ?S ?lo ?_; (case N => k_asm); (case m => k_mem); (case S | lo => k_asm))))
local macro_rules | `(tactic| walk_at "call builtin:list.append") => `(tactic| (k_here; (show wpAny _ _ (call (Value.builtin _) [Value.ref _, _]) _ _ _); k_dflt (refine' lst_append ?F ?N ?U ?S ?z ?_; (case F | N => k_asm); (case U => k_upd); (case S | z => k_asm)); intro h' F' N'; (try k_sweep)))
local macro_rules | `(tactic| walk_at "setItem ref ref") => `(tactic| (k_here; (rename FunDict _ _ _ _ => hAD9); (rename KeysAt _ _ _ => hKA9); k_dflt (refine' fun_set ?hu ?F ?N ?U hAD9 (KeysAt.mono hKA9 ?sub) ?q ?hx ?lo ?_; (case hu => ktr_units); (case F | N => k_asm); (case U => k_updF); (case q => k_mem); (case hx | lo => k_asm); (case sub => exact fun p hp => by simp only [List.mem_cons]; simp [hp])); intro h' o' F' N' hd'; (try dsimp only at N'); (try k_sweep)))

set_option maxRecDepth 100000 in
set_option maxHeartbeats 8000000 in
theorem functor_ctr {w : World} {mean : ExcName → Option Value} {mg mb : Str → Option Value}
    {dp un : Nat} {gd : Option (List Code)} {cn : Str} {cs : Scope} {a : Addr} {ccd : Value} {cl : List (Str × Addr)} {outer : List Env} {A₀ : Around} {base h₀ : Heap} {L : Addr} {m : Str → Option Value} {s : Shared} {Q E : Value → Shared → Prop}
    {t d tx an fs fn : Addr} {c1 c2 c3 c4 : Int} {k1 k2 k3 k4 : Tok} {nd nv nu : Nat} {vs us : List Value} {oan ofn : Obj} {qs : List Addr} {ks : List (List Int)} {x r : Int} {ta tr : Tok} {rest bs : List (Addr × Obj)}
    (B : Below A₀ base outer h₀) (F : Fr h₀ L s.heap m) (X : (hd.heap_39 w.params).In h₀) (N : News h₀ L s.heap ((t, instObj 115 d) :: (d, dictOf [⟨c1, .str (Str.ofString "texts") k1, .ref tx⟩, ⟨c2, .str (Str.ofString "atom_numbers") k2, .ref an⟩, ⟨c3, .str (Str.ofString "functors") k3, .ref fs⟩, ⟨c4, .str (Str.ofString "functor_numbers") k4, .ref fn⟩] nd) :: (tx, listOf vs.toArray nv) :: (an, oan) :: (fs, listOf us.toArray nu) :: (fn, ofn) :: rest))
    (T : Top hd.view_39 (looseW hd.view_39 []) mean mg mb h₀) (hk : cs.kind = .function) (hdp : dp + 10 < recursionLimit) (hun : un + 100 < cLine)
    (o1 : @LT.lt Nat _ d t) (o2 : @LT.lt Nat _ t tx) (o3 : @LT.lt Nat _ tx an) (o4 : @LT.lt Nat _ an fs) (o5 : @LT.lt Nat _ fs fn)
    (hoff : OwnOff rest [t, d, tx, an, fs, fn]) (lo : (fn == sysModules) = false) (hus : us = qs.map Value.ref) (hul : us.length = ks.length) (hF : FunDict w ofn qs ks) (hbs : ∀ p ∈ bs, p ∈ rest) (hK : KeysAt bs qs ks) (hlen : ks.length ≤ 1000)
    (hret : ∀ (tv : Tok) (qs' : List Addr) (nu' : Nat) (ofn' : Obj) (add : List (Addr × Obj)) (h' : Heap) (tk' : Nat), OwnOff add ([t, d, tx, an, fs, fn] ++ rest.map (·.1)) → FunDict w ofn' qs' (addU ks [x, r]) → KeysAt (bs ++ add) qs' (addU ks [x, r]) → Fr h₀ L h' m →
      News h₀ L h' ((t, instObj 115 d) :: (d, dictOf [⟨c1, .str (Str.ofString "texts") k1, .ref tx⟩, ⟨c2, .str (Str.ofString "atom_numbers") k2, .ref an⟩, ⟨c3, .str (Str.ofString "functors") k3, .ref fs⟩, ⟨c4, .str (Str.ofString "functor_numbers") k4, .ref fn⟩] nd) :: (tx, listOf vs.toArray nv) :: (an, oan) :: (fs, listOf (qs'.map Value.ref).toArray nu') :: (fn, ofn') :: (rest ++ add)) →
      Q (.int ((idx ks [x, r] : Nat) : Int) tv) { s with heap := h', toks := tk' }) :
    wpAny (model Challenge.rw_ok0005_01.row.prog w) (ktrTop dp un gd cn cs L a ccd cl outer) (call (.ref 63) [.ref t, .int x ta, .int r tr]) Q E s := by

  subst hus
  have hKr := KeysAt.mono hK hbs
  revert X; k_fill; intro X
  refine wpAny_call ?_
  k_dflt ktr_enter
  k_steps
  · have hIn : [x, r] ∈ ks := by assumption
    refine hret _ qs nu ofn [] _ _ off_nil (by rw [addU_old hIn]; assumption) (by rw [addU_old hIn, List.append_nil]; exact hK) (by assumption) (kst_newsOf (by assumption) ?_)
    intro p hp
    rw [List.append_nil] at hp
    exact List.mem_cons_of_mem _ hp
  · have hOut : [x, r] ∉ ks := by assumption
    have e := idx_new hOut
    rw [← e]
    (rename FunDict _ _ _ (ks ++ _) => hd'); (rename News h₀ L _ _ => kN)
    refine hret _ _ (nu + 1) _ [(_, tupObj [.int x ta, .int r tr])] _ _ (off_new (by assumption)) (by rw [addU_new hOut]; exact hd') (by rw [addU_new hOut]; exact KeysAt.snoc (KeysAt.mono hK fun p hp => List.mem_append_left _ hp) (List.mem_append_right _ (List.mem_singleton.mpr rfl))) (by assumption) (kst_newsOf kN ?_)
    intro p hp
    rw [List.map_append] at hp
    simp only [List.mem_cons, List.mem_append, List.not_mem_nil, or_false, List.map_cons, List.map_nil] at hp ⊢
    grind
end Mine


end
section
open PySem PySem.W PyProof.Rows PySem.Spec PySem.Calls
namespace Mine

local macro_rules | `(tactic| walk_at "call ref") => `(tactic| (k_here; (with_reducible show wpAny _ _ (call (Value.ref 49) [Value.ref _, Value.str _ _]) _ _ _); k_dflt (refine' atom_ctr ?B ?F ?X ?N ?T ?hk ?hdp ?hun ?o1 ?o2 ?o3 ?o4 ?o5 ?hoff ?lo ?hS ?hA ?hlen (fun tv' vs' nv' oan' h' tk' hS' hA' F' N' => ?_); (case B | F | X | T | N => k_asm); (case hk => exact rfl); (case hdp => ktr_room); (case hun => ktr_units); (case o1 | o2 | o3 | o4 | o5 | hoff | lo | hS | hA | hlen => k_asm); (try dsimp only); (try k_fold))))
local macro_rules | `(tactic| walk_at "call ref") => `(tactic| (k_here; (with_reducible show wpAny _ _ (call (Value.ref 63) [Value.ref _, Value.int _ _, Value.int _ _]) _ _ _); k_dflt (refine' functor_ctr ?B ?F ?X ?N ?T ?hk ?hdp ?hun ?o1 ?o2 ?o3 ?o4 ?o5 ?hoff ?lo ?hus ?hul ?hF ?hbs ?hK ?hlen (fun tv' qs' nu' ofn' add' h' tk' hadd' hF' hK' F' N' => ?_); (case B | F | X | T | N => k_asm); (case hk => exact rfl); (case hdp => ktr_room); (case hun => ktr_units); (case o1 | o2 | o3 | o4 | o5 | hoff | lo | hF | hK | hbs | hus | hul | hlen => k_asm); (try dsimp only); (try k_fold))))

set_option maxRecDepth 100000 in
set_option maxHeartbeats 8000000 in
theorem func_ctr {w : World} {mean : ExcName → Option Value} {mg mb : Str → Option Value}
    {dp un : Nat} {gd : Option (List Code)} {cn : Str} {cs : Scope} {a : Addr} {ccd : Value} {cl : List (Str × Addr)} {outer : List Env} {A₀ : Around} {base h₀ : Heap} {L : Addr} {m : Str → Option Value} {s : Shared} {Q E : Value → Shared → Prop}
    {t d tx an fs fn : Addr} {c1 c2 c3 c4 : Int} {k1 k2 k3 k4 : Tok} {nd nv nu : Nat} {vs us : List Value} {oan ofn : Obj} {qs : List Addr} {ns : List Str} {ps : List (Str × Int)} {x : Str} {r : Int} {ta tr : Tok} {rest bs : List (Addr × Obj)}
    (B : Below A₀ base outer h₀) (F : Fr h₀ L s.heap m) (X : (hd.heap_39 w.params).In h₀) (N : News h₀ L s.heap ((t, instObj 115 d) :: (d, dictOf [⟨c1, .str (Str.ofString "texts") k1, .ref tx⟩, ⟨c2, .str (Str.ofString "atom_numbers") k2, .ref an⟩, ⟨c3, .str (Str.ofString "functors") k3, .ref fs⟩, ⟨c4, .str (Str.ofString "functor_numbers") k4, .ref fn⟩] nd) :: (tx, listOf vs.toArray nv) :: (an, oan) :: (fs, listOf us.toArray nu) :: (fn, ofn) :: rest))
    (T : Top hd.view_39 (looseW hd.view_39 []) mean mg mb h₀) (hk : cs.kind = .function) (hdp : dp + 20 < recursionLimit) (hun : un + 200 < cLine)
    (o1 : @LT.lt Nat _ d t) (o2 : @LT.lt Nat _ t tx) (o3 : @LT.lt Nat _ tx an) (o4 : @LT.lt Nat _ an fs) (o5 : @LT.lt Nat _ fs fn)
    (hoff : OwnOff rest [t, d, tx, an, fs, fn]) (lo1 : (an == sysModules) = false) (lo2 : (fn == sysModules) = false) (hS : StrsAre vs ns) (hA : AtomDict w oan ns) (hlen1 : ns.length ≤ 1000) (hus : us = qs.map Value.ref) (hF : FunDict w ofn qs (ps.map (fkey ns))) (hbs : ∀ p ∈ bs, p ∈ rest) (hK : KeysAt bs qs (ps.map (fkey ns))) (hlen2 : ps.length ≤ 1000) (hsub : ∀ p ∈ ps, p.1 ∈ ns)
    (hret : ∀ (tv : Tok) (vs' : List Value) (nv' : Nat) (oan' : Obj) (qs' : List Addr) (nu' : Nat) (ofn' : Obj) (add : List (Addr × Obj)) (h' : Heap) (tk' : Nat), StrsAre vs' (addU ns x) → AtomDict w oan' (addU ns x) → OwnOff add ([t, d, tx, an, fs, fn] ++ rest.map (·.1)) →
      FunDict w ofn' qs' ((addU ps (x, r)).map (fkey (addU ns x))) → KeysAt (bs ++ add) qs' ((addU ps (x, r)).map (fkey (addU ns x))) → Fr h₀ L h' m →
      News h₀ L h' ((t, instObj 115 d) :: (d, dictOf [⟨c1, .str (Str.ofString "texts") k1, .ref tx⟩, ⟨c2, .str (Str.ofString "atom_numbers") k2, .ref an⟩, ⟨c3, .str (Str.ofString "functors") k3, .ref fs⟩, ⟨c4, .str (Str.ofString "functor_numbers") k4, .ref fn⟩] nd) :: (tx, listOf vs'.toArray nv') :: (an, oan') :: (fs, listOf (qs'.map Value.ref).toArray nu') :: (fn, ofn') :: (rest ++ add)) →
      Q (.int ((idx ps (x, r) : Nat) : Int) tv) { s with heap := h', toks := tk' }) :
    wpAny (model Challenge.rw_ok0005_01.row.prog w) (ktrTop dp un gd cn cs L a ccd cl outer) (call (.ref 70) [.ref t, .str x ta, .int r tr]) Q E s := by

  have hul : us.length = (ps.map (fkey ns)).length := by rw [hus, List.length_map]; exact hK.1
  have hlen3 : (ps.map (fkey ns)).length ≤ 1000 := by rw [List.length_map]; exact hlen2
  revert X; k_fill; intro X
  refine wpAny_call ?_
  k_dflt ktr_enter
  k_steps
  have hx : x ∈ addU ns x := mem_addU ns x
  have e1 : ps.map (fkey ns) = ps.map (fkey (addU ns x)) := (map_fkey_addU hsub).symm
  have e2 : ([((idx ns x : Nat) : Int), r] : List Int) = fkey (addU ns x) (x, r) := by unfold fkey; rw [idx_addU]
  (rename FunDict _ _ _ (addU _ _) => hF9); (rename KeysAt _ _ (addU _ _) => hK9)
  rw [e1, e2] at hF9 hK9 ⊢
  rw [map_addU (p := (x, r)) hx] at hF9 hK9
  rw [idx_fkey (p := (x, r)) hx]
  exact hret _ _ _ _ _ _ _ _ _ _ (by assumption) (by assumption) (by assumption) hF9 hK9 (by assumption) (by assumption)
end Mine


end
section
open PySem PySem.W PyProof.Rows PySem.Spec PySem.Calls
namespace Mine

local macro_rules | `(tactic| k_mem) => `(tactic| first | assumption | (refine List.mem_cons_of_mem _ ?_; k_mem))
local macro_rules | `(tactic| walk_at "getMethod ref") => `(tactic| (k_here; (with_reducible show wpAny _ _ (getMethod (Value.ref _) (PySem.Str.ofString "get") _) _ _ _); (rename AtomDict _ _ _ => hAD9); k_dflt (refine' dict_getMethod ?N ?m (AtomDict.exact hAD9) ?_; (case N => k_asm); (case m => k_mem))))
local macro_rules | `(tactic| walk_at "getMethod ref") => `(tactic| (k_here; (with_reducible show wpAny _ _ (getMethod (Value.ref _) (PySem.Str.ofString "get") _) _ _ _); (rename FunDict _ _ _ _ => hAD9); k_dflt (refine' dict_getMethod ?N ?m (FunDict.exact hAD9) ?_; (case N => k_asm); (case m => k_mem))))
local macro_rules | `(tactic| walk_at "call builtin:dict.get") => `(tactic| (k_here; (with_reducible show wpAny _ _ (call (Value.builtin _) [Value.ref _, Value.str _ _, Value.int _ _]) _ _ _); (rename AtomDict _ _ _ => hAD9); k_dflt (refine' atom_get ?N ?m hAD9 ?lo (fun hIn t9 => ?_) (fun hOut => ?_); (case N => k_asm); (case m => k_mem); (case lo => k_asm))))
local macro_rules | `(tactic| walk_at "call builtin:dict.get") => `(tactic| (k_here; (with_reducible show wpAny _ _ (call (Value.builtin _) [Value.ref _, Value.ref _, Value.int _ _]) _ _ _); (rename FunDict _ _ _ _ => hAD9); (rename KeysAt _ _ _ => hKA9); k_dflt (refine' fun_get ?hu ?N ?m hAD9 (KeysAt.mono hKA9 ?sub) ?q ?lo (fun hIn t9 => ?_) (fun hOut => ?_); (case hu => ktr_units); (case N => k_asm); (case m | q => k_mem); (case lo => k_asm); (case sub => exact fun p hp => by simp only [List.mem_cons]; simp [hp]))))
set_option maxRecDepth 100000 in
set_option maxHeartbeats 8000000 in
theorem known_ctr {w : World} {mean : ExcName → Option Value} {mg mb : Str → Option Value}
    {dp un : Nat} {gd : Option (List Code)} {cn : Str} {cs : Scope} {a : Addr} {ccd : Value} {cl : List (Str × Addr)} {outer : List Env} {A₀ : Around} {base h₀ : Heap} {L : Addr} {m : Str → Option Value} {s : Shared} {Q E : Value → Shared → Prop}
    {t d tx an fs fn : Addr} {c1 c2 c3 c4 : Int} {k1 k2 k3 k4 : Tok} {nd : Nat} {news : List (Addr × Obj)} {oan ofn : Obj} {qs : List Addr} {ns : List Str} {ps : List (Str × Int)} {x : Str} {r : Int} {ta tr : Tok}
    (B : Below A₀ base outer h₀) (F : Fr h₀ L s.heap m) (X : (hd.heap_39 w.params).In h₀) (N : News h₀ L s.heap news)
    (T : Top hd.view_39 (looseW hd.view_39 []) mean mg mb h₀) (hk : cs.kind = .function) (hdp : dp + 10 < recursionLimit) (hun : un + 100 < cLine)
    (hmt : (t, instObj 115 d) ∈ news) (hmd : (d, dictOf [⟨c1, .str (Str.ofString "texts") k1, .ref tx⟩, ⟨c2, .str (Str.ofString "atom_numbers") k2, .ref an⟩, ⟨c3, .str (Str.ofString "functors") k3, .ref fs⟩, ⟨c4, .str (Str.ofString "functor_numbers") k4, .ref fn⟩] nd) ∈ news)
    (hm1 : (an, oan) ∈ news) (hm2 : (fn, ofn) ∈ news)
    (lo1 : (an == sysModules) = false) (lo2 : (fn == sysModules) = false) (hA : AtomDict w oan ns) (hF : FunDict w ofn qs (ps.map (fkey ns))) (hK : KeysAt news qs (ps.map (fkey ns))) (hsub : ∀ p ∈ ps, p.1 ∈ ns)
    (hret : ∀ (tv : Tok) (h' : Heap) (tk' : Nat), Fr h₀ L h' m → News h₀ L h' news → Q (.int (if (x, r) ∈ ps then ((idx ps (x, r) : Nat) : Int) else -1) tv) { s with heap := h', toks := tk' }) :
    wpAny (model Challenge.rw_ok0005_01.row.prog w) (ktrTop dp un gd cn cs L a ccd cl outer) (call (.ref 112) [.ref t, .str x ta, .int r tr]) Q E s := by

  revert X; k_fill; intro X
  refine wpAny_call ?_
  k_dflt ktr_enter
  k_steps
  · exfalso; omega
  · have hx : x ∈ ns := by assumption
    have hIn : fkey ns (x, r) ∈ ps.map (fkey ns) := by assumption
    have h1 : (x, r) ∈ ps := (mem_fkey (p := (x, r)) hx).mp hIn
    have e : idx (ps.map (fkey ns)) [((idx ns x : Nat) : Int), r] = idx ps (x, r) := idx_fkey (p := (x, r)) hx
    have hr := hret
    rw [if_pos h1] at hr
    rw [e]
    (rename News h₀ L _ _ => kN)
    exact hr _ _ _ (by assumption) (kst_newsOf kN fun p hp => List.mem_cons_of_mem _ hp)
  · have hx : x ∈ ns := by assumption
    have hOut : fkey ns (x, r) ∉ ps.map (fkey ns) := by assumption
    have h1 : (x, r) ∉ ps := fun h => hOut ((mem_fkey (p := (x, r)) hx).mpr h)
    have hr := hret
    rw [if_neg h1] at hr
    (rename News h₀ L _ _ => kN)
    exact hr _ _ _ (by assumption) (kst_newsOf kN fun p hp => List.mem_cons_of_mem _ hp)
  · have hx : x ∉ ns := by assumption
    have h1 : (x, r) ∉ ps := fun h => hx (hsub _ h)
    have hr := hret
    rw [if_neg h1] at hr
    (rename News h₀ L _ _ => kN)
    exact hr _ _ _ (by assumption) kN
end Mine


end
section
open PySem PySem.W PyProof.Rows PySem.Spec PySem.Calls
set_option maxRecDepth 100000
namespace Mine
/-- the walk halts here -/
def Stop (P : Prop) : Prop := P
theorem ite_both {c : Prop} [Decidable c] {a b : Prop} (h1 : c → a) (h2 : ¬ c → b) : if c then a else b := by
  by_cases h : c
  · rw [if_pos h]; exact h1 h
  · rw [if_neg h]; exact h2 h
theorem Stop.intro {P : Prop} (h : Stop P) : P := h
section
variable {prog : Program} {w : World} {A : Around} {E : Value → Shared → Prop} {s : Shared} {env : Env} {h₀ : Heap} {x : Str} {body : List Stmt} {Q : Flow → Shared → Prop}

/-- a loop over range(n): J between the turns -/
theorem rng_loop {r : Addr} {b : Int} {t₀ u₀ v₀ : Tok} {n : Nat} {m₀ : Str → Option Value} {news : List (Addr × Obj)} (J : Nat → (Str → Option Value) → List (Addr × Obj) → Prop)
    (hh : A.handled = none) (hr : IsRange s.heap r 0 b 1 t₀ u₀ v₀) (hb : b = (n : Int)) (hn : n ≤ 1000) (F : Fr h₀ env.locals s.heap m₀) (N : News h₀ env.locals s.heap news) (hj : J 0 m₀ news)
    (turn : ∀ (i : Nat) t m₁ nx h tk own, i < n → OwnOff own (nx.map (·.1)) → J i m₁ nx → Fr h₀ env.locals h (fun y => if y = x then some (.int (i : Int) t) else m₁ y) → News h₀ env.locals h (nx ++ own) →
      wpAny (model prog w) A (execs body env) (InvPostG h₀ env.locals (J (i + 1)) own { s with heap := h, toks := tk } Q) E { s with heap := h, toks := tk })
    (done : ∀ m₁ nx h tk, J n m₁ nx → Fr h₀ env.locals h m₁ → News h₀ env.locals h nx → Q .next { s with heap := h, toks := tk }) :
    wpAny (model prog w) A (pyIter (.ref r)) (fun it s₂ => LoopAtV prog w A h₀ env x body Q E it s₂) E s := by
  subst hb
  have hsz : Builtin.Range.rangeSize 0 (n : Int) 1 = (n : Int) := by
    unfold Builtin.Range.rangeSize
    simp
    omega
  have hsmall : Builtin.Range.small 0 (n : Int) 1 = true := by
    unfold Builtin.Range.small
    rw [hsz]
    have f : ∀ k : Int, 0 ≤ k → k ≤ 1001 → Builtin.Range.rangeFitsLong k = true := by
      intro k h1 h2
      unfold Builtin.Range.rangeFitsLong
      simp
      omega
    rw [f 0 (by omega) (by omega), f n (by omega) (by omega), f 1 (by omega) (by omega), if_pos (by omega), f _ (by omega) (by omega)]
    simp
  refine wpAny_pyIter_range hr hsmall ?_
  have W : Walks prog w A s.heap.objs.size [s.heap.objs.size] [s.heap.objs.size] n (fun i v => ∃ t, v = .int (0 + i * 1) t) (fun i h => IsRangeIter h s.heap.objs.size (0 + (i : Nat) * 1) ((n : Int) - (i : Nat)) 1) := Walks.range hh _ 0 1 n
  refine kdr_loop J W (fun _ h => h) (fun _ h => h) ?_ ?_ ?_ ?_ (by show IsRangeIter _ _ _ _ _; rw [hsz]; simpa using Heap.get?_push_size _ rfl) (F.push _) (fun p hp => ⟨Heap.get?_push_of_some _ (N p hp).1, (N p hp).2⟩) hj ?_ ?_
  · intro i h hi c hc
    rw [List.mem_singleton.mp hc]
    exact ⟨_, hi⟩
  · intro hm
    exact absurd F.ns.lt ((List.mem_singleton.mp hm) ▸ Nat.lt_irrefl _)
  · intro c hc
    rw [List.mem_singleton.mp hc]
    exact next_is_new F
  · intro p hp hI
    exact absurd (Heap.lt_size (N p hp).1) ((List.mem_singleton.mp hI) ▸ Nat.lt_irrefl _)
  · rintro i v m₁ nx h tk own hi ⟨t, rfl⟩ hoff hJ F₁ N₁
    have e1 : (0 : Int) + (i : Int) * 1 = (i : Int) := by omega
    rw [e1] at F₁
    exact turn i t m₁ nx h tk own hi hoff hJ F₁ N₁
  · exact fun m₁ nx h tk hJ F₁ N₁ => done m₁ nx h tk hJ F₁ N₁

/-- a loop over a tuple of the ledger -/
theorem tup_loop {l : Addr} {vs : List Value} {m₀ : Str → Option Value} {news : List (Addr × Obj)} (J : Nat → (Str → Option Value) → List (Addr × Obj) → Prop)
    (hh : A.handled = none) (hl : (l, tupObj vs) ∈ news) (F : Fr h₀ env.locals s.heap m₀) (N : News h₀ env.locals s.heap news) (hj : J 0 m₀ news)
    (turn : ∀ i v m₁ nx h tk own, vs[i]? = some v → OwnOff own (nx.map (·.1)) → (l, tupObj vs) ∈ nx → J i m₁ nx → Fr h₀ env.locals h (fun y => if y = x then some v else m₁ y) → News h₀ env.locals h (nx ++ own) →
      wpAny (model prog w) A (execs body env) (InvPostG h₀ env.locals (fun m' nx => (l, tupObj vs) ∈ nx ∧ J (i + 1) m' nx) own { s with heap := h, toks := tk } Q) E { s with heap := h, toks := tk })
    (done : ∀ m₁ nx h tk, J vs.length m₁ nx → Fr h₀ env.locals h m₁ → News h₀ env.locals h nx → Q .next { s with heap := h, toks := tk }) :
    wpAny (model prog w) A (pyIter (.ref l)) (fun it s₂ => LoopAtV prog w A h₀ env x body Q E it s₂) E s := by
  have hol : s.heap.get? l = some (tupObj vs) := (N _ hl).1
  have hne : l ≠ s.heap.objs.size := Nat.ne_of_lt (Heap.lt_size hol)
  have hT : s.heap.IsTuple l vs.toArray := ⟨_, hol, rfl, _, rfl⟩
  have hx0 : vs.toArray.size = vs.length := by simp
  refine wpAny_pyIter_tuple hT ?_
  refine ⟨s.heap.objs.size, [s.heap.objs.size, l], [s.heap.objs.size], vs.toArray.size, _, _, m₀, news, (fun i m nx => (l, tupObj vs) ∈ nx ∧ J i m nx), rfl, Walks.tuple hh s.heap.objs.size l hne vs.toArray, ?_, ?_, ?_,
    ⟨⟨_, Heap.get?_push_size _ rfl, rfl, rfl⟩, hT.at fun o e => Heap.get?_push_of_some _ e⟩, F.push _, fun p hp => ⟨Heap.get?_push_of_some _ (N p hp).1, (N p hp).2⟩, ⟨hl, hj⟩, ?_, ?_⟩
  · intro hm
    simp only [List.mem_cons, List.not_mem_nil, or_false] at hm
    rcases hm with e | e
    · have := F.ns.lt; rw [e] at this; exact Nat.lt_irrefl _ this
    · exact (N _ hl).2.1 e.symm
  · intro b hb
    rw [List.mem_singleton.mp hb]; exact next_is_new F
  · intro p hp hI
    have := Heap.lt_size (N p hp).1
    rw [List.mem_singleton.mp hI] at this
    exact Nat.lt_irrefl _ this
  · rintro i v m₁ nx s₁ own ⟨h1, tk1, rfl⟩ hin hP ⟨hlx, hJ⟩ hoff hown hget hfp hst F₁ N₁
    obtain ⟨⟨oI, hoI, _⟩, _⟩ := id hst
    have hIo : (s.heap.objs.size, oI) ∈ own := hfp _ (List.mem_cons_self) (next_is_new F) oI hoI
    have hl1 : h1.get? l = some (tupObj vs) := (N₁ _ (List.mem_append_right _ hlx)).1
    -- only the iterator is handed on
    have hone : OwnOff [(s.heap.objs.size, oI)] (nx.map (·.1)) := by
      intro p hp b hb e
      obtain ⟨q, hq, rfl⟩ := List.mem_map.mp hb
      rw [List.mem_singleton.mp hp] at e
      exact hoff q hq (List.mem_singleton.mpr e.symm)
    have N₂ : News h₀ env.locals h1 (nx ++ [(s.heap.objs.size, oI)]) := fun p hp => by
      rcases List.mem_append.mp hp with hp | hp
      · exact N₁ p (List.mem_append_right _ hp)
      · exact N₁ p (List.mem_append_left _ ((List.mem_singleton.mp hp) ▸ hIo))
    have hv : vs[i]? = some v := by simpa using hP
    refine wpAny_mono (turn i v m₁ nx h1 tk1 _ hv hone hlx hJ F₁ N₂) (fun f s₂ p => ?_) fun _ _ e => e
    have fin : InvEndG h₀ env.locals (fun m' nx => (l, tupObj vs) ∈ nx ∧ J (i + 1) m' nx) [(s.heap.objs.size, oI)] { s with heap := h1, toks := tk1 } s₂ →
        LoopStepU h₀ env.locals [s.heap.objs.size] own (fun m nx => (l, tupObj vs) ∈ nx ∧ J (i + 1) m nx) { s with heap := h1, toks := tk1 } .next s₂ := by
      rintro ⟨h', tk, m', news', nx', e, F', N', hn, ho, ha, hm⟩
      refine ⟨rfl, h', tk, m', nx', e, F', fun p hp => ?_, fun p hp hq => ?_, hm⟩
      · rcases List.mem_append.mp hp with h | h
        · have hp1 := hown p h
          simp only [List.mem_cons, List.not_mem_nil, or_false] at hp1
          have hg : h1.get? p.1 = some p.2 := hget p h
          rcases hp1 with e1 | e1
          · rw [e1, hoI] at hg
            have : p = (s.heap.objs.size, oI) := Prod.ext e1 (Option.some.inj hg).symm
            exact N' p (ho p (this ▸ List.mem_singleton.mpr rfl))
          · rw [e1, hl1] at hg
            have : p = (l, tupObj vs) := Prod.ext e1 (Option.some.inj hg).symm
            exact N' p (hn p (this ▸ hm.1))
        · exact N' p (hn p h)
      · exact ha _ (List.mem_singleton.mpr rfl) p.1 (List.mem_map.mpr ⟨p, hp, rfl⟩) (List.mem_singleton.mp hq).symm
    cases f with
    | ret v => exact .ret p
    | brk => exact .brk p
    | next => exact .next (fin p)
    | cont => exact .cont (fin p)
  · rintro h' tk m' nx F' N' _ ⟨_, hJ⟩
    exact done m' nx h' tk (hx0 ▸ hJ) F' N'
/-- the same, the frame's names spelled out: S the names that a turn stores, K of the ledger -/
theorem rng_loopS {r : Addr} {b : Int} {t₀ u₀ v₀ : Tok} {n : Nat} {m₀ : Str → Option Value} {news : List (Addr × Obj)} (S : List Str) (K : Nat → List (Addr × Obj) → Prop)
    (hh : A.handled = none) (hr : IsRange s.heap r 0 b 1 t₀ u₀ v₀) (hb : b = (n : Int)) (hn : n ≤ 1000) (F : Fr h₀ env.locals s.heap m₀) (N : News h₀ env.locals s.heap news) (hj : K 0 news)
    (turn : ∀ (i : Nat) t (u : Str → Option Value) nx h tk own, i < n → OwnOff own (nx.map (·.1)) → K i nx → Fr h₀ env.locals h (fun y => if y = x then some (.int (i : Int) t) else if S.contains y then u y else m₀ y) → News h₀ env.locals h (nx ++ own) →
      wpAny (model prog w) A (execs body env) (InvPostG h₀ env.locals (fun m' nx' => (∀ z, z ≠ x → S.contains z = false → m' z = m₀ z) ∧ K (i + 1) nx') own { s with heap := h, toks := tk } Q) E { s with heap := h, toks := tk })
    (done : ∀ (u : Str → Option Value) nx h tk, K n nx → Fr h₀ env.locals h (fun y => if y = x then u y else if S.contains y then u y else m₀ y) → News h₀ env.locals h nx → Q .next { s with heap := h, toks := tk }) :
    wpAny (model prog w) A (pyIter (.ref r)) (fun it s₂ => LoopAtV prog w A h₀ env x body Q E it s₂) E s := by
  refine rng_loop (fun i m₁ nx => (∀ z, z ≠ x → S.contains z = false → m₁ z = m₀ z) ∧ K i nx) hh hr hb hn F N ⟨fun _ _ _ => rfl, hj⟩ ?_ ?_
  · rintro i t m₁ nx h tk own hi ho ⟨hm, hk⟩ F₁ N₁
    have e : (fun y => if y = x then some (Value.int (i : Int) t) else m₁ y) = fun y => if y = x then some (Value.int (i : Int) t) else if S.contains y then m₁ y else m₀ y := by
      funext y
      by_cases h1 : y = x
      · simp only [if_pos h1]
      · simp only [if_neg h1]
        cases h2 : S.contains y with
        | true => simp
        | false => simp only [Bool.false_eq_true, if_false]; exact hm y h1 h2
    rw [e] at F₁
    exact turn i t m₁ nx h tk own hi ho hk F₁ N₁
  · rintro m₁ nx h tk ⟨hm, hk⟩ F₁ N₁
    have e : m₁ = fun y => if y = x then m₁ y else if S.contains y then m₁ y else m₀ y := by
      funext y
      by_cases h1 : y = x
      · simp only [if_pos h1]
      · simp only [if_neg h1]
        cases h2 : S.contains y with
        | true => simp
        | false => simp only [Bool.false_eq_true, if_false]; exact hm y h1 h2
    rw [e] at F₁
    exact done m₁ nx h tk hk F₁ N₁
theorem tup_loopS {l : Addr} {vs : List Value} {m₀ : Str → Option Value} {news : List (Addr × Obj)} (S : List Str) (K : Nat → List (Addr × Obj) → Prop)
    (hh : A.handled = none) (hl : (l, tupObj vs) ∈ news) (F : Fr h₀ env.locals s.heap m₀) (N : News h₀ env.locals s.heap news) (hj : K 0 news)
    (turn : ∀ i v (u : Str → Option Value) nx h tk own, vs[i]? = some v → OwnOff own (nx.map (·.1)) → (l, tupObj vs) ∈ nx → K i nx → Fr h₀ env.locals h (fun y => if y = x then some v else if S.contains y then u y else m₀ y) → News h₀ env.locals h (nx ++ own) →
      wpAny (model prog w) A (execs body env) (InvPostG h₀ env.locals (fun m' nx' => (l, tupObj vs) ∈ nx' ∧ (∀ z, z ≠ x → S.contains z = false → m' z = m₀ z) ∧ K (i + 1) nx') own { s with heap := h, toks := tk } Q) E { s with heap := h, toks := tk })
    (done : ∀ (u : Str → Option Value) nx h tk, K vs.length nx → Fr h₀ env.locals h (fun y => if y = x then u y else if S.contains y then u y else m₀ y) → News h₀ env.locals h nx → Q .next { s with heap := h, toks := tk }) :
    wpAny (model prog w) A (pyIter (.ref l)) (fun it s₂ => LoopAtV prog w A h₀ env x body Q E it s₂) E s := by
  refine tup_loop (fun i m₁ nx => (∀ z, z ≠ x → S.contains z = false → m₁ z = m₀ z) ∧ K i nx) hh hl F N ⟨fun _ _ _ => rfl, hj⟩ ?_ ?_
  · rintro i v m₁ nx h tk own hi ho hl₁ ⟨hm, hk⟩ F₁ N₁
    have e : (fun y => if y = x then some v else m₁ y) = fun y => if y = x then some v else if S.contains y then m₁ y else m₀ y := by
      funext y
      by_cases h1 : y = x
      · simp only [if_pos h1]
      · simp only [if_neg h1]
        cases h2 : S.contains y with
        | true => simp
        | false => simp only [Bool.false_eq_true, if_false]; exact hm y h1 h2
    rw [e] at F₁
    exact turn i v m₁ nx h tk own hi ho hl₁ hk F₁ N₁
  · rintro m₁ nx h tk ⟨hm, hk⟩ F₁ N₁
    have e : m₁ = fun y => if y = x then m₁ y else if S.contains y then m₁ y else m₀ y := by
      funext y
      by_cases h1 : y = x
      · simp only [if_pos h1]
      · simp only [if_neg h1]
        cases h2 : S.contains y with
        | true => simp
        | false => simp only [Bool.false_eq_true, if_false]; exact hm y h1 h2
    rw [e] at F₁
    exact done m₁ nx h tk hk F₁ N₁
/-- a loop over a list of the ledger -/
theorem lst_loopS {l : Addr} {vs : List Value} {nn : Nat} {m₀ : Str → Option Value} {news : List (Addr × Obj)} (S : List Str) (K : Nat → List (Addr × Obj) → Prop)
    (hh : A.handled = none) (hl : (l, listOf vs.toArray nn) ∈ news) (F : Fr h₀ env.locals s.heap m₀) (N : News h₀ env.locals s.heap news) (hj : K 0 news)
    (turn : ∀ i v (u : Str → Option Value) nx h tk own, vs[i]? = some v → OwnOff own (nx.map (·.1)) → (l, listOf vs.toArray nn) ∈ nx → K i nx → Fr h₀ env.locals h (fun y => if y = x then some v else if S.contains y then u y else m₀ y) → News h₀ env.locals h (nx ++ own) →
      wpAny (model prog w) A (execs body env) (InvPostG h₀ env.locals (fun m' nx' => (l, listOf vs.toArray nn) ∈ nx' ∧ (∀ z, z ≠ x → S.contains z = false → m' z = m₀ z) ∧ K (i + 1) nx') own { s with heap := h, toks := tk } Q) E { s with heap := h, toks := tk })
    (done : ∀ (u : Str → Option Value) nx h tk, K vs.length nx → Fr h₀ env.locals h (fun y => if y = x then u y else if S.contains y then u y else m₀ y) → News h₀ env.locals h nx → Q .next { s with heap := h, toks := tk }) :
    wpAny (model prog w) A (pyIter (.ref l)) (fun it s₂ => LoopAtV prog w A h₀ env x body Q E it s₂) E s := by
  refine kdl_iter (fun i m₁ nx => (∀ z, z ≠ x → S.contains z = false → m₁ z = m₀ z) ∧ K i nx) hh hl F N ⟨fun _ _ _ => rfl, hj⟩ ?_ ?_
  · rintro i v m₁ nx h tk own hi ho hl₁ ⟨hm, hk⟩ F₁ N₁
    have e : (fun y => if y = x then some v else m₁ y) = fun y => if y = x then some v else if S.contains y then m₁ y else m₀ y := by
      funext y
      by_cases h1 : y = x
      · simp only [if_pos h1]
      · simp only [if_neg h1]
        cases h2 : S.contains y with
        | true => simp
        | false => simp only [Bool.false_eq_true, if_false]; exact hm y h1 h2
    rw [e] at F₁
    exact turn i v m₁ nx h tk own hi ho hl₁ hk F₁ N₁
  · rintro m₁ nx h tk ⟨hm, hk⟩ F₁ N₁
    have e : m₁ = fun y => if y = x then m₁ y else if S.contains y then m₁ y else m₀ y := by
      funext y
      by_cases h1 : y = x
      · simp only [if_pos h1]
      · simp only [if_neg h1]
        cases h2 : S.contains y with
        | true => simp
        | false => simp only [Bool.false_eq_true, if_false]; exact hm y h1 h2
    rw [e] at F₁
    exact done m₁ nx h tk hk F₁ N₁

/-- a loop over a range; one name y holds an int -/
theorem rng_loopV {r : Addr} {b : Int} {t₀ u₀ v₀ : Tok} {n : Nat} {m₀ : Str → Option Value} {news : List (Addr × Obj)} (y : Str) (K : Nat → List (Addr × Obj) → Prop)
    (hh : A.handled = none) (hr : IsRange s.heap r 0 b 1 t₀ u₀ v₀) (hb : b = (n : Int)) (hn : n ≤ 1000) (F : Fr h₀ env.locals s.heap m₀) (N : News h₀ env.locals s.heap news) (hy : ∃ v t, m₀ y = some (.int v t)) (hj : K 0 news)
    (turn : ∀ (i : Nat) t v tv nx h tk own, i < n → OwnOff own (nx.map (·.1)) → K i nx → Fr h₀ env.locals h (fun z => if z = x then some (.int (i : Int) t) else if z = y then some (.int v tv) else m₀ z) → News h₀ env.locals h (nx ++ own) →
      wpAny (model prog w) A (execs body env) (InvPostG h₀ env.locals (fun m' nx' => (∃ v t, m' y = some (.int v t)) ∧ (∀ z, z ≠ x → z ≠ y → m' z = m₀ z) ∧ K (i + 1) nx') own { s with heap := h, toks := tk } Q) E { s with heap := h, toks := tk })
    (done : ∀ (u : Str → Option Value) v tv nx h tk, K n nx → Fr h₀ env.locals h (fun z => if z = y then some (.int v tv) else if z = x then u z else m₀ z) → News h₀ env.locals h nx → Q .next { s with heap := h, toks := tk }) :
    wpAny (model prog w) A (pyIter (.ref r)) (fun it s₂ => LoopAtV prog w A h₀ env x body Q E it s₂) E s := by
  refine rng_loop (fun i m₁ nx => (∃ v t, m₁ y = some (.int v t)) ∧ (∀ z, z ≠ x → z ≠ y → m₁ z = m₀ z) ∧ K i nx) hh hr hb hn F N ⟨hy, fun _ _ _ => rfl, hj⟩ ?_ ?_
  · rintro i t m₁ nx h tk own hi ho ⟨⟨v, tv, hv⟩, hm, hk⟩ F₁ N₁
    have e : (fun z => if z = x then some (Value.int (i : Int) t) else m₁ z) = fun z => if z = x then some (Value.int (i : Int) t) else if z = y then some (.int v tv) else m₀ z := by
      funext z
      by_cases h1 : z = x
      · simp only [if_pos h1]
      · simp only [if_neg h1]
        by_cases h2 : z = y
        · rw [if_pos h2, h2, hv]
        · rw [if_neg h2]; exact hm z h1 h2
    rw [e] at F₁
    exact turn i t v tv nx h tk own hi ho hk F₁ N₁
  · rintro m₁ nx h tk ⟨⟨v, tv, hv⟩, hm, hk⟩ F₁ N₁
    have e : m₁ = fun z => if z = y then some (.int v tv) else if z = x then m₁ z else m₀ z := by
      funext z
      by_cases h2 : z = y
      · rw [if_pos h2, h2, hv]
      · rw [if_neg h2]
        by_cases h1 : z = x
        · rw [if_pos h1]
        · rw [if_neg h1]; exact hm z h1 h2
    rw [e] at F₁
    exact done m₁ v tv nx h tk hk F₁ N₁
theorem ints_item : ∀ {vs : List Value} {ns : List Int} {i : Nat} {v : Value}, IntsAre vs ns → vs[i]? = some v → ∃ n t, v = .int n t
  | _, _, i, v, .nil, h => by simp at h
  | _, _, 0, v, .cons n t _, h => by simp at h; exact ⟨n, t, h.symm⟩
  | _, _, i + 1, v, .cons n t r, h => by rw [List.getElem?_cons_succ] at h; exact ints_item r h
theorem lst_reverse {d L : Addr} {vs : List Value} {n : Nat} {m : Str → Option Value} {rest : List (Addr × Obj)} {Q : Value → Shared → Prop} (F : Fr h₀ L s.heap m) (N : News h₀ L s.heap ((d, listOf vs.toArray n) :: rest)) (ha : ∀ p ∈ rest, p.1 ≠ d) (e : vs.length ≤ 1000)
    (h : ∀ h', Fr h₀ L h' m → News h₀ L h' ((d, listOf vs.reverse.toArray n) :: rest) → Q .none { s with heap := h' }) : wpAny (model prog w) A (call (.builtin "list.reverse") [.ref d]) Q E s :=
  reverse_head F N ha (fun h' F' N' => h h' F' (by simpa using N')) (by rw [List.size_toArray, sizeLine_eq]; omega)
theorem lst_of_tup {d L : Addr} {vs : List Value} {m : Str → Option Value} {news : List (Addr × Obj)} {Q : Value → Shared → Prop} (F : Fr h₀ L s.heap m) (N : News h₀ L s.heap news) (hb : (d, tupObj vs) ∈ news) (e : vs.length ≤ 1000)
    (h : ∀ D c h', Fr h₀ L h' m → News h₀ L h' ((D, listOf vs.toArray c) :: news) → (∀ q ∈ news, @LT.lt Nat _ q.1 D) → Q (.ref D) { s with heap := h' }) : wpAny (model prog w) A (call (.type "list") [.ref d]) Q E s :=
  list_copyKT F N (N.isTup hb) h (by rw [List.size_toArray, sizeLine_eq]; omega)
theorem lst_item {value slice : Expr} {d L : Addr} {vs : List Value} {n : Nat} {k : Int} {u : Tok} {v : Value} {news : List (Addr × Obj)} {Q : Value → Shared → Prop} (N : News h₀ L s.heap news) (hm : (d, listOf vs.toArray n) ∈ news)
    (h0 : 0 ≤ k) (h1 : k < 2 ^ 63) (hx : vs[k.toNat]? = some v) (h : Q v s)
    (hs : subscripted slice false (.ref d) (.int k u) = operate [.ref d, .int k u] (getItem (.ref d) (.int k u)) := by with_unfolding_all rfl) :
    wpAny (model prog w) A (subscriptTail value slice (.ref d) (.int k u)) Q E s :=
  have hl : s.heap.IsList d vs.toArray := ⟨_, (N _ hm).1, rfl, n, rfl⟩
  tail_any hl.typeIs slot_list_getitem.lookup (wpAny_getItem_list hl h0 h1 (by simpa using hx) h) hs
end
end Mine

end
section
open PySem PySem.W PyProof.Rows PySem.Spec PySem.Calls
namespace Mine

local macro_rules | `(tactic| walk_at "call builtin:len") => `(tactic| (k_here; (with_reducible show wpAny _ _ (call (Value.builtin _) [Value.ref _]) _ _ _); k_dflt (refine' lst_len ?N ?m ?S ?lo ?_; (case N => k_asm); (case m => k_mem); (case S | lo => k_asm))))
local macro_rules | `(tactic| walk_at "subscriptTail") => `(tactic| (k_here; (with_reducible show wpAny _ _ (subscriptTail _ _ (Value.ref _) (Value.int _ _)) _ _ _); k_dflt (refine' lst_item ?N ?m ?h0 ?h1 ?x ?_; (case N => k_asm); (case m => k_mem); (case h0 | h1 | x => k_asm))))
set_option maxRecDepth 100000 in
set_option maxHeartbeats 8000000 in
theorem count_ctr {w : World} {mean : ExcName → Option Value} {mg mb : Str → Option Value}
    {dp un : Nat} {gd : Option (List Code)} {cn : Str} {cs : Scope} {a : Addr} {ccd : Value} {cl : List (Str × Addr)} {outer : List Env} {A₀ : Around} {base h₀ : Heap} {L : Addr} {m : Str → Option Value} {s : Shared} {Q E : Value → Shared → Prop}
    {t d tx an fs fn : Addr} {c1 c2 c3 c4 : Int} {k1 k2 k3 k4 : Tok} {nd : Nat} {news : List (Addr × Obj)} {vs : List Value} {nv : Nat}
    (B : Below A₀ base outer h₀) (F : Fr h₀ L s.heap m) (X : (hd.heap_39 w.params).In h₀) (N : News h₀ L s.heap news)
    (T : Top hd.view_39 (looseW hd.view_39 []) mean mg mb h₀) (hk : cs.kind = .function) (hdp : dp + 10 < recursionLimit) (hun : un + 100 < cLine)
    (hmt : (t, instObj 115 d) ∈ news) (hmd : (d, dictOf [⟨c1, .str (Str.ofString "texts") k1, .ref tx⟩, ⟨c2, .str (Str.ofString "atom_numbers") k2, .ref an⟩, ⟨c3, .str (Str.ofString "functors") k3, .ref fs⟩, ⟨c4, .str (Str.ofString "functor_numbers") k4, .ref fn⟩] nd) ∈ news)
    (hm1 : (tx, listOf vs.toArray nv) ∈ news) (n : Nat) (hl : vs.length = n) (hn : n ≤ 1000)
    (hret : ∀ (tv : Tok) (h' : Heap) (tk' : Nat), Fr h₀ L h' m → News h₀ L h' news → Q (.int (n : Int) tv) { s with heap := h', toks := tk' }) :
    wpAny (model Challenge.rw_ok0005_01.row.prog w) (ktrTop dp un gd cn cs L a ccd cl outer) (call (.ref 98) [.ref t]) Q E s := by
  revert X; k_fill; intro X
  refine wpAny_call ?_
  k_dflt ktr_enter
  k_steps
  exact hret _ _ _ (by assumption) (by first | assumption | exact kst_newsOf (by assumption) fun p hp => List.mem_cons_of_mem _ hp)

set_option maxRecDepth 100000 in
set_option maxHeartbeats 8000000 in
theorem fcount_ctr {w : World} {mean : ExcName → Option Value} {mg mb : Str → Option Value}
    {dp un : Nat} {gd : Option (List Code)} {cn : Str} {cs : Scope} {a : Addr} {ccd : Value} {cl : List (Str × Addr)} {outer : List Env} {A₀ : Around} {base h₀ : Heap} {L : Addr} {m : Str → Option Value} {s : Shared} {Q E : Value → Shared → Prop}
    {t d tx an fs fn : Addr} {c1 c2 c3 c4 : Int} {k1 k2 k3 k4 : Tok} {nd : Nat} {news : List (Addr × Obj)} {us : List Value} {nu : Nat}
    (B : Below A₀ base outer h₀) (F : Fr h₀ L s.heap m) (X : (hd.heap_39 w.params).In h₀) (N : News h₀ L s.heap news)
    (T : Top hd.view_39 (looseW hd.view_39 []) mean mg mb h₀) (hk : cs.kind = .function) (hdp : dp + 10 < recursionLimit) (hun : un + 100 < cLine)
    (hmt : (t, instObj 115 d) ∈ news) (hmd : (d, dictOf [⟨c1, .str (Str.ofString "texts") k1, .ref tx⟩, ⟨c2, .str (Str.ofString "atom_numbers") k2, .ref an⟩, ⟨c3, .str (Str.ofString "functors") k3, .ref fs⟩, ⟨c4, .str (Str.ofString "functor_numbers") k4, .ref fn⟩] nd) ∈ news)
    (hm1 : (fs, listOf us.toArray nu) ∈ news) (n : Nat) (hl : us.length = n) (hn : n ≤ 1000)
    (hret : ∀ (tv : Tok) (h' : Heap) (tk' : Nat), Fr h₀ L h' m → News h₀ L h' news → Q (.int (n : Int) tv) { s with heap := h', toks := tk' }) :
    wpAny (model Challenge.rw_ok0005_01.row.prog w) (ktrTop dp un gd cn cs L a ccd cl outer) (call (.ref 105) [.ref t]) Q E s := by
  revert X; k_fill; intro X
  refine wpAny_call ?_
  k_dflt ktr_enter
  k_steps
  exact hret _ _ _ (by assumption) (by first | assumption | exact kst_newsOf (by assumption) fun p hp => List.mem_cons_of_mem _ hp)

set_option maxRecDepth 100000 in
set_option maxHeartbeats 8000000 in
theorem text_ctr {w : World} {mean : ExcName → Option Value} {mg mb : Str → Option Value}
    {dp un : Nat} {gd : Option (List Code)} {cn : Str} {cs : Scope} {a : Addr} {ccd : Value} {cl : List (Str × Addr)} {outer : List Env} {A₀ : Around} {base h₀ : Heap} {L : Addr} {m : Str → Option Value} {s : Shared} {Q E : Value → Shared → Prop}
    {t d tx an fs fn : Addr} {c1 c2 c3 c4 : Int} {k1 k2 k3 k4 : Tok} {nd : Nat} {news : List (Addr × Obj)} {vs : List Value} {nv : Nat} {k : Int} {tk : Tok} {v : Value}
    (B : Below A₀ base outer h₀) (F : Fr h₀ L s.heap m) (X : (hd.heap_39 w.params).In h₀) (N : News h₀ L s.heap news)
    (T : Top hd.view_39 (looseW hd.view_39 []) mean mg mb h₀) (hk : cs.kind = .function) (hdp : dp + 10 < recursionLimit) (hun : un + 100 < cLine)
    (hmt : (t, instObj 115 d) ∈ news) (hmd : (d, dictOf [⟨c1, .str (Str.ofString "texts") k1, .ref tx⟩, ⟨c2, .str (Str.ofString "atom_numbers") k2, .ref an⟩, ⟨c3, .str (Str.ofString "functors") k3, .ref fs⟩, ⟨c4, .str (Str.ofString "functor_numbers") k4, .ref fn⟩] nd) ∈ news)
    (hm1 : (tx, listOf vs.toArray nv) ∈ news) (h0 : 0 ≤ k) (h1 : k < 2 ^ 63) (hx : vs[k.toNat]? = some v)
    (hret : ∀ (tv : Tok) (h' : Heap) (tk' : Nat), Fr h₀ L h' m → News h₀ L h' news → Q (v) { s with heap := h', toks := tk' }) :
    wpAny (model Challenge.rw_ok0005_01.row.prog w) (ktrTop dp un gd cn cs L a ccd cl outer) (call (.ref 56) [.ref t, .int k tk]) Q E s := by
  revert X; k_fill; intro X
  refine wpAny_call ?_
  k_dflt ktr_enter
  k_steps
  exact hret 0 _ _ (by assumption) (by first | assumption | exact kst_newsOf (by assumption) fun p hp => List.mem_cons_of_mem _ hp)

set_option maxRecDepth 100000 in
set_option maxHeartbeats 8000000 in
theorem name_ctr {w : World} {mean : ExcName → Option Value} {mg mb : Str → Option Value}
    {dp un : Nat} {gd : Option (List Code)} {cn : Str} {cs : Scope} {a : Addr} {ccd : Value} {cl : List (Str × Addr)} {outer : List Env} {A₀ : Around} {base h₀ : Heap} {L : Addr} {m : Str → Option Value} {s : Shared} {Q E : Value → Shared → Prop}
    {t d tx an fs fn : Addr} {c1 c2 c3 c4 : Int} {k1 k2 k3 k4 : Tok} {nd : Nat} {news : List (Addr × Obj)} {us : List Value} {nu : Nat} {k : Int} {tk : Tok} {q : Addr} {a1 a2 : Int} {t1 t2 : Tok}
    (B : Below A₀ base outer h₀) (F : Fr h₀ L s.heap m) (X : (hd.heap_39 w.params).In h₀) (N : News h₀ L s.heap news)
    (T : Top hd.view_39 (looseW hd.view_39 []) mean mg mb h₀) (hk : cs.kind = .function) (hdp : dp + 10 < recursionLimit) (hun : un + 100 < cLine)
    (hmt : (t, instObj 115 d) ∈ news) (hmd : (d, dictOf [⟨c1, .str (Str.ofString "texts") k1, .ref tx⟩, ⟨c2, .str (Str.ofString "atom_numbers") k2, .ref an⟩, ⟨c3, .str (Str.ofString "functors") k3, .ref fs⟩, ⟨c4, .str (Str.ofString "functor_numbers") k4, .ref fn⟩] nd) ∈ news)
    (hm1 : (fs, listOf us.toArray nu) ∈ news) (h0 : 0 ≤ k) (h1 : k < 2 ^ 63) (hx : us[k.toNat]? = some (.ref q)) (hq : (q, tupObj [.int a1 t1, .int a2 t2]) ∈ news)
    (hret : ∀ (tv : Tok) (h' : Heap) (tk' : Nat), Fr h₀ L h' m → News h₀ L h' news → Q (.int a1 t1) { s with heap := h', toks := tk' }) :
    wpAny (model Challenge.rw_ok0005_01.row.prog w) (ktrTop dp un gd cn cs L a ccd cl outer) (call (.ref 77) [.ref t, .int k tk]) Q E s := by
  revert X; k_fill; intro X
  refine wpAny_call ?_
  k_dflt ktr_enter
  k_steps
  exact hret 0 _ _ (by assumption) (by first | assumption | exact kst_newsOf (by assumption) fun p hp => List.mem_cons_of_mem _ hp)

set_option maxRecDepth 100000 in
set_option maxHeartbeats 8000000 in
theorem arity_ctr {w : World} {mean : ExcName → Option Value} {mg mb : Str → Option Value}
    {dp un : Nat} {gd : Option (List Code)} {cn : Str} {cs : Scope} {a : Addr} {ccd : Value} {cl : List (Str × Addr)} {outer : List Env} {A₀ : Around} {base h₀ : Heap} {L : Addr} {m : Str → Option Value} {s : Shared} {Q E : Value → Shared → Prop}
    {t d tx an fs fn : Addr} {c1 c2 c3 c4 : Int} {k1 k2 k3 k4 : Tok} {nd : Nat} {news : List (Addr × Obj)} {us : List Value} {nu : Nat} {k : Int} {tk : Tok} {q : Addr} {a1 a2 : Int} {t1 t2 : Tok}
    (B : Below A₀ base outer h₀) (F : Fr h₀ L s.heap m) (X : (hd.heap_39 w.params).In h₀) (N : News h₀ L s.heap news)
    (T : Top hd.view_39 (looseW hd.view_39 []) mean mg mb h₀) (hk : cs.kind = .function) (hdp : dp + 10 < recursionLimit) (hun : un + 100 < cLine)
    (hmt : (t, instObj 115 d) ∈ news) (hmd : (d, dictOf [⟨c1, .str (Str.ofString "texts") k1, .ref tx⟩, ⟨c2, .str (Str.ofString "atom_numbers") k2, .ref an⟩, ⟨c3, .str (Str.ofString "functors") k3, .ref fs⟩, ⟨c4, .str (Str.ofString "functor_numbers") k4, .ref fn⟩] nd) ∈ news)
    (hm1 : (fs, listOf us.toArray nu) ∈ news) (h0 : 0 ≤ k) (h1 : k < 2 ^ 63) (hx : us[k.toNat]? = some (.ref q)) (hq : (q, tupObj [.int a1 t1, .int a2 t2]) ∈ news)
    (hret : ∀ (tv : Tok) (h' : Heap) (tk' : Nat), Fr h₀ L h' m → News h₀ L h' news → Q (.int a2 t2) { s with heap := h', toks := tk' }) :
    wpAny (model Challenge.rw_ok0005_01.row.prog w) (ktrTop dp un gd cn cs L a ccd cl outer) (call (.ref 84) [.ref t, .int k tk]) Q E s := by
  revert X; k_fill; intro X
  refine wpAny_call ?_
  k_dflt ktr_enter
  k_steps
  exact hret 0 _ _ (by assumption) (by first | assumption | exact kst_newsOf (by assumption) fun p hp => List.mem_cons_of_mem _ hp)

end Mine

end
section
local macro_rules | `(tactic| walk_at "no such key") => `(tactic| fail)
open PySem PySem.W PyProof.Rows PySem.Spec PySem.Calls
namespace Mine

local macro_rules | `(tactic| walk_at "call builtin:len") => `(tactic| (k_here; (with_reducible show wpAny _ _ (call (Value.builtin _) [Value.ref _]) _ _ _); k_dflt (refine' lst_len ?N ?m ?S ?lo ?_; (case N => k_asm); (case m => k_mem); (case S | lo => k_asm))))
local macro_rules | `(tactic| walk_at "subscriptTail") => `(tactic| (k_here; (with_reducible show wpAny _ _ (subscriptTail _ _ (Value.ref _) (Value.int _ _)) _ _ _); k_dflt (refine' lst_item ?N ?m ?h0 ?h1 ?x ?_; (case N => k_asm); (case m => k_mem); (case h0 | h1 | x => k_asm))))
set_option maxRecDepth 100000 in
set_option maxHeartbeats 8000000 in
theorem label_ctr {w : World} {mean : ExcName → Option Value} {mg mb : Str → Option Value}
    {dp un : Nat} {gd : Option (List Code)} {cn : Str} {cs : Scope} {a : Addr} {ccd : Value} {cl : List (Str × Addr)} {outer : List Env} {A₀ : Around} {base h₀ : Heap} {L : Addr} {m : Str → Option Value} {s : Shared} {Q E : Value → Shared → Prop}
    {t d tx an fs fn : Addr} {c1 c2 c3 c4 : Int} {k1 k2 k3 k4 : Tok} {nd : Nat} {news : List (Addr × Obj)} {us vs : List Value} {nu nv : Nat} {k : Int} {tk : Tok} {q : Addr} {a1 a2 : Int} {t1 t2 t3 : Tok} {x : Str}
    (B : Below A₀ base outer h₀) (F : Fr h₀ L s.heap m) (X : (hd.heap_39 w.params).In h₀) (N : News h₀ L s.heap news)
    (T : Top hd.view_39 (looseW hd.view_39 []) mean mg mb h₀) (hk : cs.kind = .function) (hdp : dp + 10 < recursionLimit) (hun : un + 100 < cLine)
    (hmt : (t, instObj 115 d) ∈ news) (hmd : (d, dictOf [⟨c1, .str (Str.ofString "texts") k1, .ref tx⟩, ⟨c2, .str (Str.ofString "atom_numbers") k2, .ref an⟩, ⟨c3, .str (Str.ofString "functors") k3, .ref fs⟩, ⟨c4, .str (Str.ofString "functor_numbers") k4, .ref fn⟩] nd) ∈ news)
    (hm1 : (fs, listOf us.toArray nu) ∈ news) (hm2 : (tx, listOf vs.toArray nv) ∈ news) (h0 : 0 ≤ k) (h1 : k < 2 ^ 63) (hx : us[k.toNat]? = some (.ref q)) (hq : (q, tupObj [.int a1 t1, .int a2 t2]) ∈ news)
   (h2 : 0 ≤ a1) (h3 : a1 < 2 ^ 63) (hx2 : vs[a1.toNat]? = some (.str x t3)) (hxl : x.length ≤ 100) (h4 : 0 ≤ a2) (h5 : a2 ≤ 8)
    (hret : ∀ (tv : Tok) (h' : Heap) (tk' : Nat), Fr h₀ L h' m → News h₀ L h' news → Q (.str (x ++ Str.ofString "/" ++ Str.ofString (toString a2)) tv) { s with heap := h', toks := tk' }) :
    wpAny (model Challenge.rw_ok0005_01.row.prog w) (ktrTop dp un gd cn cs L a ccd cl outer) (call (.ref 91) [.ref t, .int k tk]) Q E s := by

  revert X; k_fill; intro X
  refine wpAny_call ?_
  k_dflt ktr_enter
  k_steps
  rw [Str.empty_append]
  exact hret _ _ _ (by assumption) (by assumption)
end Mine


end
section
open PySem PySem.W PyProof.Rows PySem.Spec PySem.Calls
namespace Mine

local macro_rules | `(tactic| k_mem) => `(tactic| first | assumption | (refine List.mem_cons_of_mem _ ?_; k_mem))
local macro_rules | `(tactic| walk_at "call ref") => `(tactic| (k_here; (with_reducible show wpAny _ _ (call (Value.ref 98) _) _ _ _); k_dflt (refine' count_ctr ?B ?F ?X ?N ?T ?hk ?hdp ?hun ?mt ?md ?m1 _ ?hl ?hn (fun tv' h' tk' F' N' => ?_); (case B | F | X | T | N => k_asm); (case hk => exact rfl); (case hdp => ktr_room); (case hun => ktr_units); (case mt | md | m1 => k_mem); (case hl | hn => k_asm); (try dsimp only); (try k_fold))))
local macro_rules | `(tactic| walk_at "call ref") => `(tactic| (k_here; (with_reducible show wpAny _ _ (call (Value.ref 105) _) _ _ _); k_dflt (refine' fcount_ctr ?B ?F ?X ?N ?T ?hk ?hdp ?hun ?mt ?md ?m1 _ ?hl ?hn (fun tv' h' tk' F' N' => ?_); (case B | F | X | T | N => k_asm); (case hk => exact rfl); (case hdp => ktr_room); (case hun => ktr_units); (case mt | md | m1 => k_mem); (case hl | hn => k_asm); (try dsimp only); (try k_fold))))
local macro_rules | `(tactic| walk_at "call ref") => `(tactic| (k_here; (with_reducible show wpAny _ _ (call (Value.ref 56) _) _ _ _); k_dflt (refine' text_ctr ?B ?F ?X ?N ?T ?hk ?hdp ?hun ?mt ?md ?m1 ?h0 ?h1 ?hx (fun tv' h' tk' F' N' => ?_); (case B | F | X | T | N => k_asm); (case hk => exact rfl); (case hdp => ktr_room); (case hun => ktr_units); (case mt | md | m1 => k_mem); (case h0 | h1 | hx => k_asm); (try dsimp only); (try k_fold))))
local macro_rules | `(tactic| walk_at "call ref") => `(tactic| (k_here; (with_reducible show wpAny _ _ (call (Value.ref 77) _) _ _ _); k_dflt (refine' name_ctr ?B ?F ?X ?N ?T ?hk ?hdp ?hun ?mt ?md ?m1 ?h0 ?h1 ?hx ?hq (fun tv' h' tk' F' N' => ?_); (case B | F | X | T | N => k_asm); (case hk => exact rfl); (case hdp => ktr_room); (case hun => ktr_units); (case mt | md | m1 => k_mem); (case h0 | h1 | hx => k_asm); (case hq => k_mem); (try dsimp only); (try k_fold))))
local macro_rules | `(tactic| walk_at "call ref") => `(tactic| (k_here; (with_reducible show wpAny _ _ (call (Value.ref 84) _) _ _ _); k_dflt (refine' arity_ctr ?B ?F ?X ?N ?T ?hk ?hdp ?hun ?mt ?md ?m1 ?h0 ?h1 ?hx ?hq (fun tv' h' tk' F' N' => ?_); (case B | F | X | T | N => k_asm); (case hk => exact rfl); (case hdp => ktr_room); (case hun => ktr_units); (case mt | md | m1 => k_mem); (case h0 | h1 | hx => k_asm); (case hq => k_mem); (try dsimp only); (try k_fold))))
local macro_rules | `(tactic| walk_at "call ref") => `(tactic| (k_here; (with_reducible show wpAny _ _ (call (Value.ref 91) _) _ _ _); k_dflt (refine' label_ctr ?B ?F ?X ?N ?T ?hk ?hdp ?hun ?mt ?md ?m1 ?m2 ?h0 ?h1 ?hx ?hq ?h2 ?h3 ?hx2 ?hxl ?h4 ?h5 (fun tv' h' tk' F' N' => ?_); (case B | F | X | T | N => k_asm); (case hk => exact rfl); (case hdp => ktr_room); (case hun => ktr_units); (case mt | md | m1 | m2 => k_mem); (case h0 | h1 | hx => k_asm); (case hq => k_mem); (case h2 | h3 | hx2 | hxl | h4 | h5 => k_asm); (try dsimp only); (try k_fold))))
local macro_rules | `(tactic| walk_at "call ref") => `(tactic| (k_here; (with_reducible show wpAny _ _ (call (Value.ref 112) _) _ _ _); k_dflt (refine' known_ctr ?B ?F ?X ?N ?T ?hk ?hdp ?hun ?mt ?md ?m1 ?m2 ?lo1 ?lo2 ?hA ?hF ?hK ?hsub (fun tv' h' tk' F' N' => ?_); (case B | F | X | T | N => k_asm); (case hk => exact rfl); (case hdp => ktr_room); (case hun => ktr_units); (case mt | md | m1 | m2 => k_mem); (case lo1 | lo2 | hA | hF => k_asm); (case hK => first | k_asm | exact KeysAt.mono (by assumption) (fun p hp => by simp [hp])); (case hsub => k_asm); (try dsimp only); (try k_fold))))
local macro_rules | `(tactic| walk_at "call builtin:len") => `(tactic| (k_here; (with_reducible show wpAny _ _ (call (Value.builtin _) [Value.ref _]) _ _ _); k_dflt (refine' lst_len ?N ?m ?S ?lo ?_; (case N => k_asm); (case m => k_mem); (case S | lo => k_asm))))
local macro_rules | `(tactic| walk_at "subscriptTail") => `(tactic| (k_here; (with_reducible show wpAny _ _ (subscriptTail _ _ (Value.ref _) (Value.int _ _)) _ _ _); k_dflt (refine' lst_item ?N ?m ?h0 ?h1 ?x ?_; (case N => k_asm); (case m => k_mem); (case h0 | h1 | x => k_asm))))
local macro_rules | `(tactic| walk_at "exec For Name Call cons nil") => `(tactic| (k_here; (rename Fr _ _ _ _ => lF'); (with_unfolding_all refine' For_invVF lF' ?k1 ?k2 ?_; (case k1 | k2 => exact rfl); k_whole)))
local macro_rules | `(tactic| walk_at "pyIter ref") => `(tactic| ((with_reducible show wpAny _ _ (pyIter (Value.ref _)) (fun it s₂ => LoopAtV _ _ _ _ _ _ _ _ _ it s₂) _ _); refine Stop.intro ?_))
local macro_rules | `(tactic| walk_at "InvEndG") => `(tactic| (refine Stop.intro ?_))
set_option maxRecDepth 100000 in
set_option maxHeartbeats 8000000 in
theorem agrees_ctr {w : World} {mean : ExcName → Option Value} {mg mb : Str → Option Value}
    {dp un : Nat} {gd : Option (List Code)} {cn : Str} {cs : Scope} {a : Addr} {ccd : Value} {cl : List (Str × Addr)} {outer : List Env} {A₀ : Around} {base h₀ : Heap} {L : Addr} {m : Str → Option Value} {s : Shared} {Q E : Value → Shared → Prop}
    {t d tx an fs fn : Addr} {c1 c2 c3 c4 : Int} {k1 k2 k3 k4 : Tok} {nd : Nat} {news : List (Addr × Obj)} {qs pqs : List Addr} {ns : List Str} {ps : List (Str × Int)} {nl pl : Addr} {vs nvs : List Value} {nv nu nn1 nn2 : Nat} {oan ofn : Obj}
    (B : Below A₀ base outer h₀) (F : Fr h₀ L s.heap m) (X : (hd.heap_39 w.params).In h₀) (N : News h₀ L s.heap news)
    (T : Top hd.view_39 (looseW hd.view_39 []) mean mg mb h₀) (hk : cs.kind = .function) (hdp : dp + 20 < recursionLimit) (hun : un + 200 < cLine)
    (hmt : (t, instObj 115 d) ∈ news) (hmd : (d, dictOf [⟨c1, .str (Str.ofString "texts") k1, .ref tx⟩, ⟨c2, .str (Str.ofString "atom_numbers") k2, .ref an⟩, ⟨c3, .str (Str.ofString "functors") k3, .ref fs⟩, ⟨c4, .str (Str.ofString "functor_numbers") k4, .ref fn⟩] nd) ∈ news)
    (hm1 : (tx, listOf vs.toArray nv) ∈ news) (hm2 : (an, oan) ∈ news) (hm3 : (fs, listOf (qs.map Value.ref).toArray nu) ∈ news) (hm4 : (fn, ofn) ∈ news) (hm5 : (nl, listOf nvs.toArray nn1) ∈ news) (hm6 : (pl, listOf (pqs.map Value.ref).toArray nn2) ∈ news)
    (lo1 : (an == sysModules) = false) (lo2 : (fn == sysModules) = false) (hS : StrsAre vs ns) (hA : AtomDict w oan ns) (hF : FunDict w ofn qs (ps.map (fkey ns))) (hK : KeysAt news qs (ps.map (fkey ns))) (hsub : ∀ p ∈ ps, p.1 ∈ ns)
    (hnd1 : ns.Nodup) (hnd : ps.Nodup) (hS2 : StrsAre nvs ns) (hP : PairsAt news pqs ps) (hlen1 : ns.length ≤ 1000) (hlen2 : ps.length ≤ 1000) (hsz : ∀ p ∈ ps, p.1.length ≤ 100 ∧ 0 ≤ p.2 ∧ p.2 ≤ 8)
    (hret : ∀ (h' : Heap) (tk' : Nat), Fr h₀ L h' m → News h₀ L h' news → Q (.bool true) { s with heap := h', toks := tk' }) :
    wpAny (model Challenge.rw_ok0005_01.row.prog w) (ktrTop dp un gd cn cs L a ccd cl outer) (call (.ref 140) [.ref t, .ref nl, .ref pl]) Q E s := by

  have f1 := StrsAre.length hS
  have f2 := StrsAre.length hS2
  have f3 : (qs.map Value.ref).length = ps.length := by have := hK.1; rw [List.length_map] at this ⊢; exact this
  have f4 : (pqs.map Value.ref).length = ps.length := by rw [List.length_map]; exact hP.1
  revert X; k_fill; intro X
  refine wpAny_call ?_
  k_dflt ktr_enter
  k_steps
  · exact absurd rfl (by assumption)
  · exact absurd rfl (by assumption)
  unfold Stop
  (rename IsRange _ _ _ _ _ _ _ _ => hR9); (rename Fr _ _ _ _ => hF9); (rename News _ _ _ _ => hN9)
  k_dflt (refine rng_loopS [] (fun _ nx => nx = news) (by rfl) hR9 rfl hlen1 hF9 hN9 rfl (fun i t9 u9 nx h9 tk9 own hi hoff hnx F' N' => ?_) (fun u9 nx h9 tk9 hnx F' N' => ?_))
  · rw [hnx] at hoff N'
    obtain ⟨y1, hy1⟩ : ∃ y, ns[i]? = some y := ⟨_, List.getElem?_eq_getElem hi⟩
    obtain ⟨ta1, hv1⟩ := StrsAre.get hS i y1 hy1
    obtain ⟨ta2, hv2⟩ := StrsAre.get hS2 i y1 hy1
    have g0 : (0 : Int) ≤ (i : Int) := by omega
    have g1 : (i : Int) < 2 ^ 63 := by omega
    have g2 : vs[((i : Nat) : Int).toNat]? = some (.str y1 ta1) := hv1
    have g3 : nvs[((i : Nat) : Int).toNat]? = some (.str y1 ta2) := hv2
    clear hR9 hF9 hN9
    (with_reducible show wpAny _ _ _ _ _ _)
    k_fold
    k_steps
    · exact absurd (by assumption : (y1 != y1) = true) (by simp)
    · unfold Stop
      refine InvEndG.intro (by assumption) (by assumption) ⟨fun z h1 h2 => ?_, rfl⟩ hoff (fun p hp => List.mem_append_left _ hp) (fun p hp => List.mem_append_right _ hp)
      dsimp only
      rw [if_neg h1, h2]
      rfl
  · rw [hnx] at N'
    clear hR9 hF9 hN9
    (with_reducible show wpAny _ _ _ _ _ _)
    try k_fold
    k_steps
    unfold Stop
    (rename IsRange _ _ _ _ _ _ _ _ => hR9); (rename Fr _ _ _ _ => hF9); (rename News _ _ _ _ => hN9)
    k_dflt (refine rng_loopS [Str.ofString "word", Str.ofString "size_of"] (fun _ nx => nx = news) (by rfl) hR9 rfl hlen2 hF9 hN9 rfl (fun i t9 u9 nx h9 tk9 own hi hoff hnx F' N' => ?_) (fun u9 nx h9 tk9 hnx F' N' => ?_))
    · rw [hnx] at hoff N'
      clear hR9 hF9 hN9
      obtain ⟨⟨y, r⟩, hp⟩ : ∃ p, ps[i]? = some p := ⟨_, List.getElem?_eq_getElem hi⟩
      have hpm : (y, r) ∈ ps := List.mem_of_getElem? hp
      have hyn : y ∈ ns := hsub _ hpm
      obtain ⟨z1, z2, z3⟩ := hsz _ hpm
      dsimp only at z1 z2 z3
      obtain ⟨q1, ta1, ta2, e1, hq1⟩ := PairsAt.get hP hp
      obtain ⟨q2, a2, r2, tb1, tb2, e0, e2, hq2⟩ := KeysAt.get hK (k := fkey ns (y, r)) (by rw [List.getElem?_map, hp]; rfl)
      unfold fkey at e0
      injection e0 with e01 e02
      injection e02 with e02 _
      subst e01 e02
      obtain ⟨tc, hv1⟩ := StrsAre.get hS (idx ns y) y (idx_get hyn)
      have hix : idx ps (y, r) = i := idx_nodup hnd hp
      have hlt := idx_lt hyn
      have g0 : (0 : Int) ≤ (i : Int) := by omega
      have g1 : (i : Int) < 2 ^ 63 := by omega
      have g2 : (pqs.map Value.ref)[((i : Nat) : Int).toNat]? = some (.ref q1) := by simp [e1]
      have g3 : (qs.map Value.ref)[((i : Nat) : Int).toNat]? = some (.ref q2) := by simp [e2]
      have g4 : (0 : Int) ≤ ((idx ns y : Nat) : Int) := by omega
      have g5 : ((idx ns y : Nat) : Int) < 2 ^ 63 := by omega
      have g6 : vs[((idx ns y : Nat) : Int).toNat]? = some (.str y tc) := hv1
      (with_reducible show wpAny _ _ _ _ _ _)
      try k_fold
      k_steps
      · exact absurd (by assumption : (y != y) = true) (by simp)
      · exact absurd rfl (by assumption : r ≠ r)
      · exact absurd (by assumption : (y ++ Str.ofString "/" ++ Str.ofString (toString r) != y ++ Str.ofString "/" ++ Str.ofString (toString r)) = true) (by simp)
      · exact absurd (by rw [if_pos hpm, hix]) (by assumption : ¬ (if (y, r) ∈ ps then ((idx ps (y, r) : Nat) : Int) else -1) = (i : Int))
      · unfold Stop
        refine InvEndG.intro (by assumption) (by assumption) ⟨fun z h1 h2 => ?_, rfl⟩ hoff (fun p hp => List.mem_append_left _ hp) (fun p hp => List.mem_append_right _ hp)
        have n1 : z ≠ Str.ofString "word" := fun e => by rw [e] at h2; exact absurd h2 (by decide)
        have n2 : z ≠ Str.ofString "size_of" := fun e => by rw [e] at h2; exact absurd h2 (by decide)
        dsimp only
        rw [if_neg n2, if_neg n1, if_neg h1, h2]
        rfl
    · rw [hnx] at N'
      clear hR9 hF9 hN9
      (with_reducible show wpAny _ _ _ _ _ _)
      try k_fold
      k_steps
      exact hret _ _ (by assumption) (by assumption)
end Mine


end
section
open PySem PySem.W PyProof.Rows PySem.Spec PySem.Calls
namespace Mine

local macro_rules | `(tactic| k_mem) => `(tactic| first | assumption | (refine List.mem_cons_of_mem _ ?_; k_mem))
local macro_rules | `(tactic| walk_at "call builtin:list.reverse") => `(tactic| (k_here; (with_reducible show wpAny _ _ (call (Value.builtin _) [Value.ref _]) _ _ _); k_dflt (refine' lst_reverse ?F ?N ?a ?e ?_; (case F | N => k_asm); (case a => k_all); (case e => ((rename IntsAre _ (List.take _ _) => hI8); (have hL8 := hI8.length); omega))); intro h' F' N'; (try k_sweep)))
local macro_rules | `(tactic| walk_at "call builtin:list.append") => `(tactic| (k_here; (with_reducible show wpAny _ _ (call (Value.builtin _) [Value.ref _, _]) _ _ _); k_dflt (refine' lst_append ?F ?N ?U ?S ?z ?_; (case F | N => k_asm); (case U => k_upd); (case S | z => k_asm)); intro h' F' N'; (try k_sweep)))
local macro_rules | `(tactic| walk_at "exec For Name Call cons nil") => `(tactic| (k_here; (rename Fr _ _ _ _ => lF'); (with_unfolding_all refine' For_invVF lF' ?k1 ?k2 ?_; (case k1 | k2 => exact rfl); k_whole)))
local macro_rules | `(tactic| walk_at "exec For Name Subscript cons nil") => `(tactic| (k_here; (rename Fr _ _ _ _ => lF'); (with_unfolding_all refine' For_invVF lF' ?k1 ?k2 ?_; (case k1 | k2 => exact rfl); k_whole)))
local macro_rules | `(tactic| walk_at "pyIter ref") => `(tactic| ((with_reducible show wpAny _ _ (pyIter (Value.ref _)) (fun it s₂ => LoopAtV _ _ _ _ _ _ _ _ _ it s₂) _ _); refine Stop.intro ?_))
local macro_rules | `(tactic| walk_at "InvEndG") => `(tactic| (refine Stop.intro ?_))
set_option maxRecDepth 100000 in
set_option maxHeartbeats 8000000 in
theorem digits_ctr {w : World} {mean : ExcName → Option Value} {mg mb : Str → Option Value}
    {dp un : Nat} {gd : Option (List Code)} {cn : Str} {cs : Scope} {a : Addr} {ccd : Value} {cl : List (Str × Addr)} {outer : List Env} {A₀ : Around} {base h₀ : Heap} {L : Addr} {m : Str → Option Value} {s : Shared} {Q E : Value → Shared → Prop}
    {l : Addr} {vs : List Value} {ns : List Int}
    (B : Below A₀ base outer h₀) (F : Fr h₀ L s.heap m) (X : (hd.heap_39 w.params).In h₀) (N : News h₀ L s.heap [])
    (T : Top hd.view_39 (looseW hd.view_39 []) mean mg mb h₀) (hk : cs.kind = .function) (hdp : dp + 10 < recursionLimit) (hun : un + 100 < cLine)
    (hl : h₀.IsList l vs.toArray) (hi : IntsAre vs ns) (hlen : ns.length ≤ 63)
    (hret : ∀ (hp : Addr) (ws : List Value) (ms : List Int) (n' : Nat) (h' : Heap) (tk' : Nat), IntsAre ws ms → ms.length ≤ 150 → Fr h₀ L h' m → News h₀ L h' [(hp, listOf ws.toArray n')] → Q (.ref hp) { s with heap := h', toks := tk' }) :
    wpAny (model Challenge.rw_ok0005_01.row.prog w) (ktrTop dp un gd cn cs L a ccd cl outer) (call (.ref 126) [.ref l]) Q E s := by

  revert X; k_fill; intro X
  refine wpAny_call ?_
  k_dflt ktr_enter
  (rename Fr h₀ L _ _ => FG9)
  have hl9 := hl.at fun o e => FG9.keep l o e
  k_steps
  rename_i D9 ws9 h9 F9 N9 hI9 hC9 hL9 hlt9
  unfold Stop
  have hW := hI9.length
  have hW2 : ws9.length ≤ 60 := by omega
  (rename News _ _ _ [(D9, _), (_, _)] => N9)
  k_dflt (refine lst_loopS [Str.ofString "left_now", Str.ofString "lap"] (fun i nx => ∃ us ms k, IntsAre us ms ∧ ms.length ≤ 12 * i ∧ nx = [(D9, listOf ws9.toArray 0), (_, listOf us.toArray k)]) (by rfl) (List.Mem.head _) F9 N9 ⟨[], [], 0, .nil, by simp, rfl⟩ (fun i v u nx h tk own hv hoff hmem hK F' N' => ?_) (fun u nx h tk hK F' N' => ?_))
  · obtain ⟨us, ms, k, hus, hms, hnx⟩ := hK
    rw [hnx] at hoff N'
    obtain ⟨c, tc, hc⟩ := ints_item hI9 hv
    rw [hc] at F'
    have hoff2 : OwnOff own [D9, _] := hoff
    have hi60 : i < 60 := by have := (List.getElem?_eq_some_iff.mp hv).1; omega
    (with_reducible show wpAny _ _ _ _ _ _)
    try k_fold
    k_steps
    all_goals (
      unfold Stop
      (rename IsRange _ _ _ _ _ _ _ _ => hR9); (rename Fr _ _ _ _ => hF9); (rename News _ _ _ _ => hN9)
      k_dflt (refine rng_loopV (n := 12) (Str.ofString "left_now") (fun j nx => ∃ us' ms' k', IntsAre us' ms' ∧ ms'.length ≤ ms.length + j ∧ nx = (D9, listOf ws9.toArray 0) :: (_, listOf us'.toArray k') :: own) (by rfl) hR9 rfl (by decide) hF9 hN9 ⟨_, _, rfl⟩ ⟨us, ms, k, hus, Nat.le_refl _, rfl⟩ (fun j tj v tv nx2 h2 tk2 own2 hj hoffj hK2 F2 N2 => ?_) (fun u2 v tv nx2 h2 tk2 hK2 F2 N2 => ?_))
      · obtain ⟨us', ms', k', hus', hms', hnx2⟩ := hK2
        rw [hnx2] at hoffj N2
        have hoffj2 := off_two hoffj
        have hoffj3 := off_app hoff2 hoffj2
        have hSl := hus'.length
        have hZ : ms'.length ≤ 1000 := by omega
        simp only [List.cons_append] at N2
        clear hR9 hF9 hN9
        (with_reducible show wpAny _ _ _ _ _ _)
        try k_fold
        k_steps
        · unfold Stop
          refine InvEndG.intro (by assumption) (by assumption) ⟨List.Mem.head _, fun z z1 z2 => ?_, us' ++ [_], ms' ++ [_], _, IntsAre.append hus' (.cons _ _ .nil), by simp; omega, rfl⟩ hoff2 (fun p hp => List.mem_append_left (own ++ own2) hp) (fun p hp => by simp only [List.mem_cons, List.mem_append, hp, true_or, or_true])
          · have n1 : z ≠ Str.ofString "left_now" := fun e => by rw [e] at z2; exact absurd z2 (by decide)
            have n2 : z ≠ Str.ofString "lap" := fun e => by rw [e] at z2; exact absurd z2 (by decide)
            simp only [if_neg n1, if_neg n2, if_neg z1, z2, Bool.false_eq_true, if_false]
        · unfold Stop
          refine InvEndG.intro (by assumption) (by assumption) ⟨⟨_, _, rfl⟩, fun z z1 z2 => ?_, us' ++ [_], ms' ++ [_], _, IntsAre.append hus' (.cons _ _ .nil), by simp; omega, rfl⟩ hoffj (fun p hp => List.mem_append_left own2 hp) (fun p hp => by simp only [List.mem_cons, List.mem_append, hp, true_or, or_true])
          · simp only [if_neg z1, if_neg z2]
      · obtain ⟨us', ms', k', hus', hms', hnx2⟩ := hK2
        rw [hnx2] at N2
        clear hR9 hF9 hN9
        (with_reducible show wpAny _ _ _ _ _ _)
        try k_fold
        k_steps
        · unfold Stop
          refine InvEndG.intro (by assumption) (by assumption) ⟨List.Mem.head _, fun z z1 z2 => ?_, us', ms', _, hus', by omega, rfl⟩ hoff2 (fun p hp => List.mem_append_left own hp) (fun p hp => by simp only [List.mem_cons, List.mem_append, hp, true_or, or_true])
          · have n1 : z ≠ Str.ofString "left_now" := fun e => by rw [e] at z2; exact absurd z2 (by decide)
            have n2 : z ≠ Str.ofString "lap" := fun e => by rw [e] at z2; exact absurd z2 (by decide)
            simp only [if_neg n1, if_neg n2, if_neg z1, z2, Bool.false_eq_true, if_false])
  · obtain ⟨us, ms, k, hus, hms, hnx⟩ := hK
    rw [hnx] at N'
    have hSl := hus.length
    have hZ : ms.length ≤ 1000 := by omega
    (with_reducible show wpAny _ _ _ _ _ _)
    try k_fold
    k_steps
    · (rename IntsAre _ (List.take _ _) => hI8)
      exact hret _ _ _ _ _ _ (IntsAre.reverse hI8) (by simp; omega) (by assumption) (kst_newsOf (by assumption) (fun p hp => by rw [List.mem_singleton.mp hp]; exact List.Mem.head _))
end Mine


end
section
open PySem PySem.W PyProof.Rows PySem.Spec PySem.Calls
namespace Mine

noncomputable def fixA : List Str := [Str.ofString "[]", Str.ofString ".", Str.ofString "{}", Str.ofString "-", Str.ofString "+", Str.ofString "*", Str.ofString "/", Str.ofString ",", Str.ofString "|", Str.ofString ";", Str.ofString "->", Str.ofString "\\+", Str.ofString ":-", Str.ofString "?-", Str.ofString "-->", Str.ofString "!", Str.ofString "true", Str.ofString "fail", Str.ofString "false", Str.ofString "call", Str.ofString "=", Str.ofString "^", Str.ofString "error", Str.ofString "", Str.ofString "end_of_file", Str.ofString "system", Str.ofString "$VAR", Str.ofString "catch", Str.ofString "throw"]
noncomputable def fixF : List (Str × Int) := [(Str.ofString ".", 2), (Str.ofString ",", 2), (Str.ofString ";", 2), (Str.ofString "->", 2), (Str.ofString "\\+", 1), (Str.ofString ":-", 2), (Str.ofString ":-", 1), (Str.ofString "?-", 1), (Str.ofString "-->", 2), (Str.ofString "{}", 1), (Str.ofString "=", 2), (Str.ofString "^", 2), (Str.ofString "-", 1), (Str.ofString "-", 2), (Str.ofString "+", 2), (Str.ofString "/", 2), (Str.ofString "error", 2), (Str.ofString "$VAR", 1), (Str.ofString "catch", 3), (Str.ofString "throw", 1), (Str.ofString "!", 0), (Str.ofString "true", 0), (Str.ofString "fail", 0), (Str.ofString "false", 0), (Str.ofString "call", 1), (Str.ofString "call", 2), (Str.ofString "call", 3), (Str.ofString "call", 4), (Str.ofString "call", 5), (Str.ofString "call", 6), (Str.ofString "call", 7), (Str.ofString "call", 8)]
theorem fixA_nodup : fixA.Nodup := by decide +kernel
theorem fixF_nodup : fixF.Nodup := by decide +kernel
theorem fixF_sub : ∀ p ∈ fixF, p.1 ∈ fixA := by decide +kernel
theorem fixF_small : ∀ p ∈ fixF, p.1.length ≤ 100 ∧ 0 ≤ p.2 ∧ p.2 ≤ 8 := by decide +kernel
theorem fixA_len : fixA.length = 29 := rfl
theorem fixF_len : fixF.length = 32 := rfl

set_option maxRecDepth 100000 in
set_option maxHeartbeats 8000000 in
theorem fixA_ctr {w : World} {mean : ExcName → Option Value} {mg mb : Str → Option Value}
    {dp un : Nat} {gd : Option (List Code)} {cn : Str} {cs : Scope} {a : Addr} {ccd : Value} {cl : List (Str × Addr)} {outer : List Env} {A₀ : Around} {base h₀ : Heap} {L : Addr} {m : Str → Option Value} {s : Shared} {Q E : Value → Shared → Prop}
    {news : List (Addr × Obj)}
    (B : Below A₀ base outer h₀) (F : Fr h₀ L s.heap m) (X : (hd.heap_39 w.params).In h₀) (N : News h₀ L s.heap news)
    (T : Top hd.view_39 (looseW hd.view_39 []) mean mg mb h₀) (hk : cs.kind = .function) (hdp : dp + 10 < recursionLimit) (hun : un + 100 < cLine)
    
    (hret : ∀ (q : Addr) (vs : List Value) (h' : Heap) (tk' : Nat), StrsAre vs fixA → Fr h₀ L h' m → News h₀ L h' ((q, tupObj vs) :: news) → (∀ p ∈ news, @LT.lt Nat _ p.1 q) → Q (.ref q) { s with heap := h', toks := tk' }) :
    wpAny (model Challenge.rw_ok0005_01.row.prog w) (ktrTop dp un gd cn cs L a ccd cl outer) (call (.ref 21) []) Q E s := by

  revert X; k_fill; intro X
  refine wpAny_call ?_
  k_dflt ktr_enter
  k_steps
  · refine hret _ _ _ _ ?_ (by assumption) (by assumption) (by assumption)
    repeat (first | exact StrsAre.nil | refine StrsAre.cons _ _ ?_)


set_option maxRecDepth 100000 in
set_option maxHeartbeats 8000000 in
theorem fixF_ctr {w : World} {mean : ExcName → Option Value} {mg mb : Str → Option Value}
    {dp un : Nat} {gd : Option (List Code)} {cn : Str} {cs : Scope} {a : Addr} {ccd : Value} {cl : List (Str × Addr)} {outer : List Env} {A₀ : Around} {base h₀ : Heap} {L : Addr} {m : Str → Option Value} {s : Shared} {Q E : Value → Shared → Prop}
    {news : List (Addr × Obj)}
    (B : Below A₀ base outer h₀) (F : Fr h₀ L s.heap m) (X : (hd.heap_39 w.params).In h₀) (N : News h₀ L s.heap news)
    (T : Top hd.view_39 (looseW hd.view_39 []) mean mg mb h₀) (hk : cs.kind = .function) (hdp : dp + 10 < recursionLimit) (hun : un + 100 < cLine)
    
    (hret : ∀ (q : Addr) (pqs : List Addr) (add : List (Addr × Obj)) (h' : Heap) (tk' : Nat), PairsAt add pqs fixF → OwnOff add (news.map (·.1)) → Fr h₀ L h' m → News h₀ L h' ((q, tupObj (pqs.map Value.ref)) :: (news ++ add)) → (∀ p ∈ news ++ add, @LT.lt Nat _ p.1 q) → Q (.ref q) { s with heap := h', toks := tk' }) :
    wpAny (model Challenge.rw_ok0005_01.row.prog w) (ktrTop dp un gd cn cs L a ccd cl outer) (call (.ref 28) []) Q E s := by

  revert X; k_fill; intro X
  refine wpAny_call ?_
  k_dflt ktr_enter
  k_steps
  · (rename News h₀ L _ _ => kN)
    (rename _ ∧ _ => l9)
    refine hret _ [_, _, _, _, _, _, _, _, _, _, _, _, _, _, _, _, _, _, _, _, _, _, _, _, _, _, _, _, _, _, _, _] [(_, _), (_, _), (_, _), (_, _), (_, _), (_, _), (_, _), (_, _), (_, _), (_, _), (_, _), (_, _), (_, _), (_, _), (_, _), (_, _), (_, _), (_, _), (_, _), (_, _), (_, _), (_, _), (_, _), (_, _), (_, _), (_, _), (_, _), (_, _), (_, _), (_, _), (_, _), (_, _)] _ _ ?_ ?_ (by assumption) (news_comm kN) (lt_comm l9)
    · repeat (first | exact PairsAt.nil | refine PairsAt.cons (by repeat (first | exact List.Mem.head _ | refine List.Mem.tail _ ?_)) ?_)
    · repeat (first | exact off_nil | refine off_consN (by first | tbn_find | exact allLt_of (by assumption)) ?_)
end Mine


end
section
open PySem PySem.W PyProof.Rows PySem.Spec PySem.Calls
namespace Mine

local macro_rules | `(tactic| k_mem) => `(tactic| first | assumption | (refine List.mem_cons_of_mem _ ?_; k_mem))
local macro_rules | `(tactic| ktr_units) => `(tactic| first | (have hcL9 := cLine_is; (simp only [units_under_make, units_in1, units_deeper, Around.mark_units, units_caller] at *); (dsimp only [ktrTop] at *); omega) | (have hcL9 := cLine_is; (simp only [units_under_make, units_in1, units_deeper, Around.mark_units, units_caller]); omega))
local macro_rules | `(tactic| walk_at "subscriptTail") => `(tactic| (k_here; (with_reducible show wpAny _ _ (subscriptTail _ _ (Value.ref _) (Value.int _ _)) _ _ _); k_dflt (refine' item_tupleT ?t ?a ?b ?c ?d ?_; (case t => exact News.isTup (by k_asm) (by k_mem)); (case a | b => decide); (case c | d => rfl); k_whole)))
local macro_rules | `(tactic| walk_at "subscriptTail Name Constant ref int") => `(tactic| (k_here; (with_reducible show wpAny _ _ (subscriptTail _ _ (Value.ref _) (Value.int _ _)) _ _ _); k_dflt (refine' item_tupleT ?t ?a ?b ?c ?d ?_; (case t => exact News.isTup (by k_asm) (by k_mem)); (case a | b => decide); (case c | d => rfl); k_whole)))
local macro_rules | `(tactic| walk_at "subscriptTail Subscript Constant ref int") => `(tactic| (k_here; (with_reducible show wpAny _ _ (subscriptTail _ _ (Value.ref _) (Value.int _ _)) _ _ _); k_dflt (refine' item_tupleT ?t ?a ?b ?c ?d ?_; (case t => exact News.isTup (by k_asm) (by k_mem)); (case a | b => decide); (case c | d => rfl); k_whole)))
local macro_rules | `(tactic| walk_at "getMethod ref") => `(tactic| (k_here; k_dflt (refine' method_inst ?k1 ?k2 ?k3 ?k4 ?k5 ?k6 ?k7 ?_; (case k1 | k2 => k_asm); (case k3 => k_inst); (case k4 | k5 | k6 => k_is); (case k7 => k_get); k_whole)))
local macro_rules | `(tactic| walk_at "call ref") => `(tactic| (k_here; (with_reducible show wpAny _ _ (call (Value.ref 21) _) _ _ _); k_dflt (refine' fixA_ctr ?B ?F ?X ?N ?T ?hk ?hdp ?hun  (fun q' vs' h' tk' hS' F' N' hlt' => ?_); (case B | F | X | T | N => k_asm); (case hk => exact rfl); (case hdp => ktr_room); (case hun => ktr_units); (try dsimp only); (try k_fold))))
local macro_rules | `(tactic| walk_at "call ref") => `(tactic| (k_here; (with_reducible show wpAny _ _ (call (Value.ref 28) _) _ _ _); k_dflt (refine' fixF_ctr ?B ?F ?X ?N ?T ?hk ?hdp ?hun  (fun q' pqs' add' h' tk' hP' hadd' F' N' hlt' => ?_); (case B | F | X | T | N => k_asm); (case hk => exact rfl); (case hdp => ktr_room); (case hun => ktr_units); (try dsimp only); (try k_fold))))
local macro_rules | `(tactic| walk_at "call ref") => `(tactic| (k_here; (with_reducible show wpAny _ _ (call (Value.ref 49) _) _ _ _); k_dflt (refine' atom_ctr ?B ?F ?X ?N ?T ?hk ?hdp ?hun ?o1 ?o2 ?o3 ?o4 ?o5 ?hoff ?lo ?hS ?hA ?hlen (fun tv' vs' nv' oan' h' tk' hS' hA' F' N' => ?_); (case B | F | X | T | N => k_asm); (case hk => exact rfl); (case hdp => ktr_room); (case hun => ktr_units); (case o1 | o2 | o3 | o4 | o5 | hoff | lo | hS | hA | hlen => k_asm); (try dsimp only); (try k_fold))))
local macro_rules | `(tactic| walk_at "call ref") => `(tactic| (k_here; (with_reducible show wpAny _ _ (call (Value.ref 70) _) _ _ _); k_dflt (refine' func_ctr ?B ?F ?X ?N ?T ?hk ?hdp ?hun ?o1 ?o2 ?o3 ?o4 ?o5 ?hoff ?lo1 ?lo2 ?hS ?hA ?hlen1 ?hus ?hF ?hbs ?hK ?hlen2 ?hsub (fun tv' vs' nv' oan' qs' nu' ofn' add' h' tk' hS' hA' hadd' hF' hK' F' N' => ?_); (case B | F | X | T | N => k_asm); (case hk => exact rfl); (case hdp => ktr_room); (case hun => ktr_units); (case o1 | o2 | o3 | o4 | o5 | hoff | lo1 | lo2 | hS | hA | hlen1 => k_asm); (case hus => first | k_asm | exact rfl); (case hF | hbs | hK | hlen2 | hsub => k_asm); (try dsimp only); (try k_fold))))
local macro_rules | `(tactic| walk_at "exec For Name Call cons nil") => `(tactic| (k_here; (rename Fr _ _ _ _ => lF'); (with_unfolding_all refine' For_invVF lF' ?k1 ?k2 ?_; (case k1 | k2 => exact rfl); k_whole)))
local macro_rules | `(tactic| walk_at "pyIter ref") => `(tactic| ((with_reducible show wpAny _ _ (pyIter (Value.ref _)) (fun it s₂ => LoopAtV _ _ _ _ _ _ _ _ _ it s₂) _ _); refine Stop.intro ?_))
local macro_rules | `(tactic| walk_at "InvEndG") => `(tactic| (refine Stop.intro ?_))
set_option maxRecDepth 100000 in
set_option maxHeartbeats 8000000 in
theorem init_ctr {w : World} {mean : ExcName → Option Value} {mg mb : Str → Option Value}
    {dp un : Nat} {gd : Option (List Code)} {cn : Str} {cs : Scope} {a : Addr} {ccd : Value} {cl : List (Str × Addr)} {outer : List Env} {A₀ : Around} {base h₀ : Heap} {L : Addr} {m : Str → Option Value} {s : Shared} {Q E : Value → Shared → Prop}
    {news : List (Addr × Obj)}
    (B : Below A₀ base outer h₀) (F : Fr h₀ L s.heap m) (X : (hd.heap_39 w.params).In h₀) (N : News h₀ L s.heap news)
    (T : Top hd.view_39 (looseW hd.view_39 []) mean mg mb h₀) (hk : cs.kind = .function) (hdp : dp + 40 < recursionLimit) (hun : un + 400 < cLine)
    
    (hret : ∀ (t d tx an fs fn : Addr) (c1 c2 c3 c4 : Int) (k1 k2 k3 k4 : Tok) (nd nv nu : Nat) (vs : List Value) (qs : List Addr) (oan ofn : Obj) (add : List (Addr × Obj)) (h' : Heap) (tk' : Nat), @LT.lt Nat _ d t → @LT.lt Nat _ t tx → @LT.lt Nat _ tx an → @LT.lt Nat _ an fs → @LT.lt Nat _ fs fn → (∀ p ∈ news, @LT.lt Nat _ p.1 d) →
      OwnOff (news ++ add) [t, d, tx, an, fs, fn] → OwnOff add (news.map (·.1)) → (an == sysModules) = false → (fn == sysModules) = false → StrsAre vs fixA → AtomDict w oan fixA → FunDict w ofn qs (fixF.map (fkey fixA)) → KeysAt (news ++ add) qs (fixF.map (fkey fixA)) → Fr h₀ L h' m →
      News h₀ L h' ((t, instObj 115 d) :: (d, dictOf [⟨c1, .str (Str.ofString "texts") k1, .ref tx⟩, ⟨c2, .str (Str.ofString "atom_numbers") k2, .ref an⟩, ⟨c3, .str (Str.ofString "functors") k3, .ref fs⟩, ⟨c4, .str (Str.ofString "functor_numbers") k4, .ref fn⟩] nd) :: (tx, listOf vs.toArray nv) :: (an, oan) :: (fs, listOf (qs.map Value.ref).toArray nu) :: (fn, ofn) :: (news ++ add)) → Q (.ref t) { s with heap := h', toks := tk' }) :
    wpAny (model Challenge.rw_ok0005_01.row.prog w) (ktrTop dp un gd cn cs L a ccd cl outer) (call (.ref 115) []) Q E s := by

  revert X; k_fill; intro X
  k_dflt (refine' call_cls ?k1 ?k2 ?k3 ?k4 ?k5 ?k6 ?_; (case k1 => k_asm); (case k2 => k_asm); (case k3 => k_asm); (case k4 => k_is); (case k5 => k_is); (case k6 => k_is); k_whole)
  intro t d h' F' N' l1 l2
  (try k_lt l1); (try k_lt2 l2)
  k_dflt ktr_enter
  k_steps
  rename_i g' L' h9 FG' B' X' T' qk9 ek9 tk1 tx h8 m1 h7 tk2 an h6 oan lo1 hs1 fs1 hi1 fi1 m2 h5 fs h4 m3 h3 fn h2 ofn lo2 hs2 fs2 hi2 fi2 m4 h1 F1 N1 q vs0 h0 tk0 hS0 F0 N0 hlt0
  obtain ⟨c1, c2, c3, c4, k1, k2, k3, k4, nd, hN⟩ : ∃ (c1 c2 c3 c4 : Int) (k1 k2 k3 k4 : Tok) (nd : Nat), News g' L' h0 ((q, tupObj vs0) :: (fn, ofn) :: (fs, listOf #[] 0) :: (an, oan) :: (tx, listOf #[] 0) :: (t, instObj 115 d) :: (d, dictOf [⟨c1, .str (Str.ofString "texts") k1, .ref tx⟩, ⟨c2, .str (Str.ofString "atom_numbers") k2, .ref an⟩, ⟨c3, .str (Str.ofString "functors") k3, .ref fs⟩, ⟨c4, .str (Str.ofString "functor_numbers") k4, .ref fn⟩] nd) :: news) := ⟨_, _, _, _, _, _, _, _, _, N0⟩
  have o1 : @LT.lt Nat _ d t := l2
  have o2 : @LT.lt Nat _ t tx := m1.1
  have o3 : @LT.lt Nat _ tx an := m2.1
  have o4 : @LT.lt Nat _ an fs := m3.1
  have o5 : @LT.lt Nat _ fs fn := m4.1
  have o6 : @LT.lt Nat _ fn q := hlt0 _ (List.Mem.head _)
  have A0 := atomDict_nil hs1
  have G0 := funDict_nil hi2
  have hoffN := off_below o1 o2 o3 o4 o5 l1
  have hoffQ := off_above (o := tupObj vs0) o1 o2 o3 o4 o5 o6
  unfold Stop
  k_dflt (refine tup_loopS (l := q) (vs := vs0) (news := ((t, instObj 115 d) :: (d, dictOf [⟨c1, .str (Str.ofString "texts") k1, .ref tx⟩, ⟨c2, .str (Str.ofString "atom_numbers") k2, .ref an⟩, ⟨c3, .str (Str.ofString "functors") k3, .ref fs⟩, ⟨c4, .str (Str.ofString "functor_numbers") k4, .ref fn⟩] nd) :: (tx, listOf ([] : List Value).toArray 0) :: (an, oan) :: (fs, listOf ([] : List Value).toArray 0) :: (fn, ofn) :: (q, tupObj vs0) :: news)) [] (fun i nx => ∃ vs nv oan', StrsAre vs (fixA.take i) ∧ AtomDict w oan' (fixA.take i) ∧ nx = ((t, instObj 115 d) :: (d, dictOf [⟨c1, .str (Str.ofString "texts") k1, .ref tx⟩, ⟨c2, .str (Str.ofString "atom_numbers") k2, .ref an⟩, ⟨c3, .str (Str.ofString "functors") k3, .ref fs⟩, ⟨c4, .str (Str.ofString "functor_numbers") k4, .ref fn⟩] nd) :: (tx, listOf vs.toArray nv) :: (an, oan') :: (fs, listOf ([] : List Value).toArray 0) :: (fn, ofn) :: (q, tupObj vs0) :: news)) (by rfl) (.tail _ (.tail _ (.tail _ (.tail _ (.tail _ (.tail _ (.head _))))))) F0 (kst_newsOf hN ?_) ⟨[], 0, oan, .nil, A0, rfl⟩ (fun i v u nx h tk own hv hoff hmem hK F' N' => ?_) (fun u nx h tk hK F' N' => ?_))
  · exact fun p hp => mem_p1 hp
  · obtain ⟨vs, nv, oan', hS, hA, hnx⟩ := hK
    rw [hnx] at hoff N'
    obtain ⟨y, ty, hvy, hy⟩ := StrsAre.item hS0 i v hv
    rw [hvy] at F'
    have hoffR : OwnOff ((q, tupObj vs0) :: (news ++ own)) [t, d, tx, an, fs, fn] := off_cons hoffQ (off_app hoffN (off_six hoff))
    have hlenA : (fixA.take i).length ≤ 1000 := by rw [List.length_take, fixA_len]; omega
    simp only [List.cons_append] at N'
    clear N0 hN F0 N1 F1
    (with_reducible show wpAny _ _ _ _ _ _)
    try k_fold
    k_steps
    unfold Stop
    rename_i tv' vs' nv' oan'' hh' tk' hS' hA' F'' N''
    rw [take_addU fixA_nodup hy] at hS' hA'
    refine InvEndG.intro F'' N'' ⟨(.tail _ (.tail _ (.tail _ (.tail _ (.tail _ (.tail _ (.head _))))))), fun z z1 z2 => ?_, vs', nv', oan'', hS', hA', rfl⟩ hoff (fun p hp => List.mem_append_left own hp) (fun p hp => by simp only [List.mem_cons, List.mem_append, hp, or_true])
    simp only [if_neg z1, z2, Bool.false_eq_true, if_false]
  · obtain ⟨vs, nv, oan', hS, hA, hnx⟩ := hK
    rw [hnx] at N'
    have e0 : fixA.take vs0.length = fixA := by rw [StrsAre.length hS0]; exact List.take_length
    rw [e0] at hS hA
    clear N0 hN F0 N1 F1
    (with_reducible show wpAny _ _ _ _ _ _)
    try k_fold
    k_steps
    unfold Stop
    rename_i q2 pqs addF h2' tk2' hP hadd F2 N2 hlt2
    have o7 : @LT.lt Nat _ fn q2 := hlt2 (fn, ofn) (.tail _ (.tail _ (.tail _ (.tail _ (.tail _ (.head _))))))
    have o8 : @LT.lt Nat _ q q2 := hlt2 (q, tupObj vs0) (.tail _ (.tail _ (.tail _ (.tail _ (.tail _ (.tail _ (.head _)))))))
    have hoffQ2 := off_above (o := tupObj (pqs.map Value.ref)) o1 o2 o3 o4 o5 o7
    have hoffF : OwnOff addF [t, d, tx, an, fs, fn] := off_six hadd
    have hoffRB : OwnOff ((q2, tupObj (pqs.map Value.ref)) :: (q, tupObj vs0) :: (news ++ addF)) [t, d, tx, an, fs, fn] := off_cons hoffQ2 (off_cons hoffQ (off_app hoffN hoffF))
    k_dflt (refine tup_loopS (l := q2) (vs := pqs.map Value.ref) (news := ((t, instObj 115 d) :: (d, dictOf [⟨c1, .str (Str.ofString "texts") k1, .ref tx⟩, ⟨c2, .str (Str.ofString "atom_numbers") k2, .ref an⟩, ⟨c3, .str (Str.ofString "functors") k3, .ref fs⟩, ⟨c4, .str (Str.ofString "functor_numbers") k4, .ref fn⟩] nd) :: (tx, listOf vs.toArray nv) :: (an, oan') :: (fs, listOf ([] : List Value).toArray 0) :: (fn, ofn) :: ((q2, tupObj (pqs.map Value.ref)) :: (q, tupObj vs0) :: (news ++ addF)))) [] (fun i nx => ∃ vs nv oan' qs nu ofn' add, StrsAre vs fixA ∧ AtomDict w oan' fixA ∧ FunDict w ofn' qs ((fixF.take i).map (fkey fixA)) ∧ KeysAt (((q2, tupObj (pqs.map Value.ref)) :: (q, tupObj vs0) :: (news ++ addF)) ++ add) qs ((fixF.take i).map (fkey fixA)) ∧ OwnOff add ([t, d, tx, an, fs, fn] ++ ((q2, tupObj (pqs.map Value.ref)) :: (q, tupObj vs0) :: (news ++ addF)).map (·.1)) ∧ nx = ((t, instObj 115 d) :: (d, dictOf [⟨c1, .str (Str.ofString "texts") k1, .ref tx⟩, ⟨c2, .str (Str.ofString "atom_numbers") k2, .ref an⟩, ⟨c3, .str (Str.ofString "functors") k3, .ref fs⟩, ⟨c4, .str (Str.ofString "functor_numbers") k4, .ref fn⟩] nd) :: (tx, listOf vs.toArray nv) :: (an, oan') :: (fs, listOf (qs.map Value.ref).toArray nu) :: (fn, ofn') :: (((q2, tupObj (pqs.map Value.ref)) :: (q, tupObj vs0) :: (news ++ addF)) ++ add))) (by rfl) (.tail _ (.tail _ (.tail _ (.tail _ (.tail _ (.tail _ (.head _))))))) F2 (kst_newsOf N2 ?_) ⟨vs, nv, oan', [], 0, ofn, [], hS, hA, G0, ⟨rfl, fun i q k h => by simp at h⟩, off_nil, by rw [List.append_nil]; rfl⟩ (fun i v u nx h tk own hv hoff hmem hK F' N' => ?_) (fun u nx h tk hK F' N' => ?_))
    · exact fun p hp => mem_p2 hp
    · clear hS hA
      obtain ⟨vs, nv, oan', qs, nu, ofn', add, hS, hA, hF, hK, hadd9, hnx⟩ := hK
      rw [hnx] at hoff N'
      obtain ⟨pq, hpq, hvy⟩ : ∃ pq, pqs[i]? = some pq ∧ Value.ref pq = v := by
        rw [List.getElem?_map] at hv
        exact Option.map_eq_some_iff.mp hv
      have hi32 : i < fixF.length := by rw [← hP.1]; exact (List.getElem?_eq_some_iff.mp hpq).1
      obtain ⟨⟨x, r⟩, hxr⟩ : ∃ p, fixF[i]? = some p := ⟨_, List.getElem?_eq_getElem hi32⟩
      obtain ⟨ta, tb, hpm⟩ := hP.2 i pq _ hpq hxr
      dsimp only at hpm
      have hxF : (x, r) ∈ fixF := List.mem_of_getElem? hxr
      have hxA : x ∈ fixA := fixF_sub _ hxF
      rw [← hvy] at F'
      have hsub9 : ∀ p ∈ fixF.take i, p.1 ∈ fixA := fun p hp => fixF_sub p (List.mem_of_mem_take hp)
      have hoffR : OwnOff ((q2, tupObj (pqs.map Value.ref)) :: (q, tupObj vs0) :: (news ++ addF ++ add ++ own)) [t, d, tx, an, fs, fn] := off_cons hoffQ2 (off_cons hoffQ (off_app (off_app (off_app hoffN hoffF) (off_left hadd9)) (off_six hoff)))
      have hlenA : fixA.length ≤ 1000 := by rw [fixA_len]; omega
      have hlenF : (fixF.take i).length ≤ 1000 := by rw [List.length_take, fixF_len]; omega
      have hbs9 : ∀ p ∈ ((q2, tupObj (pqs.map Value.ref)) :: (q, tupObj vs0) :: (news ++ addF)) ++ add, p ∈ (q2, tupObj (pqs.map Value.ref)) :: (q, tupObj vs0) :: (news ++ addF ++ add ++ own) := fun p hp => mem_p3 hp
      simp only [List.cons_append] at N'
      have hpm2 : (pq, tupObj [.str x ta, .int r tb]) ∈ news ++ addF ++ add ++ own := by simp [hpm]
      clear N2 F2
      (with_reducible show wpAny _ _ _ _ _ _)
      try k_fold
      k_steps
      unfold Stop
      rename_i tv' vs' nv' oan'' qs' nu' ofn'' add' hh' tk' hS' hA' hadd' hF' hK' F'' N''
      rw [addU_old hxA] at hS' hA' hF' hK'
      rw [take_addU fixF_nodup hxr] at hF' hK'
      rw [List.append_assoc] at hK'
      have hadd2 : OwnOff (add ++ add') ([t, d, tx, an, fs, fn] ++ ((q2, tupObj (pqs.map Value.ref)) :: (q, tupObj vs0) :: (news ++ addF)).map (·.1)) := off_app hadd9 (off_sub hadd' (fun b hb => map_p8 hb))
      have hoff2 : OwnOff own (List.map (·.1) ((t, instObj 115 d) :: (d, dictOf [⟨c1, .str (Str.ofString "texts") k1, .ref tx⟩, ⟨c2, .str (Str.ofString "atom_numbers") k2, .ref an⟩, ⟨c3, .str (Str.ofString "functors") k3, .ref fs⟩, ⟨c4, .str (Str.ofString "functor_numbers") k4, .ref fn⟩] nd) :: (tx, listOf vs'.toArray nv') :: (an, oan'') :: (fs, listOf (qs'.map Value.ref).toArray nu') :: (fn, ofn'') :: (((q2, tupObj (pqs.map Value.ref)) :: (q, tupObj vs0) :: (news ++ addF)) ++ (add ++ add')))) := off_grow hoff hadd' (fun p hp => own_p7 hp) (fun b hb => map_p6 hb)
      refine InvEndG.intro F'' N'' ⟨(.tail _ (.tail _ (.tail _ (.tail _ (.tail _ (.tail _ (.head _))))))), fun z z1 z2 => ?_, vs', nv', oan'', qs', nu', ofn'', add ++ add', hS', hA', hF', hK', hadd2, rfl⟩ hoff2 (fun p hp => mem_p4 hp) (fun p hp => mem_p5 hp)
      simp only [if_neg z1, z2, Bool.false_eq_true, if_false]
    · obtain ⟨vs, nv, oan', qs, nu, ofn', add, hS, hA, hF, hK, hadd9, hnx⟩ := hK
      rw [hnx] at N'
      have e3 : fixF.take (pqs.map Value.ref).length = fixF := by rw [List.length_map, hP.1]; exact List.take_length
      rw [e3] at hF hK
      clear N2 F2
      (with_reducible show wpAny _ _ _ _ _ _)
      try k_fold
      k_steps
      have w1 : OwnOff (news ++ ((q2, tupObj (pqs.map Value.ref)) :: (q, tupObj vs0) :: (addF ++ add))) [t, d, tx, an, fs, fn] := off_app hoffN (off_cons hoffQ2 (off_cons hoffQ (off_app hoffF (off_left hadd9))))
      have w2 : OwnOff ((q2, tupObj (pqs.map Value.ref)) :: (q, tupObj vs0) :: (addF ++ add)) (news.map (·.1)) := by
        refine off_cons (fun b hb => ?_) (off_cons (fun b hb => ?_) (off_app (off_sub hadd fun b hb => map_p11 hb) (off_sub hadd9 fun b hb => map_p12 hb)))
        · obtain ⟨z, hz, hzb⟩ := List.mem_map.mp hb
          rw [← hzb]
          exact Nat.ne_of_gt (hlt2 z (List.mem_append_left _ (.tail _ (.tail _ (.tail _ (.tail _ (.tail _ (.tail _ (.tail _ hz)))))))))
        · obtain ⟨z, hz, hzb⟩ := List.mem_map.mp hb
          rw [← hzb]
          exact Nat.ne_of_gt (hlt0 z (.tail _ (.tail _ (.tail _ (.tail _ (.tail _ (.tail _ hz)))))))
      (rename News h₀ L _ _ => kN)
      exact hret t d tx an fs fn c1 c2 c3 c4 k1 k2 k3 k4 nd nv nu vs qs oan' ofn' ((q2, tupObj (pqs.map Value.ref)) :: (q, tupObj vs0) :: (addF ++ add)) _ _ o1 o2 o3 o4 o5 l1 w1 w2 lo1 lo2 hS hA hF (KeysAt.mono hK fun p hp => mem_p9 hp) (by assumption) (kst_newsOf kN fun p hp => mem_p10 hp)
end Mine


end
section
open PySem PySem.W PyProof.Rows PySem.Spec PySem.Calls
namespace Mine

set_option maxRecDepth 100000 in
set_option maxHeartbeats 8000000 in
theorem choose_ctr {w : World} {mean : ExcName → Option Value} {mg mb : Str → Option Value}
    {dp un : Nat} {gd : Option (List Code)} {cn : Str} {cs : Scope} {a : Addr} {ccd : Value} {cl : List (Str × Addr)} {outer : List Env} {A₀ : Around} {base h₀ : Heap} {L : Addr} {m : Str → Option Value} {s : Shared} {Q E : Value → Shared → Prop}
    {hl : Addr} {vs : List Value} {ns : List Int} {nn : Nat} {many : Int} {tm : Tok} {rest : List (Addr × Obj)}
    (B : Below A₀ base outer h₀) (F : Fr h₀ L s.heap m) (X : (hd.heap_39 w.params).In h₀) (N : News h₀ L s.heap ((hl, listOf vs.toArray nn) :: rest))
    (T : Top hd.view_39 (looseW hd.view_39 []) mean mg mb h₀) (hk : cs.kind = .function) (hdp : dp + 10 < recursionLimit) (hun : un + 100 < cLine)
    (hi : IntsAre vs ns) (hm0 : 0 < many) (hm1 : many < 1000) (hlen : ns.length ≤ 1000) (hoff : OwnOff rest [hl])
    (hret : ∀ (v : Int) (tv : Tok) (vs' : List Value) (ns' : List Int) (nn' : Nat) (h' : Heap) (tk' : Nat), 0 ≤ v → v < many → IntsAre vs' ns' → ns'.length ≤ ns.length → Fr h₀ L h' m → News h₀ L h' ((hl, listOf vs'.toArray nn') :: rest) → Q (.int v tv) { s with heap := h', toks := tk' }) :
    wpAny (model Challenge.rw_ok0005_01.row.prog w) (ktrTop dp un gd cn cs L a ccd cl outer) (call (.ref 133) [.ref hl, .int many tm]) Q E s := by

  revert X; k_fill; intro X
  have hLen := hi.length
  rcases Nat.eq_zero_or_pos vs.length with hz | hpos
  · refine wpAny_call ?_
    k_dflt ktr_enter
    k_steps
    · exact hret 0 _ vs ns _ _ _ (by omega) hm0 hi (Nat.le_refl _) (by assumption) (by first | assumption | exact kst_newsOf (by assumption) fun p hp => List.mem_cons_of_mem _ hp)
    · exfalso
      have : ns = [] := List.eq_nil_of_length_eq_zero (by omega)
      simp_all
  · refine wpAny_call ?_
    k_dflt ktr_enter
    k_steps
    · exact hret 0 _ vs ns _ _ _ (by omega) hm0 hi (Nat.le_refl _) (by assumption) (by first | assumption | exact kst_newsOf (by assumption) fun p hp => List.mem_cons_of_mem _ hp)
    · exact hret _ _ vs.dropLast ns.dropLast _ _ _ (Int.fmod_nonneg_of_pos _ hm0) (Int.fmod_lt_of_pos _ hm0) (by assumption) (by simp) (by assumption) (kst_newsOf (by assumption) fun p hp => List.mem_cons_of_mem _ hp)
end Mine


end
section
open PySem PySem.W PyProof.Rows PySem.Spec PySem.Calls
set_option maxRecDepth 100000
namespace Mine
section
variable {prog : Program} {w : World} {A : Around} {E : Value → Shared → Prop} {s : Shared} {h₀ : Heap} {L d : Addr} {news : List (Addr × Obj)}

theorem lst_method {name : Str} {id : String} {vs : List Value} {n : Nat} {pl : Sem Bool} {Q : Value × List Value → Shared → Prop} (N : News h₀ L s.heap news) (hm : (d, listOf vs.toArray n) ∈ news) (slot : Slot "list" name id) (hty : typeOf (.builtin id) = pure (.type "method_descriptor"))
    (h : Q (.builtin id, [.ref d]) s) : wpAny (model prog w) A (getMethod (.ref d) name pl) Q E s := kl_method N hm slot hty h

theorem lst_item_strs {value slice : Expr} {vs : List Value} {n : Nat} {ys : List Str} {k : Int} {u : Tok} {Q : Value → Shared → Prop} (N : News h₀ L s.heap news) (hm : (d, listOf vs.toArray n) ∈ news) (hS : StrsAre vs ys)
    (h0 : 0 ≤ k) (h1 : k < (ys.length : Int)) (h2 : ys.length ≤ 1000) (h : ∀ y t, y ∈ ys → Q (.str y t) s)
    (hs : subscripted slice false (.ref d) (.int k u) = operate [.ref d, .int k u] (getItem (.ref d) (.int k u)) := by with_unfolding_all rfl) :
    wpAny (model prog w) A (subscriptTail value slice (.ref d) (.int k u)) Q E s := by
  have hk : k.toNat < ys.length := by omega
  obtain ⟨t, ht⟩ := StrsAre.get hS k.toNat _ (List.getElem?_eq_getElem hk)
  exact lst_item N hm h0 (by omega) ht (h _ t (List.getElem_mem hk)) hs

/-! strs in a list -/
theorem any_eq_mem {ys : List Str} {x : Str} : ys.any (· == x) = decide (x ∈ ys) := by
  induction ys with
  | nil => simp
  | cons y r ih =>
    rw [List.any_cons, ih]
    by_cases e : y = x
    · subst e; simp
    · have : ¬ x = y := fun q => e q.symm
      simp [e, this]
theorem strs_notin {vs : List Value} {n : Nat} {ys : List Str} {x : Str} {t : Tok} {Q : Value → Shared → Prop} (N : News h₀ L s.heap news) (hm : (d, listOf vs.toArray n) ∈ news) (hS : StrsAre vs ys)
    (h1 : x ∈ ys → Q (.bool false) s) (h2 : x ∉ ys → Q (.bool true) s) : wpAny (model prog w) A (compareOp .NotIn (.str x t) (.ref d)) Q E s := by
  refine notin_list_strs ⟨_, (N _ hm).1, rfl, n, rfl⟩ hS ?_
  rw [any_eq_mem]
  by_cases h : x ∈ ys
  · rw [decide_eq_true h]; exact h1 h
  · rw [decide_eq_false h]; exact h2 h
theorem isStrOf_at {x : Str} : ∀ {vs : List Value} {ys : List Str} {i : Nat} {v : Value}, StrsAre vs ys → vs[i]? = some v → isStrOf x v = decide (ys[i]? = some x)
  | _, _, i, v, .nil, h => by simp at h
  | _, _, 0, v, .cons y t _, h => by simp at h; subst h; by_cases e : y = x <;> simp [isStrOf, e]
  | _, _, i + 1, v, .cons y t r, h => by rw [List.getElem?_cons_succ] at h ⊢; exact isStrOf_at r h
theorem strs_index {vs : List Value} {n : Nat} {ys : List Str} {x : Str} {t : Tok} {Q : Value → Shared → Prop} (N : News h₀ L s.heap news) (hm : (d, listOf vs.toArray n) ∈ news) (hS : StrsAre vs ys) (hx : x ∈ ys) (hlen : ys.length ≤ 1001)
    (h : ∀ t', Q (.int ((idx ys x : Nat) : Int) t') { s with toks := s.toks + 1 }) : wpAny (model prog w) A (call (.builtin "list.index") [.ref d, .str x t]) Q E s := by
  have ho := (N _ hm).1
  have hl := StrsAre.length hS
  have hlt := idx_lt hx
  have hlt2 : idx ys x < vs.length := by omega
  refine call_meets PySem.F.slot_list_index ⟨_, ho, rfl⟩ PySem.F.entry_list_index (PySem.F.args_list_index_2 _ _)
    (PySem.SeqAt.list_indexAt d vs.toArray n none #[] (.str x t) (isStrOf x) (idx ys x) (by simpa using hlt2) (by omega) ?_ ?_) ⟨ho, fun y hy => (eq_isStrOf x t hS y (by simpa using hy)).at _ _, h s.toks⟩
  · show isStrOf x vs[idx ys x] = true
    rw [isStrOf_at hS (List.getElem?_eq_getElem hlt2), idx_get hx]; simp
  · intro j hj hlj
    have hj' : j < vs.length := by simpa using hj
    show isStrOf x vs[j] = false
    rw [isStrOf_at hS (List.getElem?_eq_getElem hj')]
    refine decide_eq_false fun e => ?_
    exact idx_before hlj e rfl

/-! pairs in a list -/
theorem pair_inj {q : Addr} {x y : Str} {r z : Int} {t1 t2 t3 t4 : Tok} {h : Heap} (N : News h₀ L h news) (h1 : (q, tupObj [.str x t1, .int r t2]) ∈ news) (h2 : (q, tupObj [.str y t3, .int z t4]) ∈ news) : (x, r) = (y, z) := by
  have e := (N _ h1).1.symm.trans (N _ h2).1
  have e2 := Option.some.inj e
  simp at e2
  exact Prod.ext e2.1.1 e2.2.1
theorem eqAt_pair {q1 q2 : Addr} {x y : Str} {r z : Int} {t1 t2 t3 t4 : Tok} (hu : A.units < cLine) (N : News h₀ L s.heap news) (h1 : (q1, tupObj [.str x t1, .int r t2]) ∈ news) (h2 : (q2, tupObj [.str y t3, .int z t4]) ∈ news) :
    PySem.SeqAt.EqAt A s (.ref q1) (.ref q2) (decide ((x, r) = (y, z))) := by
  by_cases e : q1 = q2
  · subst e
    rw [decide_eq_true (pair_inj N h1 h2)]
    exact PySem.SeqAt.EqAt.same _
  · have hT1 : s.heap.IsTuple q1 #[.str x t1, .int r t2] := ⟨_, (N _ h1).1, rfl, _, rfl⟩
    have hT2 : s.heap.IsTuple q2 #[.str y t3, .int z t4] := ⟨_, (N _ h2).1, rfl, _, rfl⟩
    have R := PySem.SeqAt.RcAt.tuples (A := A) (e := fun j => if j = 0 then x == y else r == z) hT1 hT2 hu (fun j g1 g2 => by
      have : j = 0 ∨ j = 1 := by simp at g1; omega
      rcases this with rfl | rfl
      · exact (eqGives_str x y t1 t3).at _ _
      · exact (MeetsSeq.EqGives.int r z t2 t4).at _ _)
    have R2 := PySem.SeqAt.EqAt.of_refs e R
    have ev : ((List.range (min (#[Value.str x t1, Value.int r t2] : Array Value).size (#[Value.str y t3, Value.int z t4] : Array Value).size)).all (fun j => if j = 0 then x == y else r == z) && (#[Value.str x t1, Value.int r t2] : Array Value).size == (#[Value.str y t3, Value.int z t4] : Array Value).size) = decide ((x, r) = (y, z)) := by
      by_cases e1 : x = y <;> by_cases e2 : r = z <;> simp [e1, e2, List.range, List.range.loop]
    rw [ev] at R2
    exact R2

open Classical in
noncomputable def isPair (news : List (Addr × Obj)) (x : Str) (r : Int) (v : Value) : Bool := decide (∃ q t u, v = .ref q ∧ (q, tupObj [.str x t, .int r u]) ∈ news)
theorem dec_true {p : Prop} {i : Decidable p} (h : p) : @decide p i = true := decide_eq_true h
theorem dec_false {p : Prop} {i : Decidable p} (h : ¬ p) : @decide p i = false := decide_eq_false h
theorem isPair_of {q : Addr} {x y : Str} {r z : Int} {t3 t4 : Tok} {h : Heap} (N : News h₀ L h news) (h2 : (q, tupObj [.str y t3, .int z t4]) ∈ news) : isPair news x r (.ref q) = decide ((y, z) = (x, r)) := by
  unfold isPair
  by_cases e : (y, z) = (x, r)
  · rw [decide_eq_true e]
    injection e with e1 e2
    subst e1 e2
    exact dec_true ⟨q, t3, t4, rfl, h2⟩
  · rw [decide_eq_false e]
    refine dec_false ?_
    rintro ⟨q', t, u, hq, hm⟩
    injection hq with hq
    subst hq
    exact e (pair_inj N h2 hm)
variable {qs : List Addr} {ps : List (Str × Int)} {q : Addr} {x : Str} {r : Int} {t u : Tok} {n : Nat}
theorem pairs_eqAt (hu : A.units < cLine) (N : News h₀ L s.heap news) (hP : PairsAt news qs ps) (hq : (q, tupObj [.str x t, .int r u]) ∈ news) :
    ∀ y, y ∈ (qs.map Value.ref).toArray → PySem.SeqAt.EqAt A s y (.ref q) (isPair news x r y) := by
  intro y hy
  obtain ⟨q', hq', rfl⟩ := List.mem_map.mp (by simpa using hy : y ∈ qs.map Value.ref)
  obtain ⟨i, hi⟩ := List.mem_iff_getElem?.mp hq'
  have hil : i < ps.length := by rw [← hP.1]; exact (List.getElem?_eq_some_iff.mp hi).1
  obtain ⟨t1, t2, hm⟩ := hP.2 i q' _ hi (List.getElem?_eq_getElem hil)
  rw [isPair_of N hm]
  exact eqAt_pair hu N hm hq
theorem pairs_any (N : News h₀ L s.heap news) (hP : PairsAt news qs ps) : (qs.map Value.ref).toArray.any (isPair news x r) = decide ((x, r) ∈ ps) := by
  rw [← Array.any_toList]
  by_cases h : (x, r) ∈ ps
  · rw [decide_eq_true h, List.any_eq_true]
    obtain ⟨i, hi⟩ := List.mem_iff_getElem?.mp h
    obtain ⟨q', t1, t2, h1, h2⟩ := PairsAt.get hP hi
    exact ⟨.ref q', by simp only [List.mem_map]; exact ⟨q', List.mem_of_getElem? h1, rfl⟩, by rw [isPair_of N h2]; simp⟩
  · rw [decide_eq_false h, List.any_eq_false]
    intro y hy
    obtain ⟨q', hq', rfl⟩ := List.mem_map.mp (by simpa using hy : y ∈ qs.map Value.ref)
    obtain ⟨i, hi⟩ := List.mem_iff_getElem?.mp hq'
    have hil : i < ps.length := by rw [← hP.1]; exact (List.getElem?_eq_some_iff.mp hi).1
    obtain ⟨t1, t2, hm⟩ := hP.2 i q' _ hi (List.getElem?_eq_getElem hil)
    rw [isPair_of N hm]
    simp only [decide_eq_true_eq]
    intro e
    exact h (e ▸ List.getElem_mem hil)
theorem pairs_in {Q : Value → Shared → Prop} (hu : A.units + 1 < cLine) (N : News h₀ L s.heap news) (hm : (d, listOf (qs.map Value.ref).toArray n) ∈ news) (hP : PairsAt news qs ps) (hq : (q, tupObj [.str x t, .int r u]) ∈ news)
    (h1 : (x, r) ∈ ps → Q (.bool true) s) (h2 : (x, r) ∉ ps → Q (.bool false) s) : wpAny (model prog w) A (compareOp .In (.ref q) (.ref d)) Q E s := by
  refine PySem.SeqAt.in_listAt (isPair news x r) ⟨_, (N _ hm).1, rfl, n, rfl⟩ (pairs_eqAt (A := A.in1) hu N hP hq) ?_
  rw [pairs_any N hP]
  by_cases h : (x, r) ∈ ps
  · rw [decide_eq_true h]; exact h1 h
  · rw [decide_eq_false h]; exact h2 h
theorem pairs_notin {Q : Value → Shared → Prop} (hu : A.units + 1 < cLine) (N : News h₀ L s.heap news) (hm : (d, listOf (qs.map Value.ref).toArray n) ∈ news) (hP : PairsAt news qs ps) (hq : (q, tupObj [.str x t, .int r u]) ∈ news)
    (h1 : (x, r) ∈ ps → Q (.bool false) s) (h2 : (x, r) ∉ ps → Q (.bool true) s) : wpAny (model prog w) A (compareOp .NotIn (.ref q) (.ref d)) Q E s := by
  refine PySem.SeqAt.notIn_listAt (isPair news x r) ⟨_, (N _ hm).1, rfl, n, rfl⟩ (pairs_eqAt (A := A.in1) hu N hP hq) ?_
  rw [pairs_any N hP]
  by_cases h : (x, r) ∈ ps
  · rw [decide_eq_true h]; exact h1 h
  · rw [decide_eq_false h]; exact h2 h
theorem pairs_index {Q : Value → Shared → Prop} (hu : A.units + 1 < cLine) (N : News h₀ L s.heap news) (hm : (d, listOf (qs.map Value.ref).toArray n) ∈ news) (hP : PairsAt news qs ps) (hq : (q, tupObj [.str x t, .int r u]) ∈ news) (hx : (x, r) ∈ ps) (hlen : ps.length ≤ 1001)
    (h : ∀ t', Q (.int ((idx ps (x, r) : Nat) : Int) t') { s with toks := s.toks + 1 }) : wpAny (model prog w) A (call (.builtin "list.index") [.ref d, .ref q]) Q E s := by
  have ho := (N _ hm).1
  have hlt := idx_lt hx
  have hl := hP.1
  have hlt2 : idx ps (x, r) < (qs.map Value.ref).length := by rw [List.length_map]; omega
  have at' : ∀ j (hj : j < (qs.map Value.ref).length), isPair news x r (qs.map Value.ref)[j] = decide (ps[j]? = some (x, r)) := by
    intro j hj
    have hj2 : j < qs.length := by simpa using hj
    have hj3 : j < ps.length := by omega
    obtain ⟨t1, t2, hmm⟩ := hP.2 j _ _ (List.getElem?_eq_getElem hj2) (List.getElem?_eq_getElem hj3)
    rw [List.getElem_map, isPair_of N hmm, List.getElem?_eq_getElem hj3]
    by_cases e : ps[j] = (x, r)
    · rw [dec_true (by rw [e]), dec_true (by rw [e])]
    · rw [dec_false fun z => e (Prod.ext (congrArg (·.1) z) (congrArg (·.2) z)), dec_false fun z => e (Option.some.inj z)]
  refine call_meets PySem.F.slot_list_index ⟨_, ho, rfl⟩ PySem.F.entry_list_index (PySem.F.args_list_index_2 _ _)
    (PySem.SeqAt.list_indexAt d (qs.map Value.ref).toArray n none #[] (.ref q) (isPair news x r) (idx ps (x, r)) (by simpa using hlt2) (by omega) ?_ ?_) ⟨ho, pairs_eqAt (A := A.in1) hu N hP hq, h s.toks⟩
  · show isPair news x r (qs.map Value.ref)[idx ps (x, r)] = true
    rw [at' _ hlt2, idx_get hx]; simp
  · intro j hj hlj
    have hj' : j < (qs.map Value.ref).length := by simpa using hj
    show isPair news x r (qs.map Value.ref)[j] = false
    rw [at' _ hj']
    exact decide_eq_false fun e => idx_before hlj e rfl
end
end Mine
namespace Mine
noncomputable def words : List Str := [Str.ofString "call", Str.ofString "p", Str.ofString "q", Str.ofString "", Str.ofString "a b", Str.ofString "[]", Str.ofString "zero", Str.ofString "p/2", Str.ofString "-"]
theorem words_len : words.length = 9 := rfl
theorem words_small : ∀ x ∈ words, x.length ≤ 100 := by decide +kernel
noncomputable def stored9 : List Str := [Str.ofString "deed", Str.ofString "word", Str.ofString "size_of", Str.ofString "pair", Str.ofString "due", Str.ofString "spot", Str.ofString "told"]

structure Inv (w : World) (bs : List (Addr × Obj)) (vs nvs : List Value) (oan ofn : Obj) (qs pqs : List Addr) (ns : List Str) (ps : List (Str × Int)) : Prop where
  S : StrsAre vs ns
  A : AtomDict w oan ns
  F : FunDict w ofn qs (ps.map (fkey ns))
  K : KeysAt bs qs (ps.map (fkey ns))
  sub : ∀ p ∈ ps, p.1 ∈ ns
  nd1 : ns.Nodup
  nd2 : ps.Nodup
  S2 : StrsAre nvs ns
  P : PairsAt bs pqs ps
  sm : ∀ p ∈ ps, p.1.length ≤ 100 ∧ 0 ≤ p.2 ∧ p.2 ≤ 8

section
variable {h₀ h : Heap} {L : Addr}
theorem news_r8 {a b t d tx an fs fn : Addr × Obj} {l : List (Addr × Obj)} (N : News h₀ L h (a :: b :: t :: d :: tx :: an :: fs :: fn :: l)) : News h₀ L h (t :: d :: tx :: an :: fs :: fn :: a :: b :: l) :=
  fun p hp => N p (by simp only [List.mem_cons] at hp ⊢; grind)
theorem off_l8 {hp t d tx an fs fn nl pl : Addr} {e1 e2 e3 e4 e5 e6 e7 e8 : Obj} {rest : List (Addr × Obj)} (oh : @LT.lt Nat _ hp d) (o1 : @LT.lt Nat _ d t) (o2 : @LT.lt Nat _ t tx) (o3 : @LT.lt Nat _ tx an) (o4 : @LT.lt Nat _ an fs) (o5 : @LT.lt Nat _ fs fn) (o6 : @LT.lt Nat _ fn nl) (o7 : @LT.lt Nat _ nl pl)
    (hR : OwnOff rest [hp, t, d, tx, an, fs, fn, nl, pl]) : OwnOff ((t, e1) :: (d, e2) :: (tx, e3) :: (an, e4) :: (fs, e5) :: (fn, e6) :: (nl, e7) :: (pl, e8) :: rest) [hp] := by
  have one : ∀ {a : Addr} {o : Obj}, @LT.lt Nat _ hp a → ∀ b ∈ [hp], (a, o).1 ≠ b := fun h b hb => by rw [List.mem_singleton.mp hb]; exact Nat.ne_of_gt h
  refine off_cons (one (by omega)) (off_cons (one (by omega)) (off_cons (one (by omega)) (off_cons (one (by omega)) (off_cons (one (by omega)) (off_cons (one (by omega)) (off_cons (one (by omega)) (off_cons (one (by omega)) ?_)))))))
  exact off_sub hR fun b hb => by rw [List.mem_singleton.mp hb]; exact List.mem_cons_self
theorem off_r4 {q hp t d tx an fs fn nl pl : Addr} {e1 e2 e3 e4 : Obj} {rest : List (Addr × Obj)} (oh : @LT.lt Nat _ hp d) (o1 : @LT.lt Nat _ d t) (o2 : @LT.lt Nat _ t tx) (o3 : @LT.lt Nat _ tx an) (o4 : @LT.lt Nat _ an fs) (o5 : @LT.lt Nat _ fs fn) (o6 : @LT.lt Nat _ fn nl) (o7 : @LT.lt Nat _ nl pl) (o8 : @LT.lt Nat _ fn q)
    (hR : OwnOff rest [hp, t, d, tx, an, fs, fn, nl, pl]) : OwnOff ((q, e1) :: (hp, e2) :: (nl, e3) :: (pl, e4) :: rest) [t, d, tx, an, fs, fn] := by
  have one : ∀ {a : Addr} {o : Obj}, @LT.lt Nat _ fn a → ∀ b ∈ [t, d, tx, an, fs, fn], (a, o).1 ≠ b := fun h b hb => by
    have : @LE.le Nat _ b fn := by
      simp only [List.mem_cons, List.not_mem_nil, or_false] at hb
      rcases hb with h | h | h | h | h | h <;> subst h <;> omega
    exact Nat.ne_of_gt (Nat.lt_of_le_of_lt this h)
  have two : ∀ b ∈ [t, d, tx, an, fs, fn], (hp, e2).1 ≠ b := fun b hb => by
    have : @LT.lt Nat _ hp b := by
      simp only [List.mem_cons, List.not_mem_nil, or_false] at hb
      rcases hb with h | h | h | h | h | h <;> subst h <;> omega
    exact Nat.ne_of_lt this
  refine off_cons (one o8) (off_cons two (off_cons (one o6) (off_cons (one (by omega)) ?_)))
  exact off_sub hR fun b hb => by
    simp only [List.mem_cons, List.not_mem_nil, or_false] at hb ⊢
    grind
end
end Mine

end
section
open PySem PySem.W PyProof.Rows PySem.Spec PySem.Calls
namespace Mine
noncomputable def stored10 : List Str := Str.ofString "lap" :: stored9
/-- the else-branch of a turn's test -/
noncomputable def getB (fb : List Stmt) : List Stmt := match (fb[4]? : Option Stmt) with | some (Stmt.If _ _ b _) => b | _ => []
/-- the else-branch within -/
noncomputable def getC (fb : List Stmt) : List Stmt := match ((getB fb)[2]? : Option Stmt) with | some (Stmt.If _ _ b _) => b | _ => []
theorem map_eq {m M : Str → Option Value} (h : ∀ z, stored10.contains z = false → m z = M z) : m = fun z => if stored10.contains z then m z else M z := by
  funext z
  cases e : stored10.contains z with
  | true => simp
  | false => simp only [Bool.false_eq_true, if_false]; exact h z e
theorem PairsAt.addU {q : Addr} {x : Str} {r : Int} {t u : Tok} {bs : List (Addr × Obj)} {qs : List Addr} {ps : List (Str × Int)} (h : PairsAt bs qs ps) : PairsAt ((q, tupObj [.str x t, .int r u]) :: bs) (if (x, r) ∈ ps then qs else qs ++ [q]) (addU ps (x, r)) := by
  by_cases e : (x, r) ∈ ps
  · rw [if_pos e, addU_old e]; exact PairsAt.mono h fun p hp => List.mem_cons_of_mem _ hp
  · rw [if_neg e, addU_new e]; exact PairsAt.snoc (PairsAt.mono h fun p hp => List.mem_cons_of_mem _ hp) List.mem_cons_self

section
local macro_rules | `(tactic| k_mem) => `(tactic| first | exact List.mem_cons_self | assumption | (refine List.mem_cons_of_mem _ ?_; k_mem))
local macro_rules | `(tactic| ktr_units) => `(tactic| first | (have hcL9 := cLine_is; (simp only [units_under_make, units_in1, units_deeper, Around.mark_units, units_caller] at *); (dsimp only [ktrTop] at *); omega) | (have hcL9 := cLine_is; (simp only [units_under_make, units_in1, units_deeper, Around.mark_units, units_caller]); omega))
local macro_rules | `(tactic| walk_at "getMethod ref") => `(tactic| (k_here; (with_reducible show wpAny _ _ (getMethod (Value.ref _) (PySem.Str.ofString "append") _) _ _ _); k_dflt (refine' lst_method ?N ?m PySem.F.slot_list_append PySem.F.type_list_append ?_; (case N => k_asm); (case m => k_mem))))
local macro_rules | `(tactic| walk_at "compareOp NotIn str ref") => `(tactic| (k_here; k_dflt (refine' strs_notin ?N ?m ?hS (fun hIn8 => ?_) (fun hOut8 => ?_); (case N => k_asm); (case m => k_mem); (case hS => k_asm))))
local macro_rules | `(tactic| walk_at "call builtin:list.append") => `(tactic| (k_here; (with_reducible show wpAny _ _ (call (Value.builtin _) [Value.ref _, _]) _ _ _); k_dflt (refine' lst_append ?F ?N ?U ?S ?z ?_; (case F | N => k_asm); (case U => k_upd); (case S => k_asm); (case z => omega)); intro h' F' N'; (try k_sweep)))
set_option maxRecDepth 100000 in
set_option maxHeartbeats 16000000 in
theorem nin_names {w : World} {mean : ExcName → Option Value} {mg mb : Str → Option Value} {base h₀ : Heap} {L : Addr} {s : Shared} {Q : Flow → Shared → Prop}
    {fa : Addr} {cda : Value} {params : Arguments} {body fb orelse : List Stmt} {tgt it : Expr} {pos : Pos} {scope : Scope} {dV kV doc pm cdv ct oc : Value} {an0 od : Option Addr} {osl : Array (Option Value)}
    {hp t d tx an fs fn nl pl wl : Addr} {c1 c2 c3 c4 : Int} {k1 k2 k3 k4 : Tok} {nd nv nu n1 nn1 nn2 : Nat} {ws vs nvs : List Value} {oan ofn : Obj} {qs pqs : List Addr} {ns : List Str}   {rest : List (Addr × Obj)} {vi : Int} {ti : Tok} {u mm : Str → Option Value} {q : Addr} {x : Str} {r dv : Int} {tx9 tr9 tdv : Tok} {st : Stmt}
    (hbody : (hd.heap_39 w.params).lookup 147 = some ⟨oc, od, .func (fnOf (Str.ofString "law") (Str.ofString "law") params body scope dV kV doc pm an0 cdv ct), osl⟩)
    (hfor : body[6]? = some (.For tgt it fb orelse pos)) (hst : (getB fb)[0]? = some st)
    (B : Below callerA base [] h₀) (F : Fr h₀ L s.heap (fun z => if z = Str.ofString "pair" then some (.ref q) else if z = Str.ofString "size_of" then some (.int r tr9) else if z = Str.ofString "word" then some (.str x tx9) else if z = Str.ofString "deed" then some (.int dv tdv) else if z = Str.ofString "lap" then some (.int vi ti) else if stored9.contains z then u z else (if z = Str.ofString "words" then some (.ref wl) else if z = Str.ofString "pairs_so_far" then some (.ref pl) else if z = Str.ofString "names_so_far" then some (.ref nl) else if z = Str.ofString "table" then some (.ref t) else if z = Str.ofString "heap_of" then some (.ref hp) else mm z))) (X : (hd.heap_39 w.params).In h₀) (N : News h₀ L s.heap ((q, tupObj [.str x tx9, .int r tr9]) :: (hp, listOf ws.toArray n1) :: (t, instObj 115 d) :: (d, dictOf [⟨c1, .str (Str.ofString "texts") k1, .ref tx⟩, ⟨c2, .str (Str.ofString "atom_numbers") k2, .ref an⟩, ⟨c3, .str (Str.ofString "functors") k3, .ref fs⟩, ⟨c4, .str (Str.ofString "functor_numbers") k4, .ref fn⟩] nd) :: (tx, listOf vs.toArray nv) :: (an, oan) :: (fs, listOf (qs.map Value.ref).toArray nu) :: (fn, ofn) :: (nl, listOf nvs.toArray nn1) :: (pl, listOf (pqs.map Value.ref).toArray nn2) :: rest))
    (T : Top hd.view_39 (looseW hd.view_39 []) mean mg mb h₀)
    (oh : @LT.lt Nat _ hp d) (o1 : @LT.lt Nat _ d t) (o2 : @LT.lt Nat _ t tx) (o3 : @LT.lt Nat _ tx an) (o4 : @LT.lt Nat _ an fs) (o5 : @LT.lt Nat _ fs fn) (o6 : @LT.lt Nat _ fn nl) (o7 : @LT.lt Nat _ nl pl) (oq : @LT.lt Nat _ pl q)
    (hR : OwnOff rest [hp, t, d, tx, an, fs, fn, nl, pl]) (hS2 : StrsAre nvs ns) (hl1 : ns.length ≤ 900)
    (hret : ∀ (nvs' : List Value) (nn1' : Nat) (h' : Heap) (tk' : Nat), StrsAre nvs' (addU ns x) → Fr h₀ L h' (fun z => if z = Str.ofString "pair" then some (.ref q) else if z = Str.ofString "size_of" then some (.int r tr9) else if z = Str.ofString "word" then some (.str x tx9) else if z = Str.ofString "deed" then some (.int dv tdv) else if z = Str.ofString "lap" then some (.int vi ti) else if stored9.contains z then u z else (if z = Str.ofString "words" then some (.ref wl) else if z = Str.ofString "pairs_so_far" then some (.ref pl) else if z = Str.ofString "names_so_far" then some (.ref nl) else if z = Str.ofString "table" then some (.ref t) else if z = Str.ofString "heap_of" then some (.ref hp) else mm z)) → News h₀ L h' ((q, tupObj [.str x tx9, .int r tr9]) :: (hp, listOf ws.toArray n1) :: (t, instObj 115 d) :: (d, dictOf [⟨c1, .str (Str.ofString "texts") k1, .ref tx⟩, ⟨c2, .str (Str.ofString "atom_numbers") k2, .ref an⟩, ⟨c3, .str (Str.ofString "functors") k3, .ref fs⟩, ⟨c4, .str (Str.ofString "functor_numbers") k4, .ref fn⟩] nd) :: (tx, listOf vs.toArray nv) :: (an, oan) :: (fs, listOf (qs.map Value.ref).toArray nu) :: (fn, ofn) :: (nl, listOf nvs'.toArray nn1') :: (pl, listOf (pqs.map Value.ref).toArray nn2) :: rest) → Q .next { s with heap := h', toks := tk' }) :
    wpAny (model Challenge.rw_ok0005_01.row.prog w) (callerA.deeper (envOf (Str.ofString "law") scope L fa cda)) (exec st (envOf (Str.ofString "law") scope L fa cda)) Q (fun _ _ => False) s := by
  have e : (hd.heap_39 w.params).lookup 147 = some ⟨_, _, .func _, _⟩ := rfl
  rw [e] at hbody
  clear e
  cases hbody
  cases hfor
  obtain rfl := Option.some.inj hst
  have f2 := StrsAre.length hS2
  revert X; k_fill; intro X
  k_steps
  · exact hret nvs nn1 s.heap s.toks (by rw [addU_old (by assumption)]; exact hS2) F N
  · exact hret _ _ _ _ (by rw [addU_new (by assumption)]; exact StrsAre.append' hS2 (.cons x tx9 .nil)) (by assumption) (by assumption)
end

section
local macro_rules | `(tactic| k_mem) => `(tactic| first | exact List.mem_cons_self | assumption | (refine List.mem_cons_of_mem _ ?_; k_mem))
local macro_rules | `(tactic| ktr_units) => `(tactic| first | (have hcL9 := cLine_is; (simp only [units_under_make, units_in1, units_deeper, Around.mark_units, units_caller] at *); (dsimp only [ktrTop] at *); omega) | (have hcL9 := cLine_is; (simp only [units_under_make, units_in1, units_deeper, Around.mark_units, units_caller]); omega))
local macro_rules | `(tactic| walk_at "getMethod ref") => `(tactic| (k_here; (with_reducible show wpAny _ _ (getMethod (Value.ref _) (PySem.Str.ofString "append") _) _ _ _); k_dflt (refine' lst_method ?N ?m PySem.F.slot_list_append PySem.F.type_list_append ?_; (case N => k_asm); (case m => k_mem))))
local macro_rules | `(tactic| walk_at "compareOp NotIn ref ref") => `(tactic| (k_here; k_dflt (refine' pairs_notin ?hu ?N ?m (PairsAt.mono ?hP ?sub) ?q (fun hIn8 => ?_) (fun hOut8 => ?_); (case hu => ktr_units); (case N => k_asm); (case m => k_mem); (case hP => k_asm); (case q => k_mem); (case sub => exact (fun p hp => by (simp only [List.mem_cons, List.mem_append, List.cons_append, List.nil_append, List.not_mem_nil, or_false, false_or] at hp ⊢); first | (simp only [hp, true_or, or_true]; done) | (rcases hp with hp | hp <;> simp only [hp, true_or, or_true] <;> done) | (rcases hp with hp | hp | hp <;> simp only [hp, true_or, or_true] <;> done))))))
local macro_rules | `(tactic| walk_at "call builtin:list.append") => `(tactic| (k_here; (with_reducible show wpAny _ _ (call (Value.builtin _) [Value.ref _, _]) _ _ _); k_dflt (refine' lst_append ?F ?N ?U ?S ?z ?_; (case F | N => k_asm); (case U => k_upd); (case S => k_asm); (case z => omega)); intro h' F' N'; (try k_sweep)))
set_option maxRecDepth 100000 in
set_option maxHeartbeats 16000000 in
theorem nin_pairs {w : World} {mean : ExcName → Option Value} {mg mb : Str → Option Value} {base h₀ : Heap} {L : Addr} {s : Shared} {Q : Flow → Shared → Prop}
    {fa : Addr} {cda : Value} {params : Arguments} {body fb orelse : List Stmt} {tgt it : Expr} {pos : Pos} {scope : Scope} {dV kV doc pm cdv ct oc : Value} {an0 od : Option Addr} {osl : Array (Option Value)}
    {hp t d tx an fs fn nl pl wl : Addr} {c1 c2 c3 c4 : Int} {k1 k2 k3 k4 : Tok} {nd nv nu n1 nn1 nn2 : Nat} {ws vs nvs : List Value} {oan ofn : Obj} {qs pqs : List Addr}  {ps : List (Str × Int)}  {rest bs : List (Addr × Obj)} {vi : Int} {ti : Tok} {u mm : Str → Option Value} {q : Addr} {x : Str} {r dv : Int} {tx9 tr9 tdv : Tok} {st : Stmt} {sp : Int} {tsp : Tok}
    (hbody : (hd.heap_39 w.params).lookup 147 = some ⟨oc, od, .func (fnOf (Str.ofString "law") (Str.ofString "law") params body scope dV kV doc pm an0 cdv ct), osl⟩)
    (hfor : body[6]? = some (.For tgt it fb orelse pos)) (hst : (getC fb)[0]? = some st)
    (B : Below callerA base [] h₀) (F : Fr h₀ L s.heap (fun z => if z = Str.ofString "spot" then some (.int sp tsp) else if z = Str.ofString "pair" then some (.ref q) else if z = Str.ofString "size_of" then some (.int r tr9) else if z = Str.ofString "word" then some (.str x tx9) else if z = Str.ofString "deed" then some (.int dv tdv) else if z = Str.ofString "lap" then some (.int vi ti) else if stored9.contains z then u z else (if z = Str.ofString "words" then some (.ref wl) else if z = Str.ofString "pairs_so_far" then some (.ref pl) else if z = Str.ofString "names_so_far" then some (.ref nl) else if z = Str.ofString "table" then some (.ref t) else if z = Str.ofString "heap_of" then some (.ref hp) else mm z))) (X : (hd.heap_39 w.params).In h₀) (N : News h₀ L s.heap ((q, tupObj [.str x tx9, .int r tr9]) :: (hp, listOf ws.toArray n1) :: (t, instObj 115 d) :: (d, dictOf [⟨c1, .str (Str.ofString "texts") k1, .ref tx⟩, ⟨c2, .str (Str.ofString "atom_numbers") k2, .ref an⟩, ⟨c3, .str (Str.ofString "functors") k3, .ref fs⟩, ⟨c4, .str (Str.ofString "functor_numbers") k4, .ref fn⟩] nd) :: (tx, listOf vs.toArray nv) :: (an, oan) :: (fs, listOf (qs.map Value.ref).toArray nu) :: (fn, ofn) :: (nl, listOf nvs.toArray nn1) :: (pl, listOf (pqs.map Value.ref).toArray nn2) :: rest))
    (T : Top hd.view_39 (looseW hd.view_39 []) mean mg mb h₀)
    (oh : @LT.lt Nat _ hp d) (o1 : @LT.lt Nat _ d t) (o2 : @LT.lt Nat _ t tx) (o3 : @LT.lt Nat _ tx an) (o4 : @LT.lt Nat _ an fs) (o5 : @LT.lt Nat _ fs fn) (o6 : @LT.lt Nat _ fn nl) (o7 : @LT.lt Nat _ nl pl) (oq : @LT.lt Nat _ pl q)
    (hR : OwnOff rest [hp, t, d, tx, an, fs, fn, nl, pl]) (hbs : ∀ p ∈ bs, p ∈ rest) (hP : PairsAt bs pqs ps) (hl2 : ps.length ≤ 900)
    (hret : ∀ (pqs' : List Addr) (nn2' : Nat) (h' : Heap) (tk' : Nat), PairsAt ((q, tupObj [.str x tx9, .int r tr9]) :: bs) pqs' (addU ps (x, r)) → Fr h₀ L h' (fun z => if z = Str.ofString "spot" then some (.int sp tsp) else if z = Str.ofString "pair" then some (.ref q) else if z = Str.ofString "size_of" then some (.int r tr9) else if z = Str.ofString "word" then some (.str x tx9) else if z = Str.ofString "deed" then some (.int dv tdv) else if z = Str.ofString "lap" then some (.int vi ti) else if stored9.contains z then u z else (if z = Str.ofString "words" then some (.ref wl) else if z = Str.ofString "pairs_so_far" then some (.ref pl) else if z = Str.ofString "names_so_far" then some (.ref nl) else if z = Str.ofString "table" then some (.ref t) else if z = Str.ofString "heap_of" then some (.ref hp) else mm z)) → News h₀ L h' ((q, tupObj [.str x tx9, .int r tr9]) :: (hp, listOf ws.toArray n1) :: (t, instObj 115 d) :: (d, dictOf [⟨c1, .str (Str.ofString "texts") k1, .ref tx⟩, ⟨c2, .str (Str.ofString "atom_numbers") k2, .ref an⟩, ⟨c3, .str (Str.ofString "functors") k3, .ref fs⟩, ⟨c4, .str (Str.ofString "functor_numbers") k4, .ref fn⟩] nd) :: (tx, listOf vs.toArray nv) :: (an, oan) :: (fs, listOf (qs.map Value.ref).toArray nu) :: (fn, ofn) :: (nl, listOf nvs.toArray nn1) :: (pl, listOf (pqs'.map Value.ref).toArray nn2') :: rest) → Q .next { s with heap := h', toks := tk' }) :
    wpAny (model Challenge.rw_ok0005_01.row.prog w) (callerA.deeper (envOf (Str.ofString "law") scope L fa cda)) (exec st (envOf (Str.ofString "law") scope L fa cda)) Q (fun _ _ => False) s := by
  have e : (hd.heap_39 w.params).lookup 147 = some ⟨_, _, .func _, _⟩ := rfl
  rw [e] at hbody
  clear e
  cases hbody
  cases hfor
  obtain rfl := Option.some.inj hst
  have f4 : (pqs.map Value.ref).length = ps.length := by rw [List.length_map]; exact hP.1
  have hPr := PairsAt.mono hP hbs
  revert X; k_fill; intro X
  k_steps
  · exact hret pqs nn2 s.heap s.toks (by rw [addU_old (by assumption)]; exact PairsAt.mono hP fun p hp => List.mem_cons_of_mem _ hp) F N
  · (rename News h₀ L _ _ => N9)
    exact hret (pqs ++ [q]) _ _ _ (by rw [addU_new (by assumption)]; exact PairsAt.snoc (PairsAt.mono hP fun p hp => List.mem_cons_of_mem _ hp) List.mem_cons_self) (by assumption) (by rw [List.map_append]; exact N9)
end

section
local macro_rules | `(tactic| k_mem) => `(tactic| first | exact List.mem_cons_self | assumption | (refine List.mem_cons_of_mem _ ?_; k_mem))
local macro_rules | `(tactic| ktr_units) => `(tactic| first | (have hcL9 := cLine_is; (simp only [units_under_make, units_in1, units_deeper, Around.mark_units, units_caller] at *); (dsimp only [ktrTop] at *); omega) | (have hcL9 := cLine_is; (simp only [units_under_make, units_in1, units_deeper, Around.mark_units, units_caller]); omega))
local macro_rules | `(tactic| walk_at "getMethod ref") => `(tactic| (k_here; k_dflt (refine' method_inst ?k1 ?k2 ?k3 ?k4 ?k5 ?k6 ?k7 ?_; (case k1 | k2 => k_asm); (case k3 => k_inst); (case k4 | k5 | k6 => k_is); (case k7 => k_get); k_whole)))
local macro_rules | `(tactic| walk_at "call ref") => `(tactic| (k_here; (with_reducible show wpAny _ _ (call (Value.ref 98) _) _ _ _); k_dflt (refine' count_ctr ?B ?F ?X ?N ?T ?hk ?hdp ?hun ?mt ?md ?m1 _ ?hl ?hn (fun tv' h' tk' F' N' => ?_); (case B | F | X | T | N => k_asm); (case hk => exact rfl); (case hdp => ktr_room); (case hun => ktr_units); (case mt | md | m1 => k_mem); (case hl => k_asm); (case hn => omega); (try dsimp only); (try k_fold))))
local macro_rules | `(tactic| walk_at "call ref") => `(tactic| (k_here; (with_reducible show wpAny _ _ (call (Value.ref 105) _) _ _ _); k_dflt (refine' fcount_ctr ?B ?F ?X ?N ?T ?hk ?hdp ?hun ?mt ?md ?m1 _ ?hl ?hn (fun tv' h' tk' F' N' => ?_); (case B | F | X | T | N => k_asm); (case hk => exact rfl); (case hdp => ktr_room); (case hun => ktr_units); (case mt | md | m1 => k_mem); (case hl => k_asm); (case hn => omega); (try dsimp only); (try k_fold))))
local macro_rules | `(tactic| walk_at "ite") => `(tactic| (k_here; first | (with_reducible refine ite_neg (by decide) ?_) | (with_reducible refine ite_pos (by decide) ?_) | ((with_reducible refine ite_both (fun hC9 => ?_) (fun hC9 => ?_)) <;> (try simp only [decide_eq_true_eq, Bool.not_eq_true, Bool.not_eq_eq_eq_not, Bool.not_true, Bool.not_false, decide_eq_false_iff_not] at hC9))))
local macro_rules | `(tactic| walk_at "call builtin:len") => `(tactic| (k_here; (with_reducible show wpAny _ _ (call (Value.builtin _) [Value.ref _]) _ _ _); k_dflt (refine' lst_len ?N ?m ?S ?lo ?_; (case N => k_asm); (case m => k_mem); (case S => k_asm); (case lo => omega))))
set_option maxRecDepth 100000 in
set_option maxHeartbeats 16000000 in
theorem turn_tail {w : World} {mean : ExcName → Option Value} {mg mb : Str → Option Value} {base h₀ : Heap} {L : Addr} {s : Shared} {Q : Flow → Shared → Prop}
    {fa : Addr} {cda : Value} {params : Arguments} {body fb orelse : List Stmt} {tgt it : Expr} {pos : Pos} {scope : Scope} {dV kV doc pm cdv ct oc : Value} {an0 od : Option Addr} {osl : Array (Option Value)}
    {hp t d tx an fs fn nl pl wl : Addr} {c1 c2 c3 c4 : Int} {k1 k2 k3 k4 : Tok} {nd nv nu n1 nn1 nn2 : Nat} {ws vs nvs : List Value} {oan ofn : Obj} {qs pqs : List Addr} {ns : List Str} {ps : List (Str × Int)} {ms : List Int} {rest : List (Addr × Obj)}   {u mm : Str → Option Value} {qo : Obj} {q : Addr} {tl : List Stmt}
    (hbody : (hd.heap_39 w.params).lookup 147 = some ⟨oc, od, .func (fnOf (Str.ofString "law") (Str.ofString "law") params body scope dV kV doc pm an0 cdv ct), osl⟩)
    (hfor : body[6]? = some (.For tgt it fb orelse pos)) (hst : fb.drop 5 = tl)
    (B : Below callerA base [] h₀) (F : Fr h₀ L s.heap (fun z => if stored10.contains z then u z else (if z = Str.ofString "words" then some (.ref wl) else if z = Str.ofString "pairs_so_far" then some (.ref pl) else if z = Str.ofString "names_so_far" then some (.ref nl) else if z = Str.ofString "table" then some (.ref t) else if z = Str.ofString "heap_of" then some (.ref hp) else mm z))) (X : (hd.heap_39 w.params).In h₀) (N : News h₀ L s.heap ((q, qo) :: (hp, listOf ws.toArray n1) :: (t, instObj 115 d) :: (d, dictOf [⟨c1, .str (Str.ofString "texts") k1, .ref tx⟩, ⟨c2, .str (Str.ofString "atom_numbers") k2, .ref an⟩, ⟨c3, .str (Str.ofString "functors") k3, .ref fs⟩, ⟨c4, .str (Str.ofString "functor_numbers") k4, .ref fn⟩] nd) :: (tx, listOf vs.toArray nv) :: (an, oan) :: (fs, listOf (qs.map Value.ref).toArray nu) :: (fn, ofn) :: (nl, listOf nvs.toArray nn1) :: (pl, listOf (pqs.map Value.ref).toArray nn2) :: rest))
    (T : Top hd.view_39 (looseW hd.view_39 []) mean mg mb h₀)
    (oh : @LT.lt Nat _ hp d) (o1 : @LT.lt Nat _ d t) (o2 : @LT.lt Nat _ t tx) (o3 : @LT.lt Nat _ tx an) (o4 : @LT.lt Nat _ an fs) (o5 : @LT.lt Nat _ fs fn) (o6 : @LT.lt Nat _ fn nl) (o7 : @LT.lt Nat _ nl pl)
    (hi : IntsAre ws ms) (hms : ms.length ≤ 150) (f1 : vs.length = ns.length) (f2 : nvs.length = ns.length) (f3 : (qs.map Value.ref).length = ps.length) (f4 : (pqs.map Value.ref).length = ps.length) (hl1 : ns.length ≤ 900) (hl2 : ps.length ≤ 900)
    (hret : ∀ (fl : Flow) (h' : Heap) (tk' : Nat), (fl = .next ∨ fl = .brk) → Fr h₀ L h' (fun z => if stored10.contains z then u z else (if z = Str.ofString "words" then some (.ref wl) else if z = Str.ofString "pairs_so_far" then some (.ref pl) else if z = Str.ofString "names_so_far" then some (.ref nl) else if z = Str.ofString "table" then some (.ref t) else if z = Str.ofString "heap_of" then some (.ref hp) else mm z)) → News h₀ L h' ((q, qo) :: (hp, listOf ws.toArray n1) :: (t, instObj 115 d) :: (d, dictOf [⟨c1, .str (Str.ofString "texts") k1, .ref tx⟩, ⟨c2, .str (Str.ofString "atom_numbers") k2, .ref an⟩, ⟨c3, .str (Str.ofString "functors") k3, .ref fs⟩, ⟨c4, .str (Str.ofString "functor_numbers") k4, .ref fn⟩] nd) :: (tx, listOf vs.toArray nv) :: (an, oan) :: (fs, listOf (qs.map Value.ref).toArray nu) :: (fn, ofn) :: (nl, listOf nvs.toArray nn1) :: (pl, listOf (pqs.map Value.ref).toArray nn2) :: rest) → Q fl { s with heap := h', toks := tk' }) :
    wpAny (model Challenge.rw_ok0005_01.row.prog w) (callerA.deeper (envOf (Str.ofString "law") scope L fa cda)) (execs tl (envOf (Str.ofString "law") scope L fa cda)) Q (fun _ _ => False) s := by
  have e : (hd.heap_39 w.params).lookup 147 = some ⟨_, _, .func _, _⟩ := rfl
  rw [e] at hbody
  clear e
  cases hbody
  cases hfor
  obtain rfl : _ = tl := hst
  dsimp only [List.drop]
  revert X; k_fill; intro X
  k_steps
  · exfalso; (rename (_ != _) = true => hBad); exact absurd hBad (by simp)
  · exfalso; (rename (_ != _) = true => hBad); exact absurd hBad (by simp)
  · show Q Flow.brk _
    (rename News h₀ L _ _ => N9); exact hret _ _ _ (Or.inr rfl) (by assumption) (fun p hp => N9 p (List.mem_cons_of_mem _ hp))
  · (rename News h₀ L _ _ => N9); exact hret _ _ _ (Or.inl rfl) (by assumption) (fun p hp => N9 p (List.mem_cons_of_mem _ hp))
end
end Mine


end
section
open PySem PySem.W PyProof.Rows PySem.Spec PySem.Calls
namespace Mine
theorem Fr.shape {h₀ h : Heap} {L : Addr} {m M : Str → Option Value} (F : Fr h₀ L h m) (e : ∀ z, stored10.contains z = false → m z = M z) : Fr h₀ L h (fun z => if stored10.contains z then m z else M z) := map_eq e ▸ F
theorem s10 {z : Str} (hz : stored10.contains z = false) : z ≠ Str.ofString "lap" ∧ z ≠ Str.ofString "deed" ∧ z ≠ Str.ofString "word" ∧ z ≠ Str.ofString "size_of" ∧ z ≠ Str.ofString "pair" ∧ z ≠ Str.ofString "due" ∧ z ≠ Str.ofString "spot" ∧ z ≠ Str.ofString "told" ∧ stored9.contains z = false := by
  simp only [stored10, stored9, List.contains_cons, List.contains_nil, Bool.or_false, Bool.or_eq_false_iff, beq_eq_false_iff_ne] at hz ⊢
  exact ⟨hz.1, hz.2.1, hz.2.2.1, hz.2.2.2.1, hz.2.2.2.2.1, hz.2.2.2.2.2.1, hz.2.2.2.2.2.2.1, hz.2.2.2.2.2.2.2, hz.2⟩
theorem off_back {add rest : List (Addr × Obj)} {q hp t d tx an fs fn nl pl : Addr} {e1 e2 e3 e4 : Obj} (h : OwnOff add ([t, d, tx, an, fs, fn] ++ List.map (·.1) ((q, e1) :: (hp, e2) :: (nl, e3) :: (pl, e4) :: rest))) : OwnOff add ([q, hp, t, d, tx, an, fs, fn, nl, pl] ++ rest.map (·.1)) :=
  off_sub h fun b hb => by
    simp only [List.mem_append, List.mem_cons, List.map_cons, List.not_mem_nil, or_false] at hb ⊢
    grind
theorem key_map {ns : List Str} {ps : List (Str × Int)} {x : Str} {r : Int} (h : ∀ p ∈ ps, p.1 ∈ ns) : addU (ps.map (fkey ns)) [((idx ns x : Nat) : Int), r] = (addU ps (x, r)).map (fkey (addU ns x)) := by
  have e2 : ([((idx ns x : Nat) : Int), r] : List Int) = fkey (addU ns x) (x, r) := by unfold fkey; rw [idx_addU]
  rw [(map_fkey_addU h).symm, e2, map_addU (p := (x, r)) (mem_addU ns x)]
theorem key_idx {ns : List Str} {ps : List (Str × Int)} {x : Str} {r : Int} (h : ∀ p ∈ ps, p.1 ∈ ns) : idx (ps.map (fkey ns)) [((idx ns x : Nat) : Int), r] = idx ps (x, r) := by
  have e2 : ([((idx ns x : Nat) : Int), r] : List Int) = fkey (addU ns x) (x, r) := by unfold fkey; rw [idx_addU]
  rw [(map_fkey_addU h).symm, e2, idx_fkey (p := (x, r)) (mem_addU ns x)]
theorem mem_addU_old {α : Type} [DecidableEq α] {l : List α} {x y : α} (h : y ∈ l) : y ∈ addU l x := by
  by_cases e : x ∈ l
  · rw [addU_old e]; exact h
  · rw [addU_new e]; exact List.mem_append_left _ h
theorem Inv.atom {w : World} {bs : List (Addr × Obj)} {vs nvs vs' nvs' : List Value} {oan ofn oan' : Obj} {qs pqs : List Addr} {ns : List Str} {ps : List (Str × Int)} {x : Str} (I : Inv w bs vs nvs oan ofn qs pqs ns ps)
    (hS' : StrsAre vs' (addU ns x)) (hA' : AtomDict w oan' (addU ns x)) (hS2' : StrsAre nvs' (addU ns x)) : Inv w bs vs' nvs' oan' ofn qs pqs (addU ns x) ps :=
  ⟨hS', hA', by rw [map_fkey_addU I.sub]; exact I.F, by rw [map_fkey_addU I.sub]; exact I.K, fun p hp => mem_addU_old (I.sub p hp), nodup_addU x I.nd1, I.nd2, hS2', I.P, I.sm⟩
theorem Inv.func {w : World} {bs add : List (Addr × Obj)} {e : Addr × Obj} {vs nvs vs' nvs' : List Value} {oan ofn oan' ofn' : Obj} {qs pqs qs' pqs' : List Addr} {ns : List Str} {ps : List (Str × Int)} {x : Str} {r : Int} (I : Inv w bs vs nvs oan ofn qs pqs ns ps)
    (hS' : StrsAre vs' (addU ns x)) (hA' : AtomDict w oan' (addU ns x)) (hS2' : StrsAre nvs' (addU ns x)) (hF' : FunDict w ofn' qs' ((addU ps (x, r)).map (fkey (addU ns x)))) (hK' : KeysAt (bs ++ add) qs' ((addU ps (x, r)).map (fkey (addU ns x))))
    (hP' : PairsAt (e :: bs) pqs' (addU ps (x, r))) (hx : x.length ≤ 100) (h0 : 0 ≤ r) (h1 : r < 5) : Inv w (bs ++ e :: add) vs' nvs' oan' ofn' qs' pqs' (addU ns x) (addU ps (x, r)) := by
  refine ⟨hS', hA', hF', hK'.mono fun p hp => ?_, fun p hp => ?_, nodup_addU x I.nd1, nodup_addU _ I.nd2, hS2', hP'.mono fun p hp => ?_, fun p hp => ?_⟩
  · rcases List.mem_append.mp hp with hp | hp
    · exact List.mem_append_left _ hp
    · exact List.mem_append_right _ (List.mem_cons_of_mem _ hp)
  · rcases of_mem_addU hp with hp | hp
    · exact mem_addU_old (I.sub p hp)
    · subst hp; exact mem_addU ns x
  · rcases List.mem_cons.mp hp with hp | hp
    · exact List.mem_append_right _ (List.mem_cons.mpr (.inl hp))
    · exact List.mem_append_left _ hp
  · rcases of_mem_addU hp with hp | hp
    · exact I.sm p hp
    · subst hp; exact ⟨hx, h0, by omega⟩
/-- the pair's tuple in front, then the list of digits -/
theorem news_r5 {h₀ h : Heap} {L : Addr} {q a t d tx an fs fn b c : Addr × Obj} {l : List (Addr × Obj)} (N : News h₀ L h (q :: a :: t :: d :: tx :: an :: fs :: fn :: b :: c :: l)) : News h₀ L h (t :: d :: tx :: an :: fs :: fn :: q :: a :: b :: c :: l) :=
  fun p hp => N p (by simp only [List.mem_cons] at hp ⊢; grind)
theorem news_r6 {h₀ h : Heap} {L : Addr} {q a t d tx an fs fn b c : Addr × Obj} {l : List (Addr × Obj)} (N : News h₀ L h (t :: d :: tx :: an :: fs :: fn :: q :: a :: b :: c :: l)) : News h₀ L h (q :: a :: t :: d :: tx :: an :: fs :: fn :: b :: c :: l) :=
  fun p hp => N p (by simp only [List.mem_cons] at hp ⊢; grind)
theorem mem_of_strs {ns : List Str} {x : Str} {vs : List Value} (_ : StrsAre vs (addU ns x)) : x ∈ addU ns x := mem_addU ns x
theorem mem_of_pairs {ps : List (Str × Int)} {x : Str × Int} {bs : List (Addr × Obj)} {qs : List Addr} (_ : PairsAt bs qs (addU ps x)) : x ∈ addU ps x := mem_addU ps x
section
variable {bs rest add : List (Addr × Obj)} {e a t d tx an fs fn b c : Addr × Obj}
theorem sub_4 (h : ∀ p ∈ bs, p ∈ rest) : ∀ p ∈ bs, p ∈ e :: a :: b :: c :: rest :=
  fun p hp => List.mem_cons_of_mem _ (List.mem_cons_of_mem _ (List.mem_cons_of_mem _ (List.mem_cons_of_mem _ (h p hp))))
theorem sub_p (h : ∀ p ∈ bs, p ∈ rest) : ∀ p ∈ bs, p ∈ e :: a :: t :: d :: tx :: an :: fs :: fn :: b :: c :: rest :=
  fun p hp => by have := h p hp; simp only [List.mem_cons]; simp only [this, or_true]
theorem sub_q (h : ∀ p ∈ bs, p ∈ rest) : ∀ p ∈ e :: bs, p ∈ e :: a :: t :: d :: tx :: an :: fs :: fn :: b :: c :: rest :=
  fun p hp => by
    rcases List.mem_cons.mp hp with hp | hp
    · exact hp ▸ List.mem_cons_self
    · exact sub_p h p hp
theorem sub_qa (h : ∀ p ∈ bs, p ∈ rest) : ∀ p ∈ e :: bs, p ∈ e :: a :: t :: d :: tx :: an :: fs :: fn :: b :: c :: (rest ++ add) := sub_q fun p hp => List.mem_append_left _ (h p hp)
end
theorem Inv.more {w : World} {bs bs' : List (Addr × Obj)} {vs nvs : List Value} {oan ofn : Obj} {qs pqs : List Addr} {ns : List Str} {ps : List (Str × Int)} (I : Inv w bs vs nvs oan ofn qs pqs ns ps) (h : ∀ p ∈ bs, p ∈ bs') : Inv w bs' vs nvs oan ofn qs pqs ns ps :=
  ⟨I.S, I.A, I.F, I.K.mono h, I.sub, I.nd1, I.nd2, I.S2, I.P.mono h, I.sm⟩

section
local macro_rules | `(tactic| k_mem) => `(tactic| first | exact List.mem_cons_self | assumption | (refine List.mem_cons_of_mem _ ?_; k_mem))
local macro_rules | `(tactic| ktr_units) => `(tactic| first | (have hcL9 := cLine_is; (simp only [units_under_make, units_in1, units_deeper, Around.mark_units, units_caller] at *); (dsimp only [ktrTop] at *); omega) | (have hcL9 := cLine_is; (simp only [units_under_make, units_in1, units_deeper, Around.mark_units, units_caller]); omega))
local macro_rules | `(tactic| walk_at "getMethod ref") => `(tactic| (k_here; k_dflt (refine' method_inst ?k1 ?k2 ?k3 ?k4 ?k5 ?k6 ?k7 ?_; (case k1 | k2 => k_asm); (case k3 => k_inst); (case k4 | k5 | k6 => k_is); (case k7 => k_get); k_whole)))
local macro_rules | `(tactic| walk_at "getMethod ref") => `(tactic| (k_here; (with_reducible show wpAny _ _ (getMethod (Value.ref _) (PySem.Str.ofString "append") _) _ _ _); k_dflt (refine' lst_method ?N ?m PySem.F.slot_list_append PySem.F.type_list_append ?_; (case N => k_asm); (case m => k_mem))))
local macro_rules | `(tactic| walk_at "getMethod ref") => `(tactic| (k_here; (with_reducible show wpAny _ _ (getMethod (Value.ref _) (PySem.Str.ofString "index") _) _ _ _); k_dflt (refine' lst_method ?N ?m PySem.F.slot_list_index PySem.F.type_list_index ?_; (case N => k_asm); (case m => k_mem))))
local macro_rules | `(tactic| walk_at "call ref") => `(tactic| (k_here; (with_reducible show wpAny _ _ (call (Value.ref 112) _) _ _ _); k_dflt (refine' known_ctr ?B ?F ?X ?N ?T ?hk ?hdp ?hun ?mt ?md ?m1 ?m2 ?lo1 ?lo2 ?hA ?hF ?hK ?hsub (fun tv' h' tk' F' N' => ?_); (case B | F | X | T | N => k_asm); (case hk => exact rfl); (case hdp => ktr_room); (case hun => ktr_units); (case mt | md | m1 | m2 => k_mem); (case lo1 | lo2 | hA | hF => k_asm); (case hK => exact KeysAt.mono (by assumption) (sub_p (by assumption))); (case hsub => k_asm); (try dsimp only); (try k_fold))))
local macro_rules | `(tactic| walk_at "call ref") => `(tactic| (k_here; (with_reducible show wpAny _ _ (call (Value.ref 49) _) _ _ _); k_dflt (refine' atom_ctr ?B ?F ?X ?N ?T ?hk ?hdp ?hun ?o1 ?o2 ?o3 ?o4 ?o5 ?hoff ?lo ?hS ?hA ?hlen (fun tv' vs' nv' oan' h' tk' hS' hA' F' N' => ?_); (case B | F | X | T => k_asm); (case N => first | k_asm | exact news_r5 (by k_asm)); (case hk => exact rfl); (case hdp => ktr_room); (case hun => ktr_units); (case o1 | o2 | o3 | o4 | o5 => k_asm); (case hoff => exact off_r4 (by assumption) (by assumption) (by assumption) (by assumption) (by assumption) (by assumption) (by assumption) (by assumption) (by assumption) (by assumption)); (case lo | hS | hA => k_asm); (case hlen => omega); (replace N' := news_r6 N'); (try dsimp only); (try k_fold))))
local macro_rules | `(tactic| walk_at "call ref") => `(tactic| (k_here; (with_reducible show wpAny _ _ (call (Value.ref 70) _) _ _ _); k_dflt (refine' func_ctr ?B ?F ?X ?N ?T ?hk ?hdp ?hun ?o1 ?o2 ?o3 ?o4 ?o5 ?hoff ?lo1 ?lo2 ?hS ?hA ?hlen1 ?hus ?hF ?hbs ?hK ?hlen2 ?hsub (fun tv' vs' nv' oan' qs' nu' ofn' add' h' tk' hS' hA' hadd' hF' hK' F' N' => ?_); (case B | F | X | T => k_asm); (case N => first | k_asm | exact news_r5 (by k_asm)); (case hk => exact rfl); (case hdp => ktr_room); (case hun => ktr_units); (case o1 | o2 | o3 | o4 | o5 => k_asm); (case hoff => exact off_r4 (by assumption) (by assumption) (by assumption) (by assumption) (by assumption) (by assumption) (by assumption) (by assumption) (by assumption) (by assumption)); (case lo1 | lo2 | hS | hA => k_asm); (case hlen1 => omega); (case hus => exact rfl); (case hF | hK => k_asm); (case hbs => exact sub_4 (by assumption)); (case hlen2 => omega); (case hsub => k_asm); (try simp only [List.cons_append] at N'); (replace N' := news_r6 N'); (try dsimp only); (try k_fold))))
local macro_rules | `(tactic| walk_at "call ref") => `(tactic| (k_here; (with_reducible show wpAny _ _ (call (Value.ref 63) _) _ _ _); k_dflt (refine' functor_ctr ?B ?F ?X ?N ?T ?hk ?hdp ?hun ?o1 ?o2 ?o3 ?o4 ?o5 ?hoff ?lo ?hus ?hul ?hF ?hbs ?hK ?hlen (fun tv' qs' nu' ofn' add' h' tk' hadd' hF' hK' F' N' => ?_); (case B | F | X | T => k_asm); (case N => first | k_asm | exact news_r5 (by k_asm)); (case hk => exact rfl); (case hdp => ktr_room); (case hun => ktr_units); (case o1 | o2 | o3 | o4 | o5 => k_asm); (case hoff => exact off_r4 (by assumption) (by assumption) (by assumption) (by assumption) (by assumption) (by assumption) (by assumption) (by assumption) (by assumption) (by assumption)); (case lo | hF | hK => k_asm); (case hus => exact rfl); (case hul => k_asm); (case hbs => exact sub_4 (by assumption)); (case hlen => (rw [List.length_map]; omega)); (try simp only [List.cons_append] at N'); (replace N' := news_r6 N'); (try dsimp only); (try k_fold))))
local macro_rules | `(tactic| walk_at "compareOp In ref ref") => `(tactic| (k_here; k_dflt (refine' pairs_in ?hu ?N ?m (PairsAt.mono ?hP ?sub) ?q (fun hIn8 => ?_) (fun hOut8 => ?_); (case hu => ktr_units); (case N => k_asm); (case m => k_mem); (case hP => k_asm); (case q => k_mem); (case sub => first | exact sub_p (by assumption) | exact sub_q (by assumption) | exact sub_qa (by assumption)))))
local macro_rules | `(tactic| walk_at "call builtin:list.index") => `(tactic| (k_here; (with_reducible show wpAny _ _ (call (Value.builtin _) [Value.ref _, Value.ref _]) _ _ _); k_dflt (refine' pairs_index ?hu ?N ?m (PairsAt.mono ?hP ?sub) ?q ?hx ?hlen (fun t9 => ?_); (case hu => ktr_units); (case N => k_asm); (case m => k_mem); (case hP => k_asm); (case q => k_mem); (case sub => first | exact sub_p (by assumption) | exact sub_q (by assumption) | exact sub_qa (by assumption)); (case hx => k_asm); (case hlen => omega))))
local macro_rules | `(tactic| walk_at "call builtin:list.index") => `(tactic| (k_here; (with_reducible show wpAny _ _ (call (Value.builtin _) [Value.ref _, Value.str _ _]) _ _ _); k_dflt (refine' strs_index ?N ?m ?hS ?hx ?hlen (fun t9 => ?_); (case N => k_asm); (case m => k_mem); (case hS | hx => k_asm); (case hlen => omega))))
local macro_rules | `(tactic| walk_at "ite") => `(tactic| (k_here; first | (with_reducible refine ite_neg (by decide) ?_) | (with_reducible refine ite_pos (by decide) ?_) | ((with_reducible refine ite_both (fun hC9 => ?_) (fun hC9 => ?_)) <;> (try simp only [decide_eq_true_eq, Bool.not_eq_true, Bool.not_eq_eq_eq_not, Bool.not_true, Bool.not_false, decide_eq_false_iff_not] at hC9))))
local macro_rules | `(tactic| walk_at "exec If") => `(tactic| (k_here; (with_reducible show wpAny _ _ (exec (Stmt.If (Expr.Compare (Expr.Name _ _) [CmpOp.NotIn] [Expr.Name (Str.ofString "names_so_far") _] _) _ _ _) _) _ _ _); k_dflt (refine' nin_names (hbody := rfl) (hfor := rfl) (hst := rfl) ?B ?F ?X ?N ?T ?oh ?o1 ?o2 ?o3 ?o4 ?o5 ?o6 ?o7 ?oq ?hR ?hS2 ?hl1 (fun nvs' nn1' h' tk' hS2' F' N' => ?_); (case B | F | X | T | N | oh | o1 | o2 | o3 | o4 | o5 | o6 | o7 | oq | hR | hS2 | hl1 => k_asm); (try dsimp only); (have hx9 := mem_of_strs hS2'); (have hL9 := hS2'.length); (try k_fold))))
local macro_rules | `(tactic| walk_at "exec If") => `(tactic| (k_here; (with_reducible show wpAny _ _ (exec (Stmt.If (Expr.Compare (Expr.Name _ _) [CmpOp.NotIn] [Expr.Name (Str.ofString "pairs_so_far") _] _) _ _ _) _) _ _ _); k_dflt (refine' nin_pairs (hbody := rfl) (hfor := rfl) (hst := rfl) ?B ?F ?X ?N ?T ?oh ?o1 ?o2 ?o3 ?o4 ?o5 ?o6 ?o7 ?oq ?hR ?hbs ?hP ?hl2 (fun pqs' nn2' h' tk' hP' F' N' => ?_); (case B | F | X | T | N | oh | o1 | o2 | o3 | o4 | o5 | o6 | o7 | oq | hR | hP | hbs | hl2 => k_asm); (try dsimp only); (have hx8 := mem_of_pairs hP'); (try k_fold))))
set_option maxRecDepth 100000 in
set_option maxHeartbeats 16000000 in
theorem turn_if {w : World} {mean : ExcName → Option Value} {mg mb : Str → Option Value} {base h₀ : Heap} {L : Addr} {s : Shared} {Q : Flow → Shared → Prop}
    {fa : Addr} {cda : Value} {params : Arguments} {body fb orelse : List Stmt} {tgt it : Expr} {pos : Pos} {scope : Scope} {dV kV doc pm cdv ct oc : Value} {an0 od : Option Addr} {osl : Array (Option Value)}
    {hp t d tx an fs fn nl pl wl : Addr} {c1 c2 c3 c4 : Int} {k1 k2 k3 k4 : Tok} {nd nv nu n1 nn1 nn2 : Nat} {ws vs nvs : List Value} {oan ofn : Obj} {qs pqs : List Addr} {ns : List Str} {ps : List (Str × Int)}  {rest bs : List (Addr × Obj)} {vi : Int} {ti : Tok} {u mm : Str → Option Value} {q : Addr} {x : Str} {r dv : Int} {tx9 tr9 tdv : Tok} {st : Stmt}
    (hbody : (hd.heap_39 w.params).lookup 147 = some ⟨oc, od, .func (fnOf (Str.ofString "law") (Str.ofString "law") params body scope dV kV doc pm an0 cdv ct), osl⟩)
    (hfor : body[6]? = some (.For tgt it fb orelse pos)) (hst : fb[4]? = some st)
    (B : Below callerA base [] h₀) (F : Fr h₀ L s.heap (fun z => if z = Str.ofString "pair" then some (.ref q) else if z = Str.ofString "size_of" then some (.int r tr9) else if z = Str.ofString "word" then some (.str x tx9) else if z = Str.ofString "deed" then some (.int dv tdv) else if z = Str.ofString "lap" then some (.int vi ti) else if stored9.contains z then u z else (if z = Str.ofString "words" then some (.ref wl) else if z = Str.ofString "pairs_so_far" then some (.ref pl) else if z = Str.ofString "names_so_far" then some (.ref nl) else if z = Str.ofString "table" then some (.ref t) else if z = Str.ofString "heap_of" then some (.ref hp) else mm z))) (X : (hd.heap_39 w.params).In h₀) (N : News h₀ L s.heap ((q, tupObj [.str x tx9, .int r tr9]) :: (hp, listOf ws.toArray n1) :: (t, instObj 115 d) :: (d, dictOf [⟨c1, .str (Str.ofString "texts") k1, .ref tx⟩, ⟨c2, .str (Str.ofString "atom_numbers") k2, .ref an⟩, ⟨c3, .str (Str.ofString "functors") k3, .ref fs⟩, ⟨c4, .str (Str.ofString "functor_numbers") k4, .ref fn⟩] nd) :: (tx, listOf vs.toArray nv) :: (an, oan) :: (fs, listOf (qs.map Value.ref).toArray nu) :: (fn, ofn) :: (nl, listOf nvs.toArray nn1) :: (pl, listOf (pqs.map Value.ref).toArray nn2) :: rest))
    (T : Top hd.view_39 (looseW hd.view_39 []) mean mg mb h₀)
    (oh : @LT.lt Nat _ hp d) (o1 : @LT.lt Nat _ d t) (o2 : @LT.lt Nat _ t tx) (o3 : @LT.lt Nat _ tx an) (o4 : @LT.lt Nat _ an fs) (o5 : @LT.lt Nat _ fs fn) (o6 : @LT.lt Nat _ fn nl) (o7 : @LT.lt Nat _ nl pl) (oq : @LT.lt Nat _ pl q)
    (hR : OwnOff rest [hp, t, d, tx, an, fs, fn, nl, pl])
    (hbs : ∀ p ∈ bs, p ∈ rest) (lo1 : (an == sysModules) = false) (lo2 : (fn == sysModules) = false) (hxs : x.length ≤ 100) (hr0 : 0 ≤ r) (hr1 : r < 5) (I : Inv w bs vs nvs oan ofn qs pqs ns ps) (hl1 : ns.length ≤ 900) (hl2 : ps.length ≤ 900)
    (hret : ∀ (vs' : List Value) (nv' : Nat) (oan' : Obj) (qs' : List Addr) (nu' : Nat) (ofn' : Obj) (nvs' : List Value) (nn1' : Nat) (pqs' : List Addr) (nn2' : Nat) (ns' : List Str) (ps' : List (Str × Int)) (add : List (Addr × Obj)) (h' : Heap) (tk' : Nat) (u' : Str → Option Value),
      Inv w (bs ++ ((q, tupObj [.str x tx9, .int r tr9]) :: add)) vs' nvs' oan' ofn' qs' pqs' ns' ps' → ns'.length ≤ ns.length + 1 → ps'.length ≤ ps.length + 1 → OwnOff add ([q, hp, t, d, tx, an, fs, fn, nl, pl] ++ rest.map (·.1)) →
      Fr h₀ L h' (fun z => if stored10.contains z then u' z else (if z = Str.ofString "words" then some (.ref wl) else if z = Str.ofString "pairs_so_far" then some (.ref pl) else if z = Str.ofString "names_so_far" then some (.ref nl) else if z = Str.ofString "table" then some (.ref t) else if z = Str.ofString "heap_of" then some (.ref hp) else mm z)) → News h₀ L h' ((q, tupObj [.str x tx9, .int r tr9]) :: (hp, listOf ws.toArray n1) :: (t, instObj 115 d) :: (d, dictOf [⟨c1, .str (Str.ofString "texts") k1, .ref tx⟩, ⟨c2, .str (Str.ofString "atom_numbers") k2, .ref an⟩, ⟨c3, .str (Str.ofString "functors") k3, .ref fs⟩, ⟨c4, .str (Str.ofString "functor_numbers") k4, .ref fn⟩] nd) :: (tx, listOf vs'.toArray nv') :: (an, oan') :: (fs, listOf (qs'.map Value.ref).toArray nu') :: (fn, ofn') :: (nl, listOf nvs'.toArray nn1') :: (pl, listOf (pqs'.map Value.ref).toArray nn2') :: (rest ++ add)) → Q .next { s with heap := h', toks := tk' }) :
    wpAny (model Challenge.rw_ok0005_01.row.prog w) (callerA.deeper (envOf (Str.ofString "law") scope L fa cda)) (exec st (envOf (Str.ofString "law") scope L fa cda)) Q (fun _ _ => False) s := by
  have e : (hd.heap_39 w.params).lookup 147 = some ⟨_, _, .func _, _⟩ := rfl
  rw [e] at hbody
  clear e
  cases hbody
  cases hfor
  obtain rfl := Option.some.inj hst

  have I' := I
  obtain ⟨hS, hA, hF, hK, hsub, hnd1, hnd2, hS2, hP, hsm⟩ := I
  have f1 := StrsAre.length hS
  have oq2 : @LT.lt Nat _ fn q := Nat.lt_trans o6 (Nat.lt_trans o7 oq)
  have f3 : (qs.map Value.ref).length = (ps.map (fkey ns)).length := by rw [List.length_map]; exact hK.1
  have f2 := StrsAre.length hS2
  have g1 : (addU ns x).length ≤ 901 := by have := len_addU ns x; omega
  have g2 : (addU ps (x, r)).length ≤ 901 := by have := len_addU ps (x, r); omega
  revert X; k_fill; intro X
  k_steps
  · exfalso; (rename (_ != _) = true => hBad); rw [if_pos (by assumption)] at hBad; exact absurd hBad (by simp)
  · (rename News h₀ L _ _ => N9); (rename Fr h₀ L _ _ => F9)
    exact hret vs nv oan qs nu ofn nvs nn1 pqs nn2 ns ps [] _ _ _ (I'.more fun p hp => List.mem_append_left _ hp) (Nat.le_succ _) (Nat.le_succ _) off_nil (Fr.shape F9 fun z hz => by obtain ⟨z0, z1, z2, z3, z4, z5, z6, z7, z8⟩ := s10 hz; simp only [z0, z1, z2, z3, z4, z5, z6, z7, z8, Bool.false_eq_true, if_false]) (by rw [List.append_nil]; exact N9)
  · exfalso; (rename (_ != _) = true => hBad); rw [if_neg (by assumption)] at hBad; exact absurd hBad (by simp)
  · (rename News h₀ L _ _ => N9); (rename Fr h₀ L _ _ => F9)
    exact hret vs nv oan qs nu ofn nvs nn1 pqs nn2 ns ps [] _ _ _ (I'.more fun p hp => List.mem_append_left _ hp) (Nat.le_succ _) (Nat.le_succ _) off_nil (Fr.shape F9 fun z hz => by obtain ⟨z0, z1, z2, z3, z4, z5, z6, z7, z8⟩ := s10 hz; simp only [z0, z1, z2, z3, z4, z5, z6, z7, z8, Bool.false_eq_true, if_false]) (by rw [List.append_nil]; exact N9)
  · exfalso; (rename (_ != _) = true => hBad); rw [idx_addU] at hBad; exact absurd hBad (by simp)
  · (rename News h₀ L _ _ => N9); (rename Fr h₀ L _ _ => F9); (rename AtomDict _ _ (addU ns x) => hA9); (rename StrsAre _ (addU ns x) => hS9)
    rw [← List.append_nil rest] at N9
    exact hret _ _ _ qs nu ofn _ _ pqs nn2 _ ps [] _ _ _ ((I'.atom hS9 hA9 (by assumption)).more fun p hp => List.mem_append_left _ hp) (len_addU ns x) (Nat.le_succ _) off_nil (Fr.shape F9 fun z hz => by obtain ⟨z0, z1, z2, z3, z4, z5, z6, z7, z8⟩ := s10 hz; simp only [z0, z1, z2, z3, z4, z5, z6, z7, z8, Bool.false_eq_true, if_false]) N9
  · exfalso; (rename (_ != _) = true => hBad); rw [idx_addU] at hBad; exact absurd hBad (by simp)
  · (rename News h₀ L _ _ => N9); (rename Fr h₀ L _ _ => F9); (rename AtomDict _ _ (addU ns x) => hA9); (rename StrsAre _ (addU ns x) => hS9); (rename FunDict _ _ _ (List.map _ (addU _ _)) => hF9); (rename KeysAt _ _ (List.map _ (addU _ _)) => hK9)
    exact hret _ _ _ _ _ _ _ _ _ _ _ _ _ _ _ _ (I'.func hS9 hA9 (by assumption) hF9 hK9 (by assumption) hxs hr0 hr1) (len_addU ns x) (len_addU ps (x, r)) (off_back (by assumption)) (Fr.shape F9 fun z hz => by obtain ⟨z0, z1, z2, z3, z4, z5, z6, z7, z8⟩ := s10 hz; simp only [z0, z1, z2, z3, z4, z5, z6, z7, z8, Bool.false_eq_true, if_false]) N9
  · exfalso; (rename (_ != _) = true => hBad); rw [idx_addU, key_idx hsub] at hBad; exact absurd hBad (by simp)
  · (rename News h₀ L _ _ => N9); (rename Fr h₀ L _ _ => F9); (rename AtomDict _ _ (addU ns x) => hA9); (rename StrsAre _ (addU ns x) => hS9); (rename FunDict _ _ _ (addU (List.map _ _) _) => hF9); (rename KeysAt _ _ (addU (List.map _ _) _) => hK9)
    rw [key_map hsub] at hF9 hK9
    exact hret _ _ _ _ _ _ _ _ _ _ _ _ _ _ _ _ (I'.func hS9 hA9 (by assumption) hF9 hK9 (by assumption) hxs hr0 hr1) (len_addU ns x) (len_addU ps (x, r)) (off_back (by assumption)) (Fr.shape F9 fun z hz => by obtain ⟨z0, z1, z2, z3, z4, z5, z6, z7, z8⟩ := s10 hz; simp only [z0, z1, z2, z3, z4, z5, z6, z7, z8, Bool.false_eq_true, if_false]) N9
end
end Mine


end
section
open PySem PySem.W PyProof.Rows PySem.Spec PySem.Calls
namespace Mine
theorem off_q {add rest : List (Addr × Obj)} {q hp t d tx an fs fn nl pl : Addr} {e : Obj} (l : hp < q ∧ t < q ∧ d < q ∧ tx < q ∧ an < q ∧ fs < q ∧ fn < q ∧ nl < q ∧ pl < q ∧ AllLt q rest) (h : OwnOff add ([q, hp, t, d, tx, an, fs, fn, nl, pl] ++ rest.map (·.1))) : OwnOff ((q, e) :: add) ([hp, t, d, tx, an, fs, fn, nl, pl] ++ rest.map (·.1)) := by
  obtain ⟨a1, a2, a3, a4, a5, a6, a7, a8, a9, a10⟩ := l
  refine off_cons (fun b hb => ?_) (off_sub h fun b hb => List.mem_cons_of_mem _ hb)
  have : @LT.lt Nat _ b q := by
    simp only [List.mem_append, List.mem_cons, List.not_mem_nil, or_false] at hb
    rcases hb with (hb | hb | hb | hb | hb | hb | hb | hb | hb) | hb
    · rw [hb]; exact a1
    · rw [hb]; exact a2
    · rw [hb]; exact a3
    · rw [hb]; exact a4
    · rw [hb]; exact a5
    · rw [hb]; exact a6
    · rw [hb]; exact a7
    · rw [hb]; exact a8
    · rw [hb]; exact a9
    · obtain ⟨p, hp', rfl⟩ := List.mem_map.mp hb
      exact kst_ltOf a10 p hp'
  exact (Nat.ne_of_lt this).symm
theorem news_q {h₀ h : Heap} {L : Addr} {q a t d tx an fs fn b c : Addr × Obj} {rest add : List (Addr × Obj)} (N : News h₀ L h (q :: a :: t :: d :: tx :: an :: fs :: fn :: b :: c :: (rest ++ add))) : News h₀ L h (a :: t :: d :: tx :: an :: fs :: fn :: b :: c :: (rest ++ q :: add)) :=
  fun p hp => N p (by simp only [List.mem_cons, List.mem_append] at hp ⊢; grind)
theorem s10_of {z : Str} (z1 : z ≠ Str.ofString "lap") (z2 : stored9.contains z = false) : stored10.contains z = false := by
  simp only [stored10, List.contains_cons, Bool.or_eq_false_iff, beq_eq_false_iff_ne]
  exact ⟨z1, z2⟩

section
local macro_rules | `(tactic| k_mem) => `(tactic| first | exact List.mem_cons_self | assumption | (refine List.mem_cons_of_mem _ ?_; k_mem))
local macro_rules | `(tactic| ktr_units) => `(tactic| first | (have hcL9 := cLine_is; (simp only [units_under_make, units_in1, units_deeper, Around.mark_units, units_caller] at *); (dsimp only [ktrTop] at *); omega) | (have hcL9 := cLine_is; (simp only [units_under_make, units_in1, units_deeper, Around.mark_units, units_caller]); omega))
local macro_rules | `(tactic| walk_at "getMethod ref") => `(tactic| (k_here; (with_reducible show wpAny _ _ (getMethod (Value.ref _) (PySem.Str.ofString "append") _) _ _ _); k_dflt (refine' lst_method ?N ?m PySem.F.slot_list_append PySem.F.type_list_append ?_; (case N => k_asm); (case m => k_mem))))
local macro_rules | `(tactic| walk_at "call ref") => `(tactic| (k_here; (with_reducible show wpAny _ _ (call (Value.ref 133) _) _ _ _); k_dflt (refine' choose_ctr ?B ?F ?X ?N ?T ?hk ?hdp ?hun ?hi ?hm0 ?hm1 ?hlen ?hoff (fun v' tv' ws' ms' n' h' tk' hv0' hv1' hW' hL' F' N' => ?_); (case B | F | X | T | N => k_asm); (case hk => exact rfl); (case hdp => ktr_room); (case hun => ktr_units); (case hi => k_asm); (case hm0 | hm1 => decide); (case hlen => omega); (case hoff => exact off_l8 (by assumption) (by assumption) (by assumption) (by assumption) (by assumption) (by assumption) (by assumption) (by assumption) (by assumption)); (try dsimp only); (try k_fold))))
local macro_rules | `(tactic| walk_at "subscriptTail Name Call ref int") => `(tactic| (k_here; (with_reducible show wpAny _ _ (subscriptTail _ _ (Value.ref _) (Value.int _ _)) _ _ _); (rename StrsAre _ words => hW8); k_dflt (refine' lst_item_strs ?N ?m hW8 ?h0 ?h1 ?h2 (fun x9 t9 hx9 => ?_); (case N => k_asm); (case m => k_mem); (case h0 => k_asm); (case h1 => (rw [words_len]; omega)); (case h2 => (rw [words_len]; decide)))))
local macro_rules | `(tactic| walk_at "subscriptTail") => `(tactic| (k_here; (with_reducible show wpAny _ _ (subscriptTail _ _ (Value.ref _) (Value.int _ _)) _ _ _); (rename StrsAre _ words => hW8); k_dflt (refine' lst_item_strs ?N ?m hW8 ?h0 ?h1 ?h2 (fun x9 t9 hx9 => ?_); (case N => k_asm); (case m => k_mem); (case h0 => k_asm); (case h1 => (rw [words_len]; omega)); (case h2 => (rw [words_len]; decide)))))
local macro_rules | `(tactic| walk_at "ite") => `(tactic| (k_here; first | (with_reducible refine ite_neg (by decide) ?_) | (with_reducible refine ite_pos (by decide) ?_) | ((with_reducible refine ite_both (fun hC9 => ?_) (fun hC9 => ?_)) <;> (try simp only [decide_eq_true_eq, Bool.not_eq_true, Bool.not_eq_eq_eq_not, Bool.not_true, Bool.not_false, decide_eq_false_iff_not] at hC9))))
local macro_rules | `(tactic| walk_at "exec If") => `(tactic| (k_here; refine Stop.intro ?_))
set_option maxRecDepth 100000 in
set_option maxHeartbeats 16000000 in
theorem law_turn {w : World} {mean : ExcName → Option Value} {mg mb : Str → Option Value} {base h₀ : Heap} {L : Addr} {s : Shared} {Q : Flow → Shared → Prop}
    {fa : Addr} {cda : Value} {params : Arguments} {body fb orelse : List Stmt} {tgt it : Expr} {pos : Pos} {scope : Scope} {dV kV doc pm cdv ct oc : Value} {an0 od : Option Addr} {osl : Array (Option Value)}
    {hp t d tx an fs fn nl pl wl : Addr} {c1 c2 c3 c4 : Int} {k1 k2 k3 k4 : Tok} {nd nv nu n1 nn1 nn2 nw : Nat} {ws vs nvs wvs : List Value} {oan ofn : Obj} {qs pqs : List Addr} {ns : List Str} {ps : List (Str × Int)} {ms : List Int} {rest bs : List (Addr × Obj)} {vi : Int} {ti : Tok} {u mm : Str → Option Value}
    (hbody : (hd.heap_39 w.params).lookup 147 = some ⟨oc, od, .func (fnOf (Str.ofString "law") (Str.ofString "law") params body scope dV kV doc pm an0 cdv ct), osl⟩)
    (hfor : body[6]? = some (.For tgt it fb orelse pos))
    (B : Below callerA base [] h₀) (F : Fr h₀ L s.heap (fun z => if z = Str.ofString "lap" then some (.int vi ti) else if stored9.contains z then u z else (if z = Str.ofString "words" then some (.ref wl) else if z = Str.ofString "pairs_so_far" then some (.ref pl) else if z = Str.ofString "names_so_far" then some (.ref nl) else if z = Str.ofString "table" then some (.ref t) else if z = Str.ofString "heap_of" then some (.ref hp) else mm z))) (X : (hd.heap_39 w.params).In h₀) (N : News h₀ L s.heap ((hp, listOf ws.toArray n1) :: (t, instObj 115 d) :: (d, dictOf [⟨c1, .str (Str.ofString "texts") k1, .ref tx⟩, ⟨c2, .str (Str.ofString "atom_numbers") k2, .ref an⟩, ⟨c3, .str (Str.ofString "functors") k3, .ref fs⟩, ⟨c4, .str (Str.ofString "functor_numbers") k4, .ref fn⟩] nd) :: (tx, listOf vs.toArray nv) :: (an, oan) :: (fs, listOf (qs.map Value.ref).toArray nu) :: (fn, ofn) :: (nl, listOf nvs.toArray nn1) :: (pl, listOf (pqs.map Value.ref).toArray nn2) :: rest))
    (T : Top hd.view_39 (looseW hd.view_39 []) mean mg mb h₀)
    (oh : @LT.lt Nat _ hp d) (o1 : @LT.lt Nat _ d t) (o2 : @LT.lt Nat _ t tx) (o3 : @LT.lt Nat _ tx an) (o4 : @LT.lt Nat _ an fs) (o5 : @LT.lt Nat _ fs fn) (o6 : @LT.lt Nat _ fn nl) (o7 : @LT.lt Nat _ nl pl)
    (hR : OwnOff rest [hp, t, d, tx, an, fs, fn, nl, pl])
    (hwl : (wl, listOf wvs.toArray nw) ∈ rest) (hW : StrsAre wvs words) (hbs : ∀ p ∈ bs, p ∈ rest) (lo1 : (an == sysModules) = false) (lo2 : (fn == sysModules) = false)
    (hi : IntsAre ws ms) (hms : ms.length ≤ 150) (I : Inv w bs vs nvs oan ofn qs pqs ns ps) (hl1 : ns.length ≤ 800) (hl2 : ps.length ≤ 800)
    (hret : ∀ (fl : Flow) (ws' : List Value) (ms' : List Int) (n1' : Nat) (vs' : List Value) (nv' : Nat) (oan' : Obj) (qs' : List Addr) (nu' : Nat) (ofn' : Obj) (nvs' : List Value) (nn1' : Nat) (pqs' : List Addr) (nn2' : Nat) (ns' : List Str) (ps' : List (Str × Int)) (add : List (Addr × Obj)) (h' : Heap) (tk' : Nat) (m' : Str → Option Value),
      (fl = .next ∨ fl = .brk) → IntsAre ws' ms' → ms'.length ≤ ms.length → Inv w (bs ++ add) vs' nvs' oan' ofn' qs' pqs' ns' ps' → ns'.length ≤ ns.length + 1 → ps'.length ≤ ps.length + 1 → OwnOff add ([hp, t, d, tx, an, fs, fn, nl, pl] ++ rest.map (·.1)) →
      (∀ z, z ≠ Str.ofString "lap" → stored9.contains z = false → m' z = (if z = Str.ofString "words" then some (.ref wl) else if z = Str.ofString "pairs_so_far" then some (.ref pl) else if z = Str.ofString "names_so_far" then some (.ref nl) else if z = Str.ofString "table" then some (.ref t) else if z = Str.ofString "heap_of" then some (.ref hp) else mm z)) → Fr h₀ L h' m' → News h₀ L h' ((hp, listOf ws'.toArray n1') :: (t, instObj 115 d) :: (d, dictOf [⟨c1, .str (Str.ofString "texts") k1, .ref tx⟩, ⟨c2, .str (Str.ofString "atom_numbers") k2, .ref an⟩, ⟨c3, .str (Str.ofString "functors") k3, .ref fs⟩, ⟨c4, .str (Str.ofString "functor_numbers") k4, .ref fn⟩] nd) :: (tx, listOf vs'.toArray nv') :: (an, oan') :: (fs, listOf (qs'.map Value.ref).toArray nu') :: (fn, ofn') :: (nl, listOf nvs'.toArray nn1') :: (pl, listOf (pqs'.map Value.ref).toArray nn2') :: (rest ++ add)) → Q fl { s with heap := h', toks := tk' }) :
    wpAny (model Challenge.rw_ok0005_01.row.prog w) (callerA.deeper (envOf (Str.ofString "law") scope L fa cda)) (execs fb (envOf (Str.ofString "law") scope L fa cda)) Q (fun _ _ => False) s := by
  have e : (hd.heap_39 w.params).lookup 147 = some ⟨_, _, .func _, _⟩ := rfl
  rw [e] at hbody
  clear e
  cases hbody
  cases hfor

  revert X; k_fill; intro X
  k_steps
  (rename News h₀ L _ _ => N9); (rename Fr h₀ L _ _ => F9); (rename hp < _ ∧ _ => l9)
  refine turn_if (hbody := rfl) (hfor := rfl) (hst := rfl) B F9 X N9 T oh o1 o2 o3 o4 o5 o6 o7 l9.2.2.2.2.2.2.2.2.1 hR hbs lo1 lo2 (words_small _ (by assumption)) (by assumption) (by assumption) I (by omega) (by omega) (fun vs' nv' oan' qs' nu' ofn' nvs' nn1' pqs' nn2' ns' ps' add' h' tk' u' I' hn' hp' ho' F' N' => ?_)
  dsimp only
  refine turn_tail (hbody := rfl) (hfor := rfl) (hst := rfl) B F' X N' T oh o1 o2 o3 o4 o5 o6 o7 (by assumption) (by omega) I'.S.length I'.S2.length (by rw [List.length_map, I'.K.1, List.length_map]) (by rw [List.length_map]; exact I'.P.1) (by omega) (by omega) (fun fl h'' tk'' hfl F'' N'' => ?_)
  exact hret fl _ _ _ _ _ _ _ _ _ _ _ _ _ _ _ _ h'' tk'' _ hfl (by assumption) (by omega) I' hn' hp' (off_q l9 ho') (fun z z1 z2 => by simp only [s10_of z1 z2, Bool.false_eq_true, if_false]) F'' (news_q N'')
end
end Mine


end
section
open PySem PySem.W PyProof.Rows PySem.Spec PySem.Calls
namespace Mine
theorem news_app {h₀ h : Heap} {L : Addr} {a t d tx an fs fn b c : Addr × Obj} {rest add own add2 : List (Addr × Obj)} (N : News h₀ L h (a :: t :: d :: tx :: an :: fs :: fn :: b :: c :: (((rest ++ add) ++ own) ++ add2))) : News h₀ L h (a :: t :: d :: tx :: an :: fs :: fn :: b :: c :: (rest ++ (add ++ add2))) :=
  fun p hp => N p (by simp only [List.mem_cons, List.mem_append] at hp ⊢; grind)
theorem own_off {own nx add2 : List (Addr × Obj)} {A B X : List Addr} (h1 : OwnOff own A) (h2 : OwnOff add2 (X ++ (nx ++ own).map (·.1))) (h3 : ∀ b ∈ B, b ∈ A ∨ b ∈ add2.map (·.1)) : OwnOff own B := fun p hp b hb e => by
  rcases h3 b hb with h | h
  · exact h1 p hp b h e
  · obtain ⟨z, hz, rfl⟩ := List.mem_map.mp h
    exact h2 z hz p.1 (List.mem_append_right _ (List.mem_map.mpr ⟨p, List.mem_append_right _ hp, rfl⟩)) e.symm
theorem map_nine {hp t d tx an fs fn nl pl : Addr} {e1 e2 e3 e4 e5 e6 e7 e8 e9 f1 f2 f3 f4 f5 f6 f7 f8 f9 : Obj} {rest add add2 : List (Addr × Obj)} {b : Addr} (hb : b ∈ List.map (·.1) ((hp, e1) :: (t, e2) :: (d, e3) :: (tx, e4) :: (an, e5) :: (fs, e6) :: (fn, e7) :: (nl, e8) :: (pl, e9) :: (rest ++ (add ++ add2)))) :
    b ∈ List.map (·.1) ((hp, f1) :: (t, f2) :: (d, f3) :: (tx, f4) :: (an, f5) :: (fs, f6) :: (fn, f7) :: (nl, f8) :: (pl, f9) :: (rest ++ add)) ∨ b ∈ add2.map (·.1) := by
  simp only [List.map_cons, List.map_append, List.mem_cons, List.mem_append] at hb ⊢
  grind
theorem in_nine {hp t d tx an fs fn nl pl : Addr} {e1 e2 e3 e4 e5 e6 e7 e8 e9 : Obj} {l : List (Addr × Obj)} {b : Addr} (hb : b ∈ [hp, t, d, tx, an, fs, fn, nl, pl]) : b ∈ List.map (·.1) ((hp, e1) :: (t, e2) :: (d, e3) :: (tx, e4) :: (an, e5) :: (fs, e6) :: (fn, e7) :: (nl, e8) :: (pl, e9) :: l) := by
  simp only [List.map_cons, List.mem_cons, List.not_mem_nil, or_false] at hb ⊢
  grind
theorem sub_9 {bs rest : List (Addr × Obj)} {a t d tx an fs fn b c : Addr × Obj} (h : ∀ p ∈ bs, p ∈ rest) : ∀ p ∈ bs, p ∈ a :: t :: d :: tx :: an :: fs :: fn :: b :: c :: rest :=
  fun p hp => by have := h p hp; simp only [List.mem_cons]; simp only [this, or_true]
theorem off_both {a b : List (Addr × Obj)} {l : List Addr} (h1 : OwnOff a l) (h2 : OwnOff b l) : OwnOff (a ++ b) l := fun p hp => (List.mem_append.mp hp).elim (h1 p) (h2 p)
theorem nine_l {A R : List Addr} {add : List (Addr × Obj)} (h : OwnOff add (A ++ R)) : OwnOff add A := off_sub h fun _ hb => List.mem_append_left _ hb
theorem off_lift {add2 rest add own : List (Addr × Obj)} {A : List Addr} (h : OwnOff add2 (A ++ ((rest ++ add) ++ own).map (·.1))) : OwnOff add2 (A ++ rest.map (·.1)) := off_sub h fun b hb => by
  simp only [List.mem_append, List.map_append] at hb ⊢
  grind

set_option maxRecDepth 100000 in
set_option maxHeartbeats 16000000 in
theorem main_loop {w : World} {mean : ExcName → Option Value} {mg mb : Str → Option Value} {base h₀ : Heap} {L : Addr} {s : Shared} {Q : Flow → Shared → Prop}
    {fa : Addr} {cda : Value} {params : Arguments} {body fb orelse : List Stmt} {tgt it : Expr} {pos : Pos} {scope : Scope} {dV kV doc pm cdv ct oc : Value} {an0 od : Option Addr} {osl : Array (Option Value)}
    {hp t d tx an fs fn nl pl wl : Addr} {c1 c2 c3 c4 : Int} {k1 k2 k3 k4 : Tok} {nd nv nu n1 nn1 nn2 nw : Nat} {ws vs nvs wvs : List Value} {oan ofn : Obj} {qs pqs : List Addr} {ns : List Str} {ps : List (Str × Int)} {ms : List Int} {rest bs : List (Addr × Obj)}   {mm : Str → Option Value} {r : Addr} {b : Int} {t₀ u₀ v₀ : Tok}
    (hbody : (hd.heap_39 w.params).lookup 147 = some ⟨oc, od, .func (fnOf (Str.ofString "law") (Str.ofString "law") params body scope dV kV doc pm an0 cdv ct), osl⟩)
    (hfor : body[6]? = some (.For tgt it fb orelse pos))
    (B : Below callerA base [] h₀) (F : Fr h₀ L s.heap (fun z => if z = Str.ofString "words" then some (.ref wl) else if z = Str.ofString "pairs_so_far" then some (.ref pl) else if z = Str.ofString "names_so_far" then some (.ref nl) else if z = Str.ofString "table" then some (.ref t) else if z = Str.ofString "heap_of" then some (.ref hp) else mm z)) (X : (hd.heap_39 w.params).In h₀) (N : News h₀ L s.heap ((hp, listOf ws.toArray n1) :: (t, instObj 115 d) :: (d, dictOf [⟨c1, .str (Str.ofString "texts") k1, .ref tx⟩, ⟨c2, .str (Str.ofString "atom_numbers") k2, .ref an⟩, ⟨c3, .str (Str.ofString "functors") k3, .ref fs⟩, ⟨c4, .str (Str.ofString "functor_numbers") k4, .ref fn⟩] nd) :: (tx, listOf vs.toArray nv) :: (an, oan) :: (fs, listOf (qs.map Value.ref).toArray nu) :: (fn, ofn) :: (nl, listOf nvs.toArray nn1) :: (pl, listOf (pqs.map Value.ref).toArray nn2) :: rest))
    (T : Top hd.view_39 (looseW hd.view_39 []) mean mg mb h₀)
    (oh : @LT.lt Nat _ hp d) (o1 : @LT.lt Nat _ d t) (o2 : @LT.lt Nat _ t tx) (o3 : @LT.lt Nat _ tx an) (o4 : @LT.lt Nat _ an fs) (o5 : @LT.lt Nat _ fs fn) (o6 : @LT.lt Nat _ fn nl) (o7 : @LT.lt Nat _ nl pl)
    (hR : OwnOff rest [hp, t, d, tx, an, fs, fn, nl, pl])
    (hr : IsRange s.heap r 0 b 1 t₀ u₀ v₀) (hb : b = if (ms.length : Int) < 30 then (ms.length : Int) else 30)
    (hwl : (wl, listOf wvs.toArray nw) ∈ rest) (hW : StrsAre wvs words) (hbs : ∀ p ∈ bs, p ∈ rest) (lo1 : (an == sysModules) = false) (lo2 : (fn == sysModules) = false)
    (hi : IntsAre ws ms) (hms : ms.length ≤ 150) (I : Inv w bs vs nvs oan ofn qs pqs ns ps) (hl1 : ns.length ≤ 700) (hl2 : ps.length ≤ 700)
    (hret : ∀ (ws' : List Value) (ms' : List Int) (n1' : Nat) (vs' : List Value) (nv' : Nat) (oan' : Obj) (qs' : List Addr) (nu' : Nat) (ofn' : Obj) (nvs' : List Value) (nn1' : Nat) (pqs' : List Addr) (nn2' : Nat) (ns' : List Str) (ps' : List (Str × Int)) (add : List (Addr × Obj)) (h' : Heap) (tk' : Nat) (u' : Str → Option Value),
      Inv w (bs ++ add) vs' nvs' oan' ofn' qs' pqs' ns' ps' → ns'.length ≤ 800 → ps'.length ≤ 800 → Fr h₀ L h' (fun z => if stored10.contains z then u' z else (if z = Str.ofString "words" then some (.ref wl) else if z = Str.ofString "pairs_so_far" then some (.ref pl) else if z = Str.ofString "names_so_far" then some (.ref nl) else if z = Str.ofString "table" then some (.ref t) else if z = Str.ofString "heap_of" then some (.ref hp) else mm z)) → News h₀ L h' ((hp, listOf ws'.toArray n1') :: (t, instObj 115 d) :: (d, dictOf [⟨c1, .str (Str.ofString "texts") k1, .ref tx⟩, ⟨c2, .str (Str.ofString "atom_numbers") k2, .ref an⟩, ⟨c3, .str (Str.ofString "functors") k3, .ref fs⟩, ⟨c4, .str (Str.ofString "functor_numbers") k4, .ref fn⟩] nd) :: (tx, listOf vs'.toArray nv') :: (an, oan') :: (fs, listOf (qs'.map Value.ref).toArray nu') :: (fn, ofn') :: (nl, listOf nvs'.toArray nn1') :: (pl, listOf (pqs'.map Value.ref).toArray nn2') :: (rest ++ add)) → Q .next { s with heap := h', toks := tk' }) :
    wpAny (model Challenge.rw_ok0005_01.row.prog w) (callerA.deeper (envOf (Str.ofString "law") scope L fa cda)) (pyIter (.ref r)) (fun it s₂ => LoopAtV Challenge.rw_ok0005_01.row.prog w (callerA.deeper (envOf (Str.ofString "law") scope L fa cda)) h₀ (envOf (Str.ofString "law") scope L fa cda) (Str.ofString "lap") fb Q (fun _ _ => False) it s₂) (fun _ _ => False) s := by

  obtain ⟨n, hn, hbn⟩ : ∃ n : Nat, n ≤ 30 ∧ b = (n : Int) := by
    by_cases e : (ms.length : Int) < 30
    · exact ⟨ms.length, by omega, by rw [hb, if_pos e]⟩
    · exact ⟨30, by omega, by rw [hb, if_neg e]; rfl⟩
  refine rng_loopS (n := n) (env := (envOf (Str.ofString "law") scope L fa cda)) stored9 (fun i nx => ∃ (ws : List Value) (ms : List Int) (n1 : Nat) (vs : List Value) (nv : Nat) (oan : Obj) (qs : List Addr) (nu : Nat) (ofn : Obj) (nvs : List Value) (nn1 : Nat) (pqs : List Addr) (nn2 : Nat) (ns' : List Str) (ps' : List (Str × Int)) (add : List (Addr × Obj)), IntsAre ws ms ∧ ms.length ≤ 150 ∧ Inv w (bs ++ add) vs nvs oan ofn qs pqs ns' ps' ∧ ns'.length ≤ ns.length + i ∧ ps'.length ≤ ps.length + i ∧ OwnOff add ([hp, t, d, tx, an, fs, fn, nl, pl] ++ rest.map (·.1)) ∧ nx = ((hp, listOf ws.toArray n1) :: (t, instObj 115 d) :: (d, dictOf [⟨c1, .str (Str.ofString "texts") k1, .ref tx⟩, ⟨c2, .str (Str.ofString "atom_numbers") k2, .ref an⟩, ⟨c3, .str (Str.ofString "functors") k3, .ref fs⟩, ⟨c4, .str (Str.ofString "functor_numbers") k4, .ref fn⟩] nd) :: (tx, listOf vs.toArray nv) :: (an, oan) :: (fs, listOf (qs.map Value.ref).toArray nu) :: (fn, ofn) :: (nl, listOf nvs.toArray nn1) :: (pl, listOf (pqs.map Value.ref).toArray nn2) :: (rest ++ add))) rfl hr hbn (by omega) F N ⟨ws, ms, n1, vs, nv, oan, qs, nu, ofn, nvs, nn1, pqs, nn2, ns, ps, [], hi, hms, I.more fun p hp => List.mem_append_left _ hp, by omega, by omega, off_nil, by rw [List.append_nil]⟩ ?_ ?_
  · rintro i ti u nx h tk own hin hoff ⟨ws1, ms1, n11, vs1, nv1, oan1, qs1, nu1, ofn1, nvs1, nn11, pqs1, nn21, ns1, ps1, add, hi1, hm1, I1, hs1, hs2, hadd, rfl⟩ F1 N1
    simp only [List.cons_append] at N1
    refine law_turn hbody hfor (bs := bs ++ add) (rest := (rest ++ add) ++ own) B F1 X N1 T oh o1 o2 o3 o4 o5 o6 o7 (off_both (off_both hR (nine_l hadd)) (off_sub hoff fun b hb => in_nine hb)) (List.mem_append_left _ (List.mem_append_left _ hwl)) hW
      (fun p hp => List.mem_append_left _ ((List.mem_append.mp hp).elim (fun h => List.mem_append_left _ (hbs p h)) (List.mem_append_right _))) lo1 lo2 hi1 hm1 I1 (by omega) (by omega)
      (fun fl ws2 ms2 n12 vs2 nv2 oan2 qs2 nu2 ofn2 nvs2 nn12 pqs2 nn22 ns2 ps2 add2 h2 tk2 m2 hfl hi2 hm2 I2 hs3 hs4 hadd2 hmm F2 N2 => ?_)
    rw [List.append_assoc] at I2
    have hadd3 : OwnOff (add ++ add2) ([hp, t, d, tx, an, fs, fn, nl, pl] ++ rest.map (·.1)) := off_both hadd (off_lift hadd2)
    rcases hfl with rfl | rfl
    · exact InvEndG.intro F2 N2 ⟨hmm, ws2, ms2, n12, vs2, nv2, oan2, qs2, nu2, ofn2, nvs2, nn12, pqs2, nn22, ns2, ps2, add ++ add2, hi2, by omega, I2, by omega, by omega, hadd3, rfl⟩ (own_off hoff hadd2 fun b hb => map_nine hb) (fun p hp => by simp only [List.mem_cons, List.mem_append] at hp ⊢; grind) (fun p hp => by simp only [List.mem_cons, List.mem_append]; grind)
    · exact hret ws2 ms2 n12 vs2 nv2 oan2 qs2 nu2 ofn2 nvs2 nn12 pqs2 nn22 ns2 ps2 (add ++ add2) h2 tk2 _ I2 (by omega) (by omega) (Fr.shape F2 fun z hz => hmm z (s10 hz).1 (s10 hz).2.2.2.2.2.2.2.2) (news_app N2)
  · rintro u nx h tk ⟨ws1, ms1, n11, vs1, nv1, oan1, qs1, nu1, ofn1, nvs1, nn11, pqs1, nn21, ns1, ps1, add, hi1, hm1, I1, hs1, hs2, hadd, rfl⟩ F1 N1
    exact hret ws1 ms1 n11 vs1 nv1 oan1 qs1 nu1 ofn1 nvs1 nn11 pqs1 nn21 ns1 ps1 add h tk _ I1 (by omega) (by omega) (Fr.shape F1 fun z hz => by simp only [(s10 hz).1, (s10 hz).2.2.2.2.2.2.2.2, Bool.false_eq_true, if_false]) N1

section
local macro_rules | `(tactic| k_mem) => `(tactic| first | exact List.mem_cons_self | assumption | (refine List.mem_cons_of_mem _ ?_; k_mem))
local macro_rules | `(tactic| ktr_units) => `(tactic| first | (have hcL9 := cLine_is; (simp only [units_under_make, units_in1, units_deeper, Around.mark_units, units_caller] at *); (dsimp only [ktrTop] at *); omega) | (have hcL9 := cLine_is; (simp only [units_under_make, units_in1, units_deeper, Around.mark_units, units_caller]); omega))
local macro_rules | `(tactic| walk_at "call ref") => `(tactic| (k_here; (with_reducible show wpAny _ _ (call (Value.ref 140) _) _ _ _); k_dflt (refine' agrees_ctr ?B ?F ?X ?N ?T ?hk ?hdp ?hun ?mt ?md ?m1 ?m2 ?m3 ?m4 ?m5 ?m6 ?lo1 ?lo2 ?hS ?hA ?hF ?hK ?hsub ?hnd1 ?hnd ?hS2 ?hP ?hl1 ?hl2 ?hsz (fun h' tk' F' N' => ?_); (case B | F | X | T | N => k_asm); (case hk => exact rfl); (case hdp => ktr_room); (case hun => ktr_units); (case mt | md | m1 | m2 | m3 | m4 | m5 | m6 => k_mem); (case lo1 | lo2 | hS | hA | hF => k_asm); (case hK => exact KeysAt.mono (by assumption) (sub_9 (by assumption))); (case hsub | hnd1 | hnd | hS2 => k_asm); (case hP => exact PairsAt.mono (by assumption) (sub_9 (by assumption))); (case hl1 | hl2 => omega); (case hsz => k_asm); (try dsimp only); (try k_fold))))
set_option maxRecDepth 100000 in
set_option maxHeartbeats 16000000 in
theorem law_end {w : World} {mean : ExcName → Option Value} {mg mb : Str → Option Value} {base h₀ : Heap} {L : Addr} {s : Shared} {Q : Flow → Shared → Prop}
    {fa : Addr} {cda : Value} {params : Arguments} {body fb orelse : List Stmt} {tgt it : Expr} {pos : Pos} {scope : Scope} {dV kV doc pm cdv ct oc : Value} {an0 od : Option Addr} {osl : Array (Option Value)}
    {hp t d tx an fs fn nl pl wl : Addr} {c1 c2 c3 c4 : Int} {k1 k2 k3 k4 : Tok} {nd nv nu n1 nn1 nn2 : Nat} {ws vs nvs : List Value} {oan ofn : Obj} {qs pqs : List Addr} {ns : List Str} {ps : List (Str × Int)}  {rest bs : List (Addr × Obj)}   {u mm : Str → Option Value} {tl : List Stmt}
    (hbody : (hd.heap_39 w.params).lookup 147 = some ⟨oc, od, .func (fnOf (Str.ofString "law") (Str.ofString "law") params body scope dV kV doc pm an0 cdv ct), osl⟩)
    (hfor : body[6]? = some (.For tgt it fb orelse pos)) (hst : body.drop 7 = tl)
    (B : Below callerA base [] h₀) (F : Fr h₀ L s.heap (fun z => if stored10.contains z then u z else (if z = Str.ofString "words" then some (.ref wl) else if z = Str.ofString "pairs_so_far" then some (.ref pl) else if z = Str.ofString "names_so_far" then some (.ref nl) else if z = Str.ofString "table" then some (.ref t) else if z = Str.ofString "heap_of" then some (.ref hp) else mm z))) (X : (hd.heap_39 w.params).In h₀) (N : News h₀ L s.heap ((hp, listOf ws.toArray n1) :: (t, instObj 115 d) :: (d, dictOf [⟨c1, .str (Str.ofString "texts") k1, .ref tx⟩, ⟨c2, .str (Str.ofString "atom_numbers") k2, .ref an⟩, ⟨c3, .str (Str.ofString "functors") k3, .ref fs⟩, ⟨c4, .str (Str.ofString "functor_numbers") k4, .ref fn⟩] nd) :: (tx, listOf vs.toArray nv) :: (an, oan) :: (fs, listOf (qs.map Value.ref).toArray nu) :: (fn, ofn) :: (nl, listOf nvs.toArray nn1) :: (pl, listOf (pqs.map Value.ref).toArray nn2) :: rest))
    (T : Top hd.view_39 (looseW hd.view_39 []) mean mg mb h₀)
    (hbs : ∀ p ∈ bs, p ∈ rest) (lo1 : (an == sysModules) = false) (lo2 : (fn == sysModules) = false) (I : Inv w bs vs nvs oan ofn qs pqs ns ps) (hl1 : ns.length ≤ 800) (hl2 : ps.length ≤ 800)
    (hret : ∀ (h' : Heap) (tk' : Nat) (m' : Str → Option Value), Fr h₀ L h' m' → Q (.ret (.bool true)) { s with heap := h', toks := tk' }) :
    wpAny (model Challenge.rw_ok0005_01.row.prog w) (callerA.deeper (envOf (Str.ofString "law") scope L fa cda)) (execs tl (envOf (Str.ofString "law") scope L fa cda)) Q (fun _ _ => False) s := by
  have e : (hd.heap_39 w.params).lookup 147 = some ⟨_, _, .func _, _⟩ := rfl
  rw [e] at hbody
  clear e
  cases hbody
  obtain rfl : _ = tl := hst
  dsimp only [List.drop]
  obtain ⟨hS, hA, hF, hK, hsub, hnd1, hnd2, hS2, hP, hsm⟩ := I
  revert X; k_fill; intro X
  k_steps
  exact hret _ _ _ (by assumption)
end
end Mine


end
section
open PySem PySem.W PyProof.Rows PySem.Spec PySem.Calls
namespace Mine
theorem news_start {h₀ h : Heap} {L : Addr} {wl pl q2 nl q1 t d tx an fs fn hp : Addr × Obj} {R : List (Addr × Obj)} (N : News h₀ L h (wl :: pl :: q2 :: nl :: q1 :: t :: d :: tx :: an :: fs :: fn :: hp :: R)) : News h₀ L h (hp :: t :: d :: tx :: an :: fs :: fn :: nl :: pl :: wl :: q2 :: q1 :: R) :=
  fun p hp => N p (by simp only [List.mem_cons] at hp ⊢; grind)
theorem KeysAt.drop_list {hp : Addr} {v : Array Value} {n : Nat} {add : List (Addr × Obj)} {qs : List Addr} {ks : List (List Int)} (h : KeysAt ([(hp, listOf v n)] ++ add) qs ks) : KeysAt add qs ks :=
  ⟨h.1, fun i q k hq hk => by
    obtain ⟨a, r, t, u, e, m⟩ := h.2 i q k hq hk
    refine ⟨a, r, t, u, e, ?_⟩
    rcases List.mem_append.mp m with m | m
    · have e2 := congrArg Obj.cls (congrArg Prod.snd (List.mem_singleton.mp m))
      exact absurd e2 (by simp [W.listOf])
    · exact m⟩
theorem start {h₀ h : Heap} {L hp t d tx an fs fn nl pl wl q1 q2 : Addr} {ow w0 g1 g2 e1 e2 e3 e4 e5 e6 e7 e8 : Obj} {add1 add2 : List (Addr × Obj)}
    (_ : News h₀ L h ((wl, w0) :: (pl, e8) :: (q2, g2) :: (nl, e7) :: (q1, g1) :: (t, e1) :: (d, e2) :: (tx, e3) :: (an, e4) :: (fs, e5) :: (fn, e6) :: (hp, ow) :: (add1 ++ add2)))
    (l0 : ∀ p ∈ [(hp, ow)], @LT.lt Nat _ p.1 d) (o1 : @LT.lt Nat _ d t) (o2 : @LT.lt Nat _ t tx) (o3 : @LT.lt Nat _ tx an) (o4 : @LT.lt Nat _ an fs) (o5 : @LT.lt Nat _ fs fn)
    (hoff : OwnOff ([(hp, ow)] ++ add1) [t, d, tx, an, fs, fn]) (hadd1 : OwnOff add1 (List.map (fun x => x.1) [(hp, ow)]))
    (lt1 : ∀ p ∈ (t, e1) :: (d, e2) :: (tx, e3) :: (an, e4) :: (fs, e5) :: (fn, e6) :: (hp, ow) :: add1, @LT.lt Nat _ p.1 q1) (l1 : ∀ p ∈ (q1, g1) :: (t, e1) :: (d, e2) :: (tx, e3) :: (an, e4) :: (fs, e5) :: (fn, e6) :: (hp, ow) :: add1, @LT.lt Nat _ p.1 nl)
    (hadd2 : OwnOff add2 (List.map (fun x => x.1) ((nl, e7) :: (q1, g1) :: (t, e1) :: (d, e2) :: (tx, e3) :: (an, e4) :: (fs, e5) :: (fn, e6) :: (hp, ow) :: add1)))
    (lt2 : ∀ p ∈ (nl, e7) :: (q1, g1) :: (t, e1) :: (d, e2) :: (tx, e3) :: (an, e4) :: (fs, e5) :: (fn, e6) :: (hp, ow) :: add1 ++ add2, @LT.lt Nat _ p.1 q2)
    (l2 : ∀ p ∈ (q2, g2) :: (nl, e7) :: (q1, g1) :: (t, e1) :: (d, e2) :: (tx, e3) :: (an, e4) :: (fs, e5) :: (fn, e6) :: (hp, ow) :: (add1 ++ add2), @LT.lt Nat _ p.1 pl)
    (l3 : pl < wl ∧ q2 < wl ∧ nl < wl ∧ q1 < wl ∧ t < wl ∧ d < wl ∧ tx < wl ∧ an < wl ∧ fs < wl ∧ fn < wl ∧ hp < wl ∧ AllLt wl (add1 ++ add2)) :
    @LT.lt Nat _ hp d ∧ @LT.lt Nat _ fn nl ∧ @LT.lt Nat _ nl pl ∧ OwnOff ((wl, w0) :: (q2, g2) :: (q1, g1) :: (add1 ++ add2)) [hp, t, d, tx, an, fs, fn, nl, pl] := by
  have a0 : @LT.lt Nat _ hp d := l0 (hp, ow) (.head _)
  have a1 : @LT.lt Nat _ fn nl := l1 (fn, e6) (.tail _ (.tail _ (.tail _ (.tail _ (.tail _ (.tail _ (.head _)))))))
  have a2 : @LT.lt Nat _ nl pl := l2 (nl, e7) (.tail _ (.head _))
  have b1 : @LT.lt Nat _ fn q1 := lt1 (fn, e6) (.tail _ (.tail _ (.tail _ (.tail _ (.tail _ (.head _))))))
  have b2 : @LT.lt Nat _ q1 nl := l1 (q1, g1) (.head _)
  have c1 : @LT.lt Nat _ nl q2 := lt2 (nl, e7) (.head _)
  have c2 : @LT.lt Nat _ q2 pl := l2 (q2, g2) (.head _)
  have f1 : @LT.lt Nat _ pl wl := l3.1
  refine ⟨a0, a1, a2, ?_⟩
  refine off_cons (fun b hb => ?_) (off_cons (fun b hb => ?_) (off_cons (fun b hb => ?_) (off_both (fun p hp' b hb => ?_) (fun p hp' b hb => ?_))))
  · have : @LT.lt Nat _ b wl := by
      simp only [List.mem_cons, List.not_mem_nil, or_false] at hb
      rcases hb with h | h | h | h | h | h | h | h | h <;> subst h <;> omega
    exact (Nat.ne_of_lt this).symm
  · show q2 ≠ b
    simp only [List.mem_cons, List.not_mem_nil, or_false] at hb
    rcases hb with h | h | h | h | h | h | h | h | h <;> subst h <;> intro e <;> (have e' : @Eq Nat q2 _ := e) <;> omega
  · show q1 ≠ b
    simp only [List.mem_cons, List.not_mem_nil, or_false] at hb
    rcases hb with h | h | h | h | h | h | h | h | h <;> subst h <;> intro e <;> (have e' : @Eq Nat q1 _ := e) <;> omega
  · have n1 := hadd1 p hp'
    have n2 := hoff p (List.mem_append_right _ hp')
    have n3 : @LT.lt Nat _ p.1 nl := l1 p (.tail _ (.tail _ (.tail _ (.tail _ (.tail _ (.tail _ (.tail _ (.tail _ hp'))))))))
    simp only [List.mem_cons, List.not_mem_nil, or_false] at hb
    rcases hb with h | h | h | h | h | h | h | h | h
    · exact n1 b (by rw [h]; exact .head _)
    · exact n2 b (by rw [h]; simp)
    · exact n2 b (by rw [h]; simp)
    · exact n2 b (by rw [h]; simp)
    · exact n2 b (by rw [h]; simp)
    · exact n2 b (by rw [h]; simp)
    · exact n2 b (by rw [h]; simp)
    · rw [h]; exact Nat.ne_of_lt n3
    · rw [h]; exact Nat.ne_of_lt (Nat.lt_trans n3 a2)
  · have n2 := hadd2 p hp'
    have n3 : @LT.lt Nat _ p.1 pl := l2 p (.tail _ (.tail _ (.tail _ (.tail _ (.tail _ (.tail _ (.tail _ (.tail _ (.tail _ (.tail _ (List.mem_append_right _ hp')))))))))))
    simp only [List.mem_cons, List.not_mem_nil, or_false] at hb
    rcases hb with h | h | h | h | h | h | h | h | h
    · exact n2 b (by rw [h]; simp)
    · exact n2 b (by rw [h]; simp)
    · exact n2 b (by rw [h]; simp)
    · exact n2 b (by rw [h]; simp)
    · exact n2 b (by rw [h]; simp)
    · exact n2 b (by rw [h]; simp)
    · exact n2 b (by rw [h]; simp)
    · exact n2 b (by rw [h]; simp)
    · rw [h]; exact Nat.ne_of_lt n3

local macro_rules | `(tactic| k_mem) => `(tactic| first | exact List.mem_cons_self | assumption | (refine List.mem_cons_of_mem _ ?_; k_mem))
local macro_rules | `(tactic| ktr_units) => `(tactic| first | (have hcL9 := cLine_is; (simp only [units_under_make, units_in1, units_deeper, Around.mark_units, units_caller] at *); (dsimp only [ktrTop] at *); omega) | (have hcL9 := cLine_is; (simp only [units_under_make, units_in1, units_deeper, Around.mark_units, units_caller]); omega))
local macro_rules | `(tactic| walk_at "getMethod ref") => `(tactic| (k_here; k_dflt (refine' method_inst ?k1 ?k2 ?k3 ?k4 ?k5 ?k6 ?k7 ?_; (case k1 | k2 => k_asm); (case k3 => k_inst); (case k4 | k5 | k6 => k_is); (case k7 => k_get); k_whole)))
local macro_rules | `(tactic| walk_at "call ref") => `(tactic| (k_here; (with_reducible show wpAny _ _ (call (Value.ref 126) _) _ _ _); k_dflt (refine' digits_ctr ?B ?F ?X ?N ?T ?hk ?hdp ?hun ?hl ?hi ?hlen (fun hp' ws' ms' n' h' tk' hW' hL' F' N' => ?_); (case B | F | X | T | N => k_asm); (case hk => exact rfl); (case hdp => ktr_room); (case hun => ktr_units); (case hl | hi | hlen => k_asm); (try dsimp only); (try k_fold))))
local macro_rules | `(tactic| walk_at "call ref") => `(tactic| (k_here; (with_reducible show wpAny _ _ (call (Value.ref 115) _) _ _ _); k_dflt (refine' init_ctr ?B ?F ?X ?N ?T ?hk ?hdp ?hun  (fun t' d' tx' an' fs' fn' c1' c2' c3' c4' k1' k2' k3' k4' nd' nv' nu' vs' qs' oan' ofn' add' h' tk' o1' o2' o3' o4' o5' hlt' hoff' hadd' lo1' lo2' hS' hA' hF' hK' F' N' => ?_); (case B | F | X | T | N => k_asm); (case hk => exact rfl); (case hdp => ktr_room); (case hun => ktr_units); (try simp only [List.cons_append, List.nil_append] at N'); (try dsimp only); (try k_fold))))
local macro_rules | `(tactic| walk_at "call ref") => `(tactic| (k_here; (with_reducible show wpAny _ _ (call (Value.ref 21) _) _ _ _); k_dflt (refine' fixA_ctr ?B ?F ?X ?N ?T ?hk ?hdp ?hun  (fun q' vs' h' tk' hS' F' N' hlt' => ?_); (case B | F | X | T | N => k_asm); (case hk => exact rfl); (case hdp => ktr_room); (case hun => ktr_units); (try dsimp only); (try k_fold))))
local macro_rules | `(tactic| walk_at "call ref") => `(tactic| (k_here; (with_reducible show wpAny _ _ (call (Value.ref 28) _) _ _ _); k_dflt (refine' fixF_ctr ?B ?F ?X ?N ?T ?hk ?hdp ?hun  (fun q' pqs' add' h' tk' hP' hadd' F' N' hlt' => ?_); (case B | F | X | T | N => k_asm); (case hk => exact rfl); (case hdp => ktr_room); (case hun => ktr_units); (try dsimp only); (try k_fold))))
local macro_rules | `(tactic| walk_at "ite") => `(tactic| (k_here; with_reducible (first | (refine ite_neg (by decide) ?_) | (refine ite_pos (by decide) ?_))))
local macro_rules | `(tactic| walk_at "call type:list") => `(tactic| (k_here; (with_reducible show wpAny _ _ (call (Value.type _) [Value.ref _]) _ _ _); k_dflt (refine' lst_of_tup ?F ?N ?b ?e ?_; (case F | N => k_asm); (case b => k_mem); (case e => first | ((rename StrsAre _ fixA => hZ9); rw [StrsAre.length hZ9, fixA_len]; decide) | ((rename PairsAt _ _ fixF => hZ9); rw [List.length_map, hZ9.1, fixF_len]; decide))); intro D' c' h' F' N' l1; (try simp only [List.cons_append, List.nil_append] at N'); (try simp only [List.cons_append, List.nil_append] at l1); (try k_sweep)))
local macro_rules | `(tactic| walk_at "call ref") => `(tactic| (k_here; (with_reducible show wpAny _ _ (call (Value.ref 140) _) _ _ _); k_dflt (refine' agrees_ctr ?B ?F ?X ?N ?T ?hk ?hdp ?hun ?mt ?md ?m1 ?m2 ?m3 ?m4 ?m5 ?m6 ?lo1 ?lo2 ?hS ?hA ?hF ?hK ?hsub ?hnd1 ?hnd ?hS2 ?hP ?hl1 ?hl2 ?hsz (fun h' tk' F' N' => ?_); (case B | F | X | T | N => k_asm); (case hk => exact rfl); (case hdp => ktr_room); (case hun => ktr_units); (case mt | md | m1 | m2 | m3 | m4 | m5 | m6 => k_mem); (case lo1 | lo2 | hS | hA | hF => k_asm); (case hK => first | k_asm | exact KeysAt.mono (by assumption) (fun p hp => by (simp only [List.mem_cons, List.mem_append, List.cons_append, List.nil_append, List.not_mem_nil, or_false, false_or] at hp ⊢); first | (simp only [hp, true_or, or_true]; done) | (rcases hp with hp | hp <;> simp only [hp, true_or, or_true] <;> done) | (rcases hp with hp | hp | hp <;> simp only [hp, true_or, or_true] <;> done))); (case hsub | hnd1 | hnd | hS2 => k_asm); (case hP => first | k_asm | exact PairsAt.mono (by assumption) (fun p hp => by (simp only [List.mem_cons, List.mem_append, List.cons_append, List.nil_append, List.not_mem_nil, or_false, false_or] at hp ⊢); first | (simp only [hp, true_or, or_true]; done) | (rcases hp with hp | hp <;> simp only [hp, true_or, or_true] <;> done) | (rcases hp with hp | hp | hp <;> simp only [hp, true_or, or_true] <;> done))); (case hl1 | hl2 | hsz => k_asm); (try dsimp only); (try k_fold))))
local macro_rules | `(tactic| walk_at "call builtin:len") => `(tactic| (k_here; (with_reducible show wpAny _ _ (call (Value.builtin _) [Value.ref _]) _ _ _); (rename IntsAre _ _ => hI8); k_dflt (refine' lst_len ?N ?m (IntsAre.length hI8) ?lo ?_; (case N => k_asm); (case m => k_mem); (case lo => omega))))
local macro_rules | `(tactic| walk_at "exec For Name Call cons nil") => `(tactic| (k_here; (rename Fr _ _ _ _ => lF'); (with_unfolding_all refine' For_invVF lF' ?k1 ?k2 ?_; (case k1 | k2 => exact rfl); k_whole)))
local macro_rules | `(tactic| walk_at "pyIter ref") => `(tactic| ((with_reducible show wpAny _ _ (pyIter (Value.ref _)) (fun it s₂ => LoopAtV _ _ _ _ _ _ _ _ _ it s₂) _ _); refine Stop.intro ?_))
local macro_rules | `(tactic| walk_at "InvEndG") => `(tactic| (refine Stop.intro ?_))

set_option maxRecDepth 100000 in
set_option maxHeartbeats 8000000 in
theorem law_body {w : World} {mean : ExcName → Option Value} {mg mb : Str → Option Value} {base h₀ : Heap} {L l : Addr} {s : Shared} {Q : Flow → Shared → Prop} {ns : List Int} {vs : List Value}
    {fa : Addr} {cda : Value} {params : Arguments} {body : List Stmt} {scope : Scope} {dV kV doc pm cdv ct oc : Value} {an od : Option Addr} {osl : Array (Option Value)}
    (hbody : (hd.heap_39 w.params).lookup 147 = some ⟨oc, od, .func (fnOf (Str.ofString "law") (Str.ofString "law") params body scope dV kV doc pm an cdv ct), osl⟩)
    (B : Below callerA base [] h₀) (F : Fr h₀ L s.heap (fun y => if y = Str.ofString "script" then some (.ref l) else none)) (X : (hd.heap_39 w.params).In h₀) (N : News h₀ L s.heap [])
    (T : Top hd.view_39 (looseW hd.view_39 []) mean mg mb h₀) (hl : h₀.IsList l vs.toArray) (hi : IntsAre vs ns) (hlen : ns.length ≤ 63)
    (hret : ∀ (h' : Heap) (tk' : Nat) (m' : Str → Option Value), Fr h₀ L h' m' → Q (.ret (.bool true)) { s with heap := h', toks := tk' }) :
    wpAny (model Challenge.rw_ok0005_01.row.prog w) (callerA.deeper (envOf (Str.ofString "law") scope L fa cda)) (execs body (envOf (Str.ofString "law") scope L fa cda)) Q (fun _ _ => False) s := by
  have e : (hd.heap_39 w.params).lookup 147 = some ⟨_, _, .func _, _⟩ := rfl
  rw [e] at hbody
  clear e
  cases hbody
  have z1 := fixA_nodup
  have z2 := fixF_nodup
  have z3 := fixF_sub
  have z4 := fixF_small
  have z5 : fixA.length ≤ 1000 := by rw [fixA_len]; decide
  have z6 : fixF.length ≤ 1000 := by rw [fixF_len]; decide
  revert X; k_fill; intro X
  try k_fold
  k_steps
  (rename News h₀ L _ _ => N9); (rename Fr h₀ L _ _ => F9); (rename IsRange _ _ _ _ _ _ _ _ => r9); (rename KeysAt _ _ _ => K9); (rename PairsAt _ _ _ => P9)
  have S9 := start N9 (by assumption) (by assumption) (by assumption) (by assumption) (by assumption) (by assumption) (by assumption) (by assumption) (by assumption) (by assumption) (by assumption) (by assumption) (by assumption) (by assumption)
  obtain ⟨oh, o6, o7, hR9⟩ := S9
  refine main_loop (hbody := rfl) (hfor := rfl) B F9 X (news_start N9) T oh (by assumption) (by assumption) (by assumption) (by assumption) (by assumption) o6 o7 hR9 r9 rfl (.head _) ?hW (fun p hp => hp) (by assumption) (by assumption) (by assumption) (by assumption)
    ⟨by assumption, by assumption, by assumption, K9.drop_list.mono fun p hp => .tail _ (.tail _ (.tail _ (List.mem_append_left _ hp))), z3, z1, z2, by assumption, P9.mono fun p hp => .tail _ (.tail _ (.tail _ (List.mem_append_right _ hp))), z4⟩ (by rw [fixA_len]; decide) (by rw [fixF_len]; decide)
    (fun ws2 ms2 n12 vs2 nv2 oan2 qs2 nu2 ofn2 nvs2 nn12 pqs2 nn22 ns2 ps2 add2 h2 tk2 u2 I2 hn2 hp2 F2 N2 => ?_)
  case hW => exact .cons _ _ (.cons _ _ (.cons _ _ (.cons _ _ (.cons _ _ (.cons _ _ (.cons _ _ (.cons _ _ (.cons _ _ .nil))))))))
  dsimp only
  exact law_end (hbody := rfl) (hfor := rfl) (hst := rfl) B F2 X N2 T (fun p hp => hp) (by assumption) (by assumption) I2 hn2 hp2 (fun h tk m F => hret _ _ _ F)
end Mine


end
section
open PySem PySem.W PyProof.Rows PySem.Spec PySem.Calls
namespace Mine
theorem Fr.one {h₀ h : Heap} {L : Addr} {n : Str} {v : Value} (F : Fr h₀ L h (fun x => List.lookup x [(n, v)].reverse)) : Fr h₀ L h (fun y => if y = n then some v else none) := by
  have e : (fun x => List.lookup x [(n, v)].reverse) = fun y => if y = n then some v else none := by
    funext y
    by_cases h : y = n
    · subst h; simp [List.lookup]
    · have h2 : (y == n) = false := by simpa using h
      simp [List.lookup, h, h2]
  rw [e] at F
  exact F
set_option maxRecDepth 100000 in
set_option maxHeartbeats 8000000 in
theorem main : PySem.Challenge.rw_ok0005_01.Holds := hd (by
  k_go0
  (rename ¬ _ => hc9)
  (rename IntsAre _ _ => hI9)
  have hn63 : _ ≤ 63 := Nat.le_of_not_lt (fun h => hc9 (Int.ofNat_lt.mpr h))
  (rename Below _ _ _ _ => B9); (rename Fr _ _ _ _ => F9); (rename News _ _ _ _ => N9); (rename Top _ _ _ _ _ _ => T9); (rename Heap.IsList _ _ _ => L9)
  have F8 := Fr.one F9
  refine wpAny_mono (law_body (hbody := rfl) B9 F8 (by assumption) N9 T9 L9 hI9 hn63 (fun h' tk' m' F' => ?_)) (fun _ _ h => h) (fun _ _ h => False.elim h)
  dsimp only
  k_steps)
end Mine

end
set_option maxRecDepth 100000 in
set_option maxHeartbeats 8000000 in
theorem PySem.Challenge.cw_ok0005_01_holds : PySem.Challenge.rw_ok0005_01.Holds := by
  exact Mine.main

