import PyProof.Rows.All
import Wide.All
import OpenK.AllK
import Wide.FinOn
import HandS.ForMost
import HandS.Defaults
import HandS.HeadHook2
import PySem.Challenge.RW_kindtwice_k12_whole_trees_judged
import HandS.OwnEq
import PyProof.InstEq
import HandS.Codes
import KE.KDictPairs
import KE.KEqDict
import PyProof.Rows.RuleB_pow
import KE.SortData
import HandS.Conv
import HandS.WideBits
import HandS.Style
import HandS.IsInst
import HandS.TupLen
import HandS.DictComp
import HandS.More
import HandS.NoneIn
import HandS.Text
import HandS.Deep
import HandS.Walk
import KE.KDictItemsList
import HandS.DictTup
import PyProof.ListStr
import HandS.WordsDict
import HandS.Iter
import HandS.Zip
import HandS.Head0
import HandS.Head1
import HandS.Head2
import HandS.HeadEnd
set_option Elab.async false
set_option linter.all false
set_option maxRecDepth 100000
/-! The text by places: each def of the top, and how it stands behind the top. -/
namespace K12
open PySem PySem.Spec PyProof.Rows L2
def top (i : Nat) : Stmt := PySem.Challenge.pw_kindtwice_k12_whole_trees_judged.main.body.getD i (.Pass ⟨0, 0, 0, 0⟩)
abbrev FnP (K : PySem.W.Frag) (x q : Str) (st : Stmt) (f : Addr) (fd : FuncData) : Prop := FunD K x q (defArgs st) (defBody st) (defScope st) [] [] f fd
abbrev s_is_word : Stmt := top 11
abbrev s_is_pair_of_words : Stmt := top 13
abbrev s_is_table : Stmt := top 14
abbrev s_Kinds_init_ : Stmt := inClass (top 15) 0
abbrev s_Kinds_eq_ : Stmt := inClass (top 15) 4
abbrev s_check_kinds : Stmt := top 16
abbrev s_is_kind_of : Stmt := top 17
abbrev s_together : Stmt := top 18
abbrev s_squares_of : Stmt := top 19
abbrev s_turned_kinds : Stmt := top 20
abbrev s_are_deeds : Stmt := top 22
abbrev s_are_twice : Stmt := top 23
abbrev s_Setting_init_ : Stmt := inClass (top 24) 0
abbrev s_Setting_eq_ : Stmt := inClass (top 24) 4
abbrev s_check_setting : Stmt := top 25
abbrev s_row_of : Stmt := top 26
abbrev s_kind_in : Stmt := top 27
abbrev s_opposite_setting : Stmt := top 28
abbrev s_log_in : Stmt := top 30
abbrev s_run_log : Stmt := top 31
abbrev s_is_tree : Stmt := top 32
abbrev s_check_tree : Stmt := top 33
abbrev s_parts_of : Stmt := top 34
abbrev s_height_in : Stmt := top 35
abbrev s_log_of : Stmt := top 36
abbrev s_kind_by : Stmt := top 37
abbrev s_height_of : Stmt := top 38
abbrev s_size_of : Stmt := top 39
abbrev s_knots_in : Stmt := top 40
abbrev s_knots_of : Stmt := top 41
abbrev s_turned : Stmt := top 42
abbrev s_opposite_tree : Stmt := top 43
abbrev s_law_purse : Stmt := top 45
abbrev s_law_mixed : Stmt := top 46
abbrev s_law_draw : Stmt := top 47
abbrev s_law_purses : Stmt := top 48
abbrev s_law_one_of : Stmt := top 49
abbrev s_law_same : Stmt := top 50
abbrev s_law_exact : Stmt := top 51
abbrev s_law_word : Stmt := top 52
abbrev s_law_words : Stmt := top 53
abbrev s_law_plain_table : Stmt := top 54
abbrev s_law_wide_table : Stmt := top 55
abbrev s_law_twofold_table : Stmt := top 56
abbrev s_law_table : Stmt := top 57
abbrev s_law_kinds_of : Stmt := top 58
abbrev s_law_squares : Stmt := top 59
abbrev s_law_setting : Stmt := top 60
abbrev s_law_log : Stmt := top 61
abbrev s_law_kind : Stmt := top 62
abbrev s_law_made_kinds : Stmt := top 63
abbrev s_law_made : Stmt := top 64
abbrev s_law_tree_log : Stmt := top 65
abbrev s_law_tree_parts : Stmt := top 66
abbrev s_law_tree_height : Stmt := top 67
abbrev s_law_drawn_tree : Stmt := top 68
abbrev s_law_tree_knots : Stmt := top 69
abbrev s_law_twin_table : Stmt := top 70
abbrev s_law_leading_table : Stmt := top 71
abbrev s_law_cyclic_table : Stmt := top 72
abbrev s_law_any_table : Stmt := top 73
abbrev s_law_bent : Stmt := top 74
abbrev s_law_turned : Stmt := top 75
abbrev s_law_tree_right : Stmt := top 76
abbrev s_law : Stmt := top 77
end K12

set_option maxHeartbeats 4000000
/-! What every def's proof leans on: heaps that grow, the purse, data and trees as they stand in a heap. -/
namespace K12
open PySem PySem.Spec PyProof.Rows L2

/-! ### heaps that grow -/
theorem same_new {H : Hp} {q : Addr} {o : HO} (n : H q = none) : Same H (upd H q o) := fun b u e => by
  rw [upd_ne (ne_of_none e n)]; exact e
/-- a new object, told without its address's update -/
theorem new_ {H : Hp} {Q : VK} {o : HO} (h : ∀ (q : Addr) (H' : Hp), Same H H' → H q = none → H' q = some o → Q (.ref q) H') : ∀ q, H q = none → Q (.ref q) (upd H q o) :=
  fun q n => h q _ (same_new n) n upd_same
theorem new_of {H H' : Hp} {q : Addr} {o : HO} (n : H q = none) (h : upd H q o = H') : Same H H' ∧ H' q = some o := by
  subst h
  exact ⟨same_new n, upd_same⟩
theorem _root_.L2.Same.upd0 {H H' : Hp} {q : Addr} {o : HO} (s : Same H H') (n : H q = none) : Same H (upd H' q o) := fun b u e => by
  rw [upd_ne (ne_of_none e n)]; exact s b u e
theorem _root_.L2.Same.no {H H' : Hp} (s : Same H H') {q : Addr} (n : H' q = none) : H q = none := s.free n
/-- the purse at p: four ints, the third at most n -/
def Pu (p : Addr) (n : Nat) (H : Hp) : Prop := ∃ a b c : Int, H p = some (.lst [.int a, .int b, .int c, .int 0]) ∧ 0 ≤ a ∧ 0 ≤ b ∧ b < 2147483629 ∧ 0 ≤ c ∧ c ≤ n
theorem Pu.mono {p : Addr} {n m : Nat} {H : Hp} (h : Pu p n H) (l : n ≤ m) : Pu p m H := by
  obtain ⟨a, b, c, e, h1, h2, h3, h4, h5⟩ := h
  exact ⟨a, b, c, e, h1, h2, h3, h4, by omega⟩
/-- all but the purse is kept, and at most c were drawn -/
structure Ext (p : Addr) (c : Nat) (H H' : Hp) : Prop where
  keep : ∀ b o, b ≠ p → H b = some o → H' b = some o
  pu : ∀ n, Pu p n H → Pu p (n + c) H'
theorem Ext.of {p : Addr} {H H' : Hp} (s : Same H H') : Ext p 0 H H' := ⟨fun b o _ e => s b o e, fun n h => by
  obtain ⟨a, b, c, e, r⟩ := h
  exact ⟨a, b, c, s _ _ e, r⟩⟩
theorem Ext.refl (p : Addr) (H : Hp) : Ext p 0 H H := .of (Same.refl H)
theorem Ext.trans {p : Addr} {c d : Nat} {H H1 H2 : Hp} (a : Ext p c H H1) (b : Ext p d H1 H2) : Ext p (c + d) H H2 :=
  ⟨fun x o n e => b.keep x o n (a.keep x o n e), fun n h => by rw [← Nat.add_assoc]; exact b.pu _ (a.pu _ h)⟩
theorem Ext.mono {p : Addr} {c d : Nat} {H H1 : Hp} (a : Ext p c H H1) (l : c ≤ d) : Ext p d H H1 := ⟨a.keep, fun n h => (a.pu n h).mono (by omega)⟩
theorem Ext.same {p : Addr} {c : Nat} {H H1 H2 : Hp} (a : Ext p c H H1) (s : Same H1 H2) : Ext p c H H2 := (a.trans (.of s)).mono (Nat.le_refl _)
theorem Ext.pre {p : Addr} {c : Nat} {H H1 H2 : Hp} (s : Same H H1) (a : Ext p c H1 H2) : Ext p c H H2 := ((Ext.of s).trans a).mono (by omega)
theorem Pu.ne {p q : Addr} {n : Nat} {H : Hp} (h : Pu p n H) (e : H q = none) : q ≠ p := by
  obtain ⟨a, b, c, e1, _⟩ := h
  exact (ne_of_none e1 e).symm
theorem Pu.here {p : Addr} {n : Nat} {H : Hp} (h : Pu p n H) : ∃ o, H p = some o := by
  obtain ⟨a, b, c, e1, _⟩ := h
  exact ⟨_, e1⟩
/-- an object that was not there at the start is written -/
theorem Ext.upd0 {p : Addr} {c : Nat} {H H' : Hp} {q : Addr} {o : HO} (x : Ext p c H H') (n : H q = none) : Ext p c H (upd H' q o) :=
  ⟨fun b u nb e => by rw [upd_ne (ne_of_none e n)]; exact x.keep b u nb e, fun m h => by
    obtain ⟨a, b, c', e, r⟩ := x.pu m h
    exact ⟨a, b, c', by rw [upd_ne (h.ne n).symm]; exact e, r⟩⟩
theorem Ext.no {p : Addr} {c n : Nat} {H H' : Hp} (x : Ext p c H H') (u : Pu p n H) {q : Addr} (e : H' q = none) : H q = none := by
  cases h : H q with
  | none => rfl
  | some o =>
    have := x.keep q o ((x.pu n u).ne e) h
    rw [this] at e
    cases e
/-- a lock is put on, something runs, the lock goes -/
theorem _root_.L2.Same.unlock {H H' : Hp} {d : Addr} {u f : HO} (e : H d = some u) (s : Same (upd H d f) H') : Same H (upd H' d u) := fun b o q => by
  by_cases hb : b = d
  · subst hb; rw [e] at q; cases q; exact upd_same
  · rw [upd_ne hb]; exact s b o (by rw [upd_ne hb]; exact q)
theorem Ext.unlock {p : Addr} {c : Nat} {H H' : Hp} {d : Addr} {u f : HO} (nd : d ≠ p) (e : H d = some u) (s : Ext p c (upd H d f) H') : Ext p c H (upd H' d u) :=
  ⟨fun b o nb q => by
    by_cases hb : b = d
    · subst hb; rw [e] at q; cases q; exact upd_same
    · rw [upd_ne hb]; exact s.keep b o nb (by rw [upd_ne hb]; exact q),
  fun n h => by
    obtain ⟨a, b, x, e1, r⟩ := h
    obtain ⟨a, b, x, e1, r⟩ := s.pu n ⟨a, b, x, by rw [upd_ne nd.symm]; exact e1, r⟩
    exact ⟨a, b, x, by rw [upd_ne nd.symm]; exact e1, r⟩⟩

/-! ### data -/
inductive Dt where
  | s (x : Str) | i (n : Int) | b (c : Bool) | l (xs : List Dt) | t (xs : List Dt)
mutual
def At (p : Addr) (H : Hp) : V → Dt → Prop
  | v, .s x => v = .str x
  | v, .i n => v = .int n
  | v, .b c => v = .bl c
  | v, .l ds => ∃ a vs, v = .ref a ∧ a ≠ p ∧ H a = some (.lst vs) ∧ AtL p H vs ds
  | v, .t ds => ∃ a vs, v = .ref a ∧ a ≠ p ∧ H a = some (.tup vs) ∧ AtL p H vs ds
def AtL (p : Addr) (H : Hp) : List V → List Dt → Prop
  | [], [] => True
  | v :: vs, d :: ds => At p H v d ∧ AtL p H vs ds
  | _, _ => False
end
mutual
theorem At.keep {p : Addr} {H H' : Hp} (k : ∀ b o, b ≠ p → H b = some o → H' b = some o) : ∀ {v : V} {d : Dt}, At p H v d → At p H' v d
  | v, .s x, h => by unfold At at h ⊢; exact h
  | v, .i n, h => by unfold At at h ⊢; exact h
  | v, .b c, h => by unfold At at h ⊢; exact h
  | v, .l ds, h => by
    unfold At at h ⊢
    obtain ⟨a, vs, e, n, q, r⟩ := h
    exact ⟨a, vs, e, n, k _ _ n q, AtL.keep k r⟩
  | v, .t ds, h => by
    unfold At at h ⊢
    obtain ⟨a, vs, e, n, q, r⟩ := h
    exact ⟨a, vs, e, n, k _ _ n q, AtL.keep k r⟩
theorem AtL.keep {p : Addr} {H H' : Hp} (k : ∀ b o, b ≠ p → H b = some o → H' b = some o) : ∀ {vs : List V} {ds : List Dt}, AtL p H vs ds → AtL p H' vs ds
  | [], [], h => by unfold AtL; trivial
  | v :: vs, d :: ds, h => by
    unfold AtL at h ⊢
    exact ⟨At.keep k h.1, AtL.keep k h.2⟩
  | [], _ :: _, h => by unfold AtL at h; exact h.elim
  | _ :: _, [], h => by unfold AtL at h; exact h.elim
end
theorem At.up {p : Addr} {c : Nat} {H H' : Hp} {v : V} {d : Dt} (h : At p H v d) (x : Ext p c H H') : At p H' v d := h.keep x.keep
theorem AtL.up {p : Addr} {c : Nat} {H H' : Hp} {v : List V} {d : List Dt} (h : AtL p H v d) (x : Ext p c H H') : AtL p H' v d := h.keep x.keep
theorem At.sm {p : Addr} {H H' : Hp} {v : V} {d : Dt} (h : At p H v d) (x : Same H H') : At p H' v d := h.keep fun b o _ e => x b o e
theorem AtL.sm {p : Addr} {H H' : Hp} {v : List V} {d : List Dt} (h : AtL p H v d) (x : Same H H') : AtL p H' v d := h.keep fun b o _ e => x b o e
theorem AtL.len {p : Addr} {H : Hp} : ∀ {vs : List V} {ds : List Dt}, AtL p H vs ds → vs.length = ds.length
  | [], [], _ => rfl
  | v :: vs, d :: ds, h => by
    unfold AtL at h
    rw [List.length_cons, List.length_cons, h.2.len]
  | [], _ :: _, h => by unfold AtL at h; exact h.elim
  | _ :: _, [], h => by unfold AtL at h; exact h.elim
theorem AtL.get {p : Addr} {H : Hp} : ∀ {vs : List V} {ds : List Dt} {j : Nat} {d : Dt}, AtL p H vs ds → ds[j]? = some d → ∃ v, vs[j]? = some v ∧ At p H v d
  | [], [], _, _, _, e => by simp at e
  | v :: vs, d :: ds, 0, d', h, e => by
    unfold AtL at h
    have : d = d' := by simpa using e
    subst this
    exact ⟨v, rfl, h.1⟩
  | v :: vs, d :: ds, j + 1, d', h, e => by
    unfold AtL at h
    obtain ⟨u, h1, h2⟩ := h.2.get (j := j) (by simpa using e)
    exact ⟨u, by simpa using h1, h2⟩
  | [], _ :: _, _, _, h, _ => by unfold AtL at h; exact h.elim
  | _ :: _, [], _, _, h, _ => by unfold AtL at h; exact h.elim
theorem AtL.getV {p : Addr} {H : Hp} {vs : List V} {ds : List Dt} {j : Nat} {v : V} (h : AtL p H vs ds) (e : vs[j]? = some v) : ∃ d, ds[j]? = some d ∧ At p H v d := by
  have hl := h.len
  have hj : j < ds.length := by rw [← hl]; exact (List.getElem?_eq_some_iff.mp e).1
  obtain ⟨u, h1, h2⟩ := h.get (List.getElem?_eq_getElem hj)
  rw [e] at h1
  cases h1
  exact ⟨ds[j], List.getElem?_eq_getElem hj, h2⟩
theorem AtL.app {p : Addr} {H : Hp} : ∀ {vs ws : List V} {ds es : List Dt}, AtL p H vs ds → AtL p H ws es → AtL p H (vs ++ ws) (ds ++ es)
  | [], _, [], _, _, h => h
  | v :: vs, ws, d :: ds, es, h, g => by
    unfold AtL at h
    show AtL p H (v :: (vs ++ ws)) (d :: (ds ++ es))
    unfold AtL
    exact ⟨h.1, h.2.app g⟩
  | [], _, _ :: _, _, h, _ => by unfold AtL at h; exact h.elim
  | _ :: _, _, [], _, h, _ => by unfold AtL at h; exact h.elim
theorem AtL.snoc {p : Addr} {H : Hp} {vs : List V} {ds : List Dt} {v : V} {d : Dt} (h : AtL p H vs ds) (g : At p H v d) : AtL p H (vs ++ [v]) (ds ++ [d]) :=
  h.app (by unfold AtL; exact ⟨g, by unfold AtL; trivial⟩)
theorem AtL.nil {p : Addr} {H : Hp} : AtL p H [] [] := by unfold AtL; trivial
theorem AtL.cons {p : Addr} {H : Hp} {vs : List V} {ds : List Dt} {v : V} {d : Dt} (g : At p H v d) (h : AtL p H vs ds) : AtL p H (v :: vs) (d :: ds) := by unfold AtL; exact ⟨g, h⟩
theorem AtL.strs {p : Addr} {H : Hp} : ∀ xs : List Str, AtL p H (xs.map V.str) (xs.map Dt.s)
  | [] => .nil
  | x :: xs => .cons (by unfold At; rfl) (AtL.strs xs)
theorem At.s {p : Addr} {H : Hp} {x : Str} : At p H (.str x) (.s x) := by unfold At; rfl
theorem At.i {p : Addr} {H : Hp} {x : Int} : At p H (.int x) (.i x) := by unfold At; rfl
theorem At.b {p : Addr} {H : Hp} {x : Bool} : At p H (.bl x) (.b x) := by unfold At; rfl
theorem At.l {p a : Addr} {H : Hp} {vs : List V} {ds : List Dt} (n : a ≠ p) (e : H a = some (.lst vs)) (h : AtL p H vs ds) : At p H (.ref a) (.l ds) := by
  unfold At; exact ⟨a, vs, rfl, n, e, h⟩
theorem At.t {p a : Addr} {H : Hp} {vs : List V} {ds : List Dt} (n : a ≠ p) (e : H a = some (.tup vs)) (h : AtL p H vs ds) : At p H (.ref a) (.t ds) := by
  unfold At; exact ⟨a, vs, rfl, n, e, h⟩
theorem At.s_inv {p : Addr} {H : Hp} {v : V} {x : Str} (h : At p H v (.s x)) : v = .str x := by unfold At at h; exact h
theorem At.l_inv {p : Addr} {H : Hp} {v : V} {ds : List Dt} (h : At p H v (.l ds)) : ∃ a vs, v = .ref a ∧ a ≠ p ∧ H a = some (.lst vs) ∧ AtL p H vs ds := by unfold At at h; exact h
theorem At.t_inv {p : Addr} {H : Hp} {v : V} {ds : List Dt} (h : At p H v (.t ds)) : ∃ a vs, v = .ref a ∧ a ≠ p ∧ H a = some (.tup vs) ∧ AtL p H vs ds := by unfold At at h; exact h
theorem AtL.nil_inv {p : Addr} {H : Hp} {vs : List V} (h : AtL p H vs []) : vs = [] := by
  cases vs with
  | nil => rfl
  | cons v vs => unfold AtL at h; exact h.elim
theorem AtL.cons_inv {p : Addr} {H : Hp} {vs : List V} {d : Dt} {ds : List Dt} (h : AtL p H vs (d :: ds)) : ∃ v ws, vs = v :: ws ∧ At p H v d ∧ AtL p H ws ds := by
  cases vs with
  | nil => unfold AtL at h; exact h.elim
  | cons v vs => unfold AtL at h; exact ⟨v, vs, rfl, h.1, h.2⟩
mutual
/-- how deep -/
def Dt.dep : Dt → Nat
  | .s _ => 0
  | .i _ => 0
  | .b _ => 0
  | .l ds => depL ds + 1
  | .t ds => depL ds + 1
def depL : List Dt → Nat
  | [] => 0
  | d :: ds => max d.dep (depL ds)
end
theorem depL_get : ∀ {ds : List Dt} {j : Nat} {d : Dt}, ds[j]? = some d → d.dep ≤ depL ds
  | [], _, _, e => by simp at e
  | d :: ds, 0, d', e => by
    have : d = d' := by simpa using e
    subst this
    unfold depL
    exact Nat.le_max_left _ _
  | d :: ds, j + 1, d', e => by
    have := depL_get (ds := ds) (j := j) (by simpa using e)
    unfold depL
    exact Nat.le_trans this (Nat.le_max_right _ _)

/-! ### trees -/
inductive T where
  | lf (x : Str) | pr (a b : T) | rn (k : Str) (ps : List T)
mutual
def T.dt : T → Dt
  | .lf x => .s x
  | .pr a b => .t [.s "pair", a.dt, b.dt]
  | .rn k ps => .t [.s "run", .s k, .l (dtL ps)]
def dtL : List T → List Dt
  | [] => []
  | t :: ts => t.dt :: dtL ts
end
theorem dtL_map : ∀ ts : List T, dtL ts = ts.map T.dt
  | [] => by unfold dtL; rfl
  | t :: ts => by unfold dtL; rw [dtL_map ts]; rfl
theorem dtL_len (ts : List T) : (dtL ts).length = ts.length := by rw [dtL_map, List.length_map]
mutual
/-- its depth, as a tree -/
def T.dp : T → Nat
  | .lf _ => 0
  | .pr a b => max a.dp b.dp + 1
  | .rn _ ps => dpL ps + 1
def dpL : List T → Nat
  | [] => 0
  | t :: ts => max t.dp (dpL ts)
end
theorem dpL_mem : ∀ {ts : List T} {t : T}, t ∈ ts → t.dp ≤ dpL ts
  | t' :: ts, t, h => by
    unfold dpL
    rcases List.mem_cons.mp h with e | h
    · subst e; exact Nat.le_max_left _ _
    · exact Nat.le_trans (dpL_mem h) (Nat.le_max_right _ _)
theorem dpL_le : ∀ {ts : List T} {n : Nat}, (∀ t ∈ ts, t.dp ≤ n) → dpL ts ≤ n
  | [], n, _ => by unfold dpL; exact Nat.zero_le _
  | t :: ts, n, h => by
    unfold dpL
    exact Nat.max_le.mpr ⟨h t List.mem_cons_self, dpL_le fun u hu => h u (List.mem_cons_of_mem _ hu)⟩
mutual
theorem T.dep_le : ∀ t : T, t.dt.dep ≤ 2 * t.dp
  | .lf x => by unfold T.dt Dt.dep; exact Nat.zero_le _
  | .pr a b => by
    have h1 := T.dep_le a
    have h2 := T.dep_le b
    unfold T.dt Dt.dep T.dp
    simp only [depL, Dt.dep]
    omega
  | .rn k ps => by
    have h1 := dep_leL ps
    unfold T.dt Dt.dep T.dp
    simp only [depL, Dt.dep]
    omega
theorem dep_leL : ∀ ts : List T, depL (dtL ts) ≤ 2 * dpL ts
  | [] => by unfold dtL depL; exact Nat.zero_le _
  | t :: ts => by
    have h1 := T.dep_le t
    have h2 := dep_leL ts
    unfold dtL depL dpL
    omega
end
end K12

set_option maxHeartbeats 4000000
/-! x != y of two instances with the text's own ==. -/
namespace K12
open PySem PySem.Spec L2
/-- what the class must have besides: object's own !=, and it is an object -/
structure HasNe (K : PySem.W.Frag) (C : Addr) : Prop where
  ne : PySem.W.findIn K (.ref C) "__ne__" = some (some (.builtin "object.__ne__"))
  ob : PySem.W.subIn K (.ref C) (.type "object") = some true
section
variable {prog : Program} {w : World} {A : Around} {E : Value → Shared → Prop} {s : Shared} {K : PySem.W.Frag} {x C f : Addr} {ox : Obj} {od : Option Obj} {b : Value}
theorem special_builtin {name : Str} {id T : String} {args : List Value} {Q : Option Value → Shared → Prop} (KX : K.In s.heap) (I : PySem.W.InstAt s.heap x ox C od) (hs : PySem.W.findIn K (.ref C) name = some (some (.builtin id))) (S : Slot T name id)
    (go : wpAny (model prog w) A (call (.builtin id) (.ref x :: args)) (fun v => Q (some v)) E s) : wpAny (model prog w) A (callSpecialIfBound? (.ref x) name args) Q E s := by
  simp only [callSpecialIfBound?, bindSpecialIfBound?]
  refine wpAny_holding (wpAny_bind (wpAny_bind (wpAny_bind (I.type.here ((PySem.W.looks_findIn KX hs).here ?_)))))
  simp only [S.bind]
  refine wpAny_bind (wpAny_askSetting (wpAny_ite ?_))
  have last : wpAny (model prog w) A (call (.builtin id) ([.ref x] ++ args) >>= fun v => pure (some v)) Q E s := wpAny_bind (wpAny_mono go (fun v s' q => wpAny_pure q) fun _ _ q => q)
  split
  · exact wpAny_bind (wpAny_pure (wpAny_pure last))
  · exact wpAny_tryCatch (wpAny_bind (wpAny_pure (wpAny_pure last)))
theorem ne_run {Q : Value → Shared → Prop} (hu : A.units + 2 < cLine) (KX : K.In s.heap) (I : PySem.W.InstAt s.heap x ox C od) (hb : PySem.W.Looks (model prog w) s.heap (typeOf b) (.ref C)) (N : HasNe K C)
    (he : PySem.W.findIn K (.ref C) "__eq__" = some (some (.ref f))) (hf : PySem.W.isFn K (.ref f) = true)
    (go : wpAny (model prog w) A.in1 (call (.ref f) [.ref x, b]) (fun v s' => v = .bool true ∧ Q (.bool false) s') E s) : wpAny (model prog w) A (richCompare .NotEq (.ref x) b) Q E s := by
  have body : wpAny (model prog w) A.in1 (Builtin.«object.__ne__» ⟨[.ref x, b], []⟩) (GQ.FinOf prog w A (wants (fun v s' => v = .bool false ∧ Q (.bool false) s') E)) (fun e s' => wants (fun v s' => v = .bool false ∧ Q (.bool false) s') E (.error e) s') s := by
    unfold Builtin.«object.__ne__»
    refine wpAny_bind (wpAny_pure ?_)
    dsimp only
    refine wpAny_bind (wpAny_cRoomFor (show A.units + 1 < cLine by omega) ?_)
    refine wpAny_bind (PySem.W.ifBound_K KX I he hf (wpAny_mono go (fun v s' q => ?_) fun _ _ q => q))
    obtain ⟨rfl, q⟩ := q
    refine wpAny_bind (wpAny_truthy_bool ?_)
    exact wpAny_pure ⟨rfl, q⟩
  have one : wpAny (model prog w) A (tryCompare (.ref x) "__ne__" b) (fun r s' => ∃ v, r = some v ∧ Q v s') E s := by
    unfold tryCompare
    refine wpAny_bind (special_builtin KX I N.ne PySem.F.cmp_object.ne ?_)
    refine wpAny_mono (Q := fun v s' => v = .bool false ∧ Q (.bool false) s') (wpAny_call (codeAny_call_builtin PySem.F.cmp_object.ne.plain PySem.F.cmpEntry_ne ?_)) (fun v s' q => ?_) fun _ _ q => q
    · simp only [checkBuiltinCall, PySem.F.cmpKind_ne, PySem.F.cmpSplit_ne]
      refine wpAny_bind ?_
      unfold isInstance
      refine wpAny_bind (I.type.here ((PySem.W.looks_subIn KX N.ob).here ?_))
      simp only [Bool.not_true, Bool.false_eq_true, if_false]
      have ha := PySem.F.cmpArgs_ne (.ref x) b
      cases hsig : Manifest.signature? "object.__ne__" with
      | none => exact wpAny_pure body
      | some sig =>
        simp only [argsOk, hsig] at ha
        have h2 : Bind.checkArgs "object.__ne__" sig ⟨[.ref x, b], []⟩ = pure () := ha
        first
          | (rw [h2]; exact wpAny_pure body)
          | (show wpAny _ _ (Bind.checkArgs "object.__ne__" sig ⟨[.ref x, b], []⟩) _ _ _; rw [h2]; exact wpAny_pure body)
    · obtain ⟨rfl, q⟩ := q
      exact wpAny_pure ⟨_, rfl, q⟩
  unfold richCompare
  simp only [oneThing_ref]
  refine wpAny_holding (wpAny_bind (wpAny_cRoomFor (by omega) ?_))
  refine wpAny_bind (I.type.here (wpAny_bind (hb.here ?_)))
  rw [if_neg (by simp)]
  refine wpAny_bind (wpAny_pure ?_)
  simp only [Bool.false_eq_true, if_false]
  refine wpAny_bind (wpAny_mono one (fun r s' z => ?_) fun _ _ e => e)
  obtain ⟨v, rfl, q⟩ := z
  exact wpAny_pure q
end
section
variable {X : Cx}
/-- x != y, the two equal by the own == : False -/
def rNeG (D : Eqv) : R2 := fun x y H Q => D x y H ∧ ∀ H', L2.Ext H H' → Q (.bl false) H'
theorem op_neIns {CX : CXT} {C f : Addr} {fd : FuncData} {ps : List Str} {R : Addr → Addr → Hp → Prop} {E : XK} {n : Nat} (F : FnOk X.prog X.w X.K X.mg X.base CX n f fd ps (spEq R)) (N : HasNe X.K C)
    (hs : PySem.W.findIn X.K (.ref C) "__eq__" = some (some (.ref f))) (hf : PySem.W.isFn X.K (.ref f) = true) (hb : Binds X.K fd ps []) (hx : Passes CX X E) (hr : Room (n + 1) X.A) : OpR X (compareOp .NotEq) (rNeG (DIns C R)) := by
  intro pins s σ H x y v u Q I rx ry hyp
  obtain ⟨⟨a, b, dx, dy, fs, gs, rfl, rfl, ha, hb', hR⟩, q⟩ := hyp
  cases (show v = Value.ref a from rx)
  cases (show u = Value.ref b from ry)
  obtain ⟨mA, J, _⟩ := ins_get I.hok ha
  obtain ⟨mB, J', _⟩ := ins_get I.hok hb'
  obtain ⟨od, J, _⟩ := J.look
  obtain ⟨od', J', _⟩ := J'.look
  show wpAny (model X.prog X.w) X.A (richCompare .NotEq (.ref a) (.ref b)) (EP X pins σ Q) X.xe s
  have hun := hr.units
  refine ne_run (by omega) I.kIn J J'.type N hs hf ?_
  have hsp : spEq R [.ref a, .ref b] H (fun v H' => v = .bl true ∧ L2.Ext H H') E := ⟨a, b, rfl, hR, fun H' e => ⟨rfl, e⟩⟩
  have e0 : Env0 X.prog X.w X.K X.mg X.base X.A.in1 X.stack s H := I.env0.in1
  have hl := F.len _ _ _ _ hsp
  have r2 : Vals [V.ref a, V.ref b] [Value.ref a, Value.ref b] := .cons rfl (.cons rfl .nil)
  refine wpAny_call (codeAny_mono (F.run X.A.in1 X.stack s H ⟨[.ref a, .ref b], []⟩ [.ref a, .ref b] [.ref a, .ref b] _ E hr.in1 e0 (by
    have := hb s [.ref a, .ref b] I.kIn (by simpa using hl)
    simpa using this) r2 hsp) fun r s' hq => ?_)
  cases r with
  | error e => exact hx pins σ H s e s' I hq
  | ok fl =>
    cases fl with
    | ret w =>
      obtain ⟨z, H', I', rz, ez, ex⟩ := I.after hq
      subst ez
      cases (show w = Value.bool true from rz)
      exact ⟨rfl, .bl false, H', I', rfl, q H' ex⟩
    | next => exact False.elim hq
    | brk => exact False.elim hq
    | cont => exact False.elim hq
end
end K12

set_option maxHeartbeats 4000000
/-! What the top leaves, as every def's proof takes it; a def by its name and promise. -/
namespace K12
open PySem PySem.Spec L2
/-- the classes and their methods -/
structure Ad where
  CK : Addr
  CS : Addr
  fKi : Addr
  fKe : Addr
  fSi : Addr
  fSe : Addr
def fnL0 : List (Str × Stmt) := [("is_word", s_is_word), ("is_pair_of_words", s_is_pair_of_words), ("is_table", s_is_table), ("check_kinds", s_check_kinds), ("is_kind_of", s_is_kind_of), ("together", s_together), ("squares_of", s_squares_of), ("turned_kinds", s_turned_kinds), ("are_deeds", s_are_deeds), ("are_twice", s_are_twice), ("check_setting", s_check_setting), ("row_of", s_row_of), ("kind_in", s_kind_in), ("opposite_setting", s_opposite_setting), ("log_in", s_log_in), ("run_log", s_run_log), ("is_tree", s_is_tree), ("check_tree", s_check_tree), ("parts_of", s_parts_of), ("height_in", s_height_in)]
def fnL1 : List (Str × Stmt) := [("log_of", s_log_of), ("kind_by", s_kind_by), ("height_of", s_height_of), ("size_of", s_size_of), ("knots_in", s_knots_in), ("knots_of", s_knots_of), ("turned", s_turned), ("opposite_tree", s_opposite_tree), ("_law_purse", s_law_purse), ("_law_mixed", s_law_mixed), ("_law_draw", s_law_draw), ("_law_purses", s_law_purses), ("_law_one_of", s_law_one_of), ("_law_same", s_law_same), ("_law_exact", s_law_exact), ("_law_word", s_law_word), ("_law_words", s_law_words), ("_law_plain_table", s_law_plain_table), ("_law_wide_table", s_law_wide_table), ("_law_twofold_table", s_law_twofold_table)]
def fnL2 : List (Str × Stmt) := [("_law_table", s_law_table), ("_law_kinds_of", s_law_kinds_of), ("_law_squares", s_law_squares), ("_law_setting", s_law_setting), ("_law_log", s_law_log), ("_law_kind", s_law_kind), ("_law_made_kinds", s_law_made_kinds), ("_law_made", s_law_made), ("_law_tree_log", s_law_tree_log), ("_law_tree_parts", s_law_tree_parts), ("_law_tree_height", s_law_tree_height), ("_law_drawn_tree", s_law_drawn_tree), ("_law_tree_knots", s_law_tree_knots), ("_law_twin_table", s_law_twin_table), ("_law_leading_table", s_law_leading_table), ("_law_cyclic_table", s_law_cyclic_table), ("_law_any_table", s_law_any_table), ("_law_bent", s_law_bent), ("_law_turned", s_law_turned), ("_law_tree_right", s_law_tree_right)]
def fnL3 : List (Str × Stmt) := [("law", s_law)]
def fnL : List (Str × Stmt) := fnL0 ++ (fnL1 ++ (fnL2 ++ (fnL3)))
def freeL : List Str := ["all", "any", "bool", "dict", "enumerate", "int", "isinstance", "len", "list", "max", "min", "range", "reversed", "sorted", "str", "sum", "tuple", "zip"]
structure Tp (K : PySem.W.Frag) (mg : Str → Option Value) (a : Ad) : Prop where
  fn : ∀ (i : Nat) (x : Str) (st : Stmt), fnL[i]? = some (x, st) → ∃ f fd, FnP K x x st f fd ∧ mg x = some (.ref f)
  free : ∀ (i : Nat) (x : Str), freeL[i]? = some x → mg x = none
  letters : ∃ t, mg "LETTERS" = some (.str "abcdefghijklmnopqrstuvwxyz" t)
  mgK : mg "Kinds" = some (.ref a.CK)
  mgS : mg "Setting" = some (.ref a.CS)
  clK : Cls K a.CK
  clS : Cls K a.CS
  mkK : Mk K a.CK a.fKi
  mkS : Mk K a.CS a.fSi
  eqK : PySem.W.findIn K (.ref a.CK) "__eq__" = some (some (.ref a.fKe)) ∧ PySem.W.isFn K (.ref a.fKe) = true
  eqS : PySem.W.findIn K (.ref a.CS) "__eq__" = some (some (.ref a.fSe)) ∧ PySem.W.isFn K (.ref a.fSe) = true
  neS : HasNe K a.CS
  inK : ∃ fd, FnP K "__init__" "Kinds.__init__" s_Kinds_init_ a.fKi fd
  inS : ∃ fd, FnP K "__init__" "Setting.__init__" s_Setting_init_ a.fSi fd
  qK : ∃ fd, FnP K "__eq__" "Kinds.__eq__" s_Kinds_eq_ a.fKe fd
  qS : ∃ fd, FnP K "__eq__" "Setting.__eq__" s_Setting_eq_ a.fSe fd
  nTold : NoAttr K a.CK "told"
  nNames : NoAttr K a.CK "names"
  nSorts : NoAttr K a.CS "sorts"
  nNamed : NoAttr K a.CS "named"
  nAgain : NoAttr K a.CS "again"
  nKnown : NoAttr K a.CS "known"
  isK : PySem.W.keepIn K (.ref a.CK) = true
  isS : PySem.W.keepIn K (.ref a.CS) = true
  icK : C8.InsC K a.CK
  icS : C8.InsC K a.CS
section
variable {K : PySem.W.Frag} {mg : Str → Option Value} {a : Ad}
theorem Tp.f_all (T : Tp K mg a) : mg "all" = none := T.free 0 _ rfl
theorem Tp.f_any (T : Tp K mg a) : mg "any" = none := T.free 1 _ rfl
theorem Tp.f_bool (T : Tp K mg a) : mg "bool" = none := T.free 2 _ rfl
theorem Tp.f_dict (T : Tp K mg a) : mg "dict" = none := T.free 3 _ rfl
theorem Tp.f_enumerate (T : Tp K mg a) : mg "enumerate" = none := T.free 4 _ rfl
theorem Tp.f_int (T : Tp K mg a) : mg "int" = none := T.free 5 _ rfl
theorem Tp.f_isinstance (T : Tp K mg a) : mg "isinstance" = none := T.free 6 _ rfl
theorem Tp.f_len (T : Tp K mg a) : mg "len" = none := T.free 7 _ rfl
theorem Tp.f_list (T : Tp K mg a) : mg "list" = none := T.free 8 _ rfl
theorem Tp.f_max (T : Tp K mg a) : mg "max" = none := T.free 9 _ rfl
theorem Tp.f_min (T : Tp K mg a) : mg "min" = none := T.free 10 _ rfl
theorem Tp.f_range (T : Tp K mg a) : mg "range" = none := T.free 11 _ rfl
theorem Tp.f_reversed (T : Tp K mg a) : mg "reversed" = none := T.free 12 _ rfl
theorem Tp.f_sorted (T : Tp K mg a) : mg "sorted" = none := T.free 13 _ rfl
theorem Tp.f_str (T : Tp K mg a) : mg "str" = none := T.free 14 _ rfl
theorem Tp.f_sum (T : Tp K mg a) : mg "sum" = none := T.free 15 _ rfl
theorem Tp.f_tuple (T : Tp K mg a) : mg "tuple" = none := T.free 16 _ rfl
theorem Tp.f_zip (T : Tp K mg a) : mg "zip" = none := T.free 17 _ rfl
end
/-- a def by its name: level k, parameters ps, promise sp -/
structure Df (P : Program) (w : World) (K : PySem.W.Frag) (mg : Str → Option Value) (base : Heap) (k : Nat) (x : Str) (ps : List Str) (sp : Sp) : Prop where
  ex : ∃ f fd, FnOk P w K mg base CX0 k f fd ps sp ∧ mg x = some (.ref f) ∧ PySem.W.keepIn K (.ref f) = true ∧ Binds K fd ps []
section
variable {P : Program} {w : World} {K : PySem.W.Frag} {mg : Str → Option Value} {base : Heap} {a : Ad}
theorem Df.mono {j k : Nat} {x : Str} {ps : List Str} {sp : Sp} (D : Df P w K mg base j x ps sp) (h : j ≤ k) : Df P w K mg base k x ps sp := by
  obtain ⟨f, fd, F, r⟩ := D.ex
  exact ⟨f, fd, F.mono h, r⟩
theorem Df.imp {k : Nat} {x : Str} {ps : List Str} {sp sp' : Sp} (D : Df P w K mg base k x ps sp) (h : ∀ vs H Q E, sp' vs H Q E → sp vs H Q E) : Df P w K mg base k x ps sp' := by
  obtain ⟨f, fd, F, r⟩ := D.ex
  exact ⟨f, fd, F.imp h, r⟩
abbrev Ctx (P : Program) (w : World) (K : PySem.W.Frag) (mg : Str → Option Value) (base : Heap) (N : List Str) (x : Str) (st : Stmt) (f : Addr) (cdv : Value) (A : Around) (outer : List Env) (s : Shared) (H : Hp) (E : XK) : Cx := (cxOf CX0 P w K mg base N x (defScope st) f cdv A outer s H E).nox
/-- what is to be shown of a def's body -/
abbrev Body (P : Program) (w : World) (K : PySem.W.Frag) (mg : Str → Option Value) (base : Heap) (k : Nat) (N : List Str) (x : Str) (st : Stmt) (sp : Sp) : Prop :=
  ∀ (f : Addr) (cdv : Value) (A : Around) (outer : List Env) (s : Shared) (H : Hp) (vs : List V) (Q : VK) (E : XK), Room k (A.deeper (PyProof.Rows.envOfC x (defScope st) s.heap.objs.size f cdv)) → sp vs H Q E →
    ∃ t, PSs (Ctx P w K mg base N x st f cdv A outer s H E) (defBody st) t ∧ t { nx := fun _ H' => Q .non H', rt := Q } (start N vs) H
abbrev BindsOf (x q : Str) (st : Stmt) (ps : List Str) : Prop := ∀ (kV doc pm : Value) (an : Option Addr) (cdv ct : Value) (us : List Value), us.length = ps.length →
  bindArgs (PySem.W.fnOf x q (defArgs st) (defBody st) (defScope st) .none kV doc pm an cdv ct) ⟨us, []⟩ = pure (ps.zip us)
theorem df_mk {k : Nat} {x : Str} {st : Stmt} {N ps : List Str} {sp : Sp} (T : Tp K mg a) (i : Nat) (hi : fnL[i]? = some (x, st)) (sc : FnScope N ps (defScope st)) (hb : BindsOf x x st ps)
    (len : ∀ vs H Q E, sp vs H Q E → vs.length = ps.length) (body : Body P w K mg base k N x st sp) : Df P w K mg base (k + 1) x ps sp := by
  obtain ⟨f, fd, F, e⟩ := T.fn i x st hi
  refine ⟨f, fd, F.ok sc len fun cdv A outer s H vs Q E hr h => ?_, e, F.kp, F.bindsN hb⟩
  obtain ⟨t, h1, h2⟩ := body f cdv A outer s H vs Q E hr h
  exact ⟨t, h1.nox, h2⟩
/-- a method -/
theorem fn_mk {k : Nat} {x q : Str} {st : Stmt} {N ps : List Str} {sp : Sp} {f : Addr} {fd : FuncData} (F : FnP K x q st f fd) (sc : FnScope N ps (defScope st))
    (len : ∀ vs H Q E, sp vs H Q E → vs.length = ps.length) (body : Body P w K mg base k N q st sp) : FnOk P w K mg base CX0 (k + 1) f fd ps sp :=
  F.ok sc len fun cdv A outer s H vs Q E hr h => by
    obtain ⟨t, h1, h2⟩ := body f cdv A outer s H vs Q E hr h
    exact ⟨t, h1.nox, h2⟩
end
section
variable {X : Cx} {k : Nat} {x : Str} {ps : List Str} {sp : Sp} {p pos : Pos} {e : Expr} {es : List Expr} {t : TA}
theorem pe_f (D : Df X.prog X.w X.K X.mg X.base k x ps sp) (hr : Room k X.A) (hg : Gl X x) (ha : PA X (e :: es) t) (hdb : (x == ("__debug__" : Str)) = false := by decide)
    (he : starEach (e :: es) X.env = (false, eval e X.env) :: starEach es X.env := by rfl) (hpl : (backTo pos (starEach es X.env)).any (·.1) = false := by rfl) : PE X (.Call (.Name x p) (e :: es) [] pos) (tCall sp [] E0 t) := by
  refine ⟨fun pins s σ H Q I h => ?_⟩
  obtain ⟨f, fd, F, m, kp, b⟩ := D.ex
  exact (pe_call F hr hg m kp b .nil pass0 ha hdb he hpl).run pins s σ H Q I h
theorem PE.or {e : Expr} {t u : TE} (h : PE X e t) (k : PE X e u) : PE X e fun σ H Q => t σ H Q ∨ u σ H Q :=
  ⟨fun pins s σ H Q I z => z.elim (h.run pins s σ H Q I) (k.run pins s σ H Q I)⟩
end
end K12

set_option maxHeartbeats 4000000
/-! The law's mathematics, part 1: settings, kinds of logs, trees' logs, heights, knots, trees turned about. -/
namespace K12
open PySem PySem.Spec L2
/-- a setting: the kinds ascending, what two make, the deeds ascending with their kinds, those that may be done twice -/
structure Sg where
  ks : List Str
  mul : Str → Str → Str
  ds : List (Str × Str)
  tw : List Str
def slt (a b : Str) : Prop := a.cps.toList < b.cps.toList
instance (a b : Str) : Decidable (slt a b) := inferInstanceAs (Decidable (a.cps.toList < b.cps.toList))
def lettersS : Str := "abcdefghijklmnopqrstuvwxyz"
def isWord (w : Str) : Prop := 0 < w.cps.size ∧ w.cps.size < 9 ∧ ∀ c ∈ w.cps.toList, c ∈ lettersS.cps.toList
def Sg.kd (g : Sg) (x : Str) : Option Str := (g.ds.find? fun q => decide (q.1 = x)).map (·.2)
def Sg.kdD (g : Sg) (x : Str) : Str := (g.kd x).getD x
def Sg.sq (g : Sg) : List Str := g.ks.filter fun k => decide (g.mul k k = k)
structure Sg.Ok (g : Sg) : Prop where
  kw : ∀ k ∈ g.ks, isWord k
  kst : g.ks.Pairwise slt
  kn : g.ks.length ≤ 4
  kp : 0 < g.ks.length
  cl : ∀ a ∈ g.ks, ∀ b ∈ g.ks, g.mul a b ∈ g.ks
  as : ∀ a ∈ g.ks, ∀ b ∈ g.ks, ∀ c ∈ g.ks, g.mul (g.mul a b) c = g.mul a (g.mul b c)
  dw : ∀ d ∈ g.ds, isWord d.1
  dst : (g.ds.map (·.1)).Pairwise slt
  dk : ∀ d ∈ g.ds, d.2 ∈ g.ks
  dall : ∀ k ∈ g.ks, ∃ d ∈ g.ds, d.2 = k
  dn : g.ds.length ≤ 8
  tws : g.tw.Sublist g.sq
def kindOf (g : Sg) : List Str → Str
  | [] => ""
  | x :: xs => xs.foldl (fun a y => g.mul a (g.kdD y)) (g.kdD x)
def Sg.op (g : Sg) : Sg := { g with mul := fun a b => g.mul b a }
theorem Sg.op_kd (g : Sg) (x : Str) : g.op.kd x = g.kd x := rfl
theorem Sg.op_kdD (g : Sg) (x : Str) : g.op.kdD x = g.kdD x := rfl
theorem Sg.op_sq (g : Sg) : g.op.sq = g.sq := rfl
theorem Sg.Ok.op {g : Sg} (h : g.Ok) : g.op.Ok where
  kw := h.kw
  kst := h.kst
  kn := h.kn
  kp := h.kp
  cl := fun a ha b hb => h.cl b hb a ha
  as := fun a ha b hb c hc => (h.as c hc b hb a ha).symm
  dw := h.dw
  dst := h.dst
  dk := h.dk
  dall := h.dall
  dn := h.dn
  tws := h.tws
theorem Sg.kd_mem {g : Sg} {x k : Str} (h : g.kd x = some k) : (x, k) ∈ g.ds := by
  unfold Sg.kd at h
  obtain ⟨q, hq, e⟩ := Option.map_eq_some_iff.mp h
  have e1 : q.1 = x := by simpa using List.find?_some hq
  have := List.mem_of_find?_eq_some hq
  rw [← e1, ← e]
  exact this
/-- a list of deeds -/
def IsLog (g : Sg) (l : List Str) : Prop := ∀ x ∈ l, (g.kd x).isSome = true
theorem kdD_in {g : Sg} (h : g.Ok) {x : Str} (hx : (g.kd x).isSome = true) : g.kdD x ∈ g.ks := by
  obtain ⟨k, hk⟩ := Option.isSome_iff_exists.mp hx
  unfold Sg.kdD
  rw [hk]
  exact h.dk _ (Sg.kd_mem hk)
theorem fold_in {g : Sg} (h : g.Ok) : ∀ (l : List Str) (a : Str), a ∈ g.ks → IsLog g l → l.foldl (fun a y => g.mul a (g.kdD y)) a ∈ g.ks
  | [], a, ha, _ => ha
  | x :: xs, a, ha, hl => fold_in h xs _ (h.cl _ ha _ (kdD_in h (hl x List.mem_cons_self))) fun y hy => hl y (List.mem_cons_of_mem _ hy)
theorem kindOf_in {g : Sg} (h : g.Ok) {l : List Str} (hn : l ≠ []) (hl : IsLog g l) : kindOf g l ∈ g.ks := by
  cases l with
  | nil => exact absurd rfl hn
  | cons x xs => exact fold_in h xs _ (kdD_in h (hl x List.mem_cons_self)) fun y hy => hl y (List.mem_cons_of_mem _ hy)
theorem fold_mul {g : Sg} (h : g.Ok) : ∀ (l : List Str) (a b : Str), a ∈ g.ks → b ∈ g.ks → IsLog g l →
    l.foldl (fun a y => g.mul a (g.kdD y)) (g.mul a b) = g.mul a (l.foldl (fun a y => g.mul a (g.kdD y)) b)
  | [], a, b, _, _, _ => rfl
  | x :: xs, a, b, ha, hb, hl => by
    have hx := kdD_in h (hl x List.mem_cons_self)
    show xs.foldl (fun a y => g.mul a (g.kdD y)) (g.mul (g.mul a b) (g.kdD x)) = g.mul a (xs.foldl (fun a y => g.mul a (g.kdD y)) (g.mul b (g.kdD x)))
    rw [h.as a ha b hb _ hx]
    exact fold_mul h xs a _ ha (h.cl _ hb _ hx) fun y hy => hl y (List.mem_cons_of_mem _ hy)
theorem kindOf_cons {g : Sg} (h : g.Ok) {x : Str} {l : List Str} (hn : l ≠ []) (hl : IsLog g (x :: l)) : kindOf g (x :: l) = g.mul (g.kdD x) (kindOf g l) := by
  cases l with
  | nil => exact absurd rfl hn
  | cons y ys =>
    have hx := kdD_in h (hl x List.mem_cons_self)
    have hy := kdD_in h (hl y (List.mem_cons_of_mem _ List.mem_cons_self))
    exact fold_mul h ys _ _ hx hy fun z hz => hl z (List.mem_cons_of_mem _ (List.mem_cons_of_mem _ hz))
theorem kindOf_snoc {g : Sg} {l : List Str} {x : Str} (hn : l ≠ []) : kindOf g (l ++ [x]) = g.mul (kindOf g l) (g.kdD x) := by
  cases l with
  | nil => exact absurd rfl hn
  | cons y ys =>
    show (ys ++ [x]).foldl _ _ = _
    rw [List.foldl_append]
    rfl
theorem kindOf_one (g : Sg) (x : Str) : kindOf g [x] = g.kdD x := rfl
theorem kindOf_op {g : Sg} (h : g.Ok) : ∀ {l : List Str}, l ≠ [] → IsLog g l → kindOf g.op l.reverse = kindOf g l
  | [], hn, _ => absurd rfl hn
  | [x], _, _ => rfl
  | x :: y :: ys, _, hl => by
    have ih := kindOf_op h (l := y :: ys) (List.cons_ne_nil _ _) fun z hz => hl z (List.mem_cons_of_mem _ hz)
    rw [List.reverse_cons, kindOf_snoc (by simp), ih, kindOf_cons h (List.cons_ne_nil _ _) hl]
    rfl

/-! ### trees -/
mutual
/-- a tree's log, if it is a tree of the setting -/
def logT (g : Sg) : T → Option (List Str)
  | .lf x => if (g.kd x).isSome = true then some [x] else none
  | .pr a b => match logT g a with
    | none => none
    | some l => match logT g b with
      | none => none
      | some m => some (l ++ m)
  | .rn k ps => if k ∈ g.sq ∧ 2 ≤ ps.length then logL g k ps else none
/-- the logs of parts that are all of one kind -/
def logL (g : Sg) (k : Str) : List T → Option (List Str)
  | [] => some []
  | t :: ts => match logT g t with
    | none => none
    | some l => if kindOf g l = k then (logL g k ts).map (l ++ ·) else none
end
theorem logL_nil (g : Sg) (k : Str) : logL g k [] = some [] := by unfold logL; rfl
theorem logL_cons (g : Sg) (k : Str) (t : T) (ts : List T) : logL g k (t :: ts) = match logT g t with
    | none => none
    | some l => if kindOf g l = k then (logL g k ts).map (l ++ ·) else none := by conv => lhs; unfold logL
mutual
theorem logT_ok {g : Sg} : ∀ {t : T} {l : List Str}, logT g t = some l → l ≠ [] ∧ IsLog g l
  | .lf x, l, h => by
    unfold logT at h
    split at h
    · cases h
      exact ⟨List.cons_ne_nil _ _, fun y hy => by rw [List.mem_singleton.mp hy]; assumption⟩
    · cases h
  | .pr a b, l, h => by
    unfold logT at h
    cases ha : logT g a with
    | none => rw [ha] at h; cases h
    | some la =>
      rw [ha] at h
      cases hb : logT g b with
      | none => rw [hb] at h; cases h
      | some lb =>
        rw [hb] at h
        cases h
        have h1 := logT_ok ha
        have h2 := logT_ok hb
        refine ⟨by simp [h1.1], fun y hy => ?_⟩
        rcases List.mem_append.mp hy with q | q
        · exact h1.2 y q
        · exact h2.2 y q
  | .rn k ps, l, h => by
    unfold logT at h
    split at h
    · rename_i hc
      have q := logL_ok h
      exact ⟨q.2 (by intro e; rw [e] at hc; simp at hc), q.1⟩
    · cases h
theorem logL_ok {g : Sg} {k : Str} : ∀ {ts : List T} {l : List Str}, logL g k ts = some l → IsLog g l ∧ (ts ≠ [] → l ≠ [])
  | [], l, h => by
    unfold logL at h
    cases h
    exact ⟨fun y hy => by (cases hy), fun z => absurd rfl z⟩
  | t :: ts, l, h => by
    unfold logL at h
    cases ht : logT g t with
    | none => rw [ht] at h; cases h
    | some lt =>
      rw [ht] at h
      simp only at h
      split at h
      · obtain ⟨m, hm, e⟩ := Option.map_eq_some_iff.mp h
        have h1 := logT_ok ht
        have h2 := logL_ok hm
        subst e
        refine ⟨fun y hy => ?_, fun _ => by simp [h1.1]⟩
        rcases List.mem_append.mp hy with q | q
        · exact h1.2 y q
        · exact h2.1 y q
      · cases h
end
/-- two options of lists put together -/
def cat2 (a b : Option (List Str)) : Option (List Str) := match a with
  | none => none
  | some l => b.map (l ++ ·)
theorem logL_app (g : Sg) (k : Str) : ∀ (ts us : List T), logL g k (ts ++ us) = cat2 (logL g k ts) (logL g k us)
  | [], us => by
    show logL g k us = cat2 (logL g k []) (logL g k us)
    rw [show logL g k [] = some [] by unfold logL; rfl]
    unfold cat2
    cases logL g k us <;> simp
  | t :: ts, us => by
    show logL g k (t :: (ts ++ us)) = cat2 (logL g k (t :: ts)) (logL g k us)
    have ih := logL_app g k ts us
    rw [logL_cons, logL_cons]
    cases ht : logT g t with
    | none => rfl
    | some l =>
      simp only
      by_cases hk : kindOf g l = k
      · rw [if_pos hk, if_pos hk, ih]
        unfold cat2
        cases logL g k ts with
        | none => rfl
        | some m =>
          cases logL g k us with
          | none => rfl
          | some n => simp
      · rw [if_neg hk, if_neg hk]
        rfl
mutual
/-- turned about, through and through -/
def turnT : T → T
  | .lf x => .lf x
  | .pr a b => .pr (turnT b) (turnT a)
  | .rn k ps => .rn k (turnL ps).reverse
def turnL : List T → List T
  | [] => []
  | t :: ts => turnT t :: turnL ts
end
theorem turnL_map : ∀ ts : List T, turnL ts = ts.map turnT
  | [] => by unfold turnL; rfl
  | t :: ts => by unfold turnL; rw [turnL_map ts]; rfl
mutual
theorem logT_turn {g : Sg} (h : g.Ok) : ∀ t : T, logT g.op (turnT t) = (logT g t).map List.reverse
  | .lf x => by
    unfold turnT logT
    rw [Sg.op_kd]
    by_cases hx : (g.kd x).isSome = true
    · rw [if_pos hx]; rfl
    · rw [if_neg hx]; rfl
  | .pr a b => by
    have ha := logT_turn h a
    have hb := logT_turn h b
    unfold turnT
    unfold logT
    rw [ha, hb]
    cases logT g a with
    | none => cases logT g b <;> rfl
    | some l =>
      cases logT g b with
      | none => rfl
      | some m => simp
  | .rn k ps => by
    have hp := logL_turn h k ps
    unfold turnT
    unfold logT
    rw [Sg.op_sq, List.length_reverse, turnL_map, List.length_map]
    by_cases hc : k ∈ g.sq ∧ 2 ≤ ps.length
    · rw [if_pos hc, if_pos hc, ← turnL_map]
      exact hp
    · rw [if_neg hc, if_neg hc]; rfl
theorem logL_turn {g : Sg} (h : g.Ok) (k : Str) : ∀ ts : List T, logL g.op k (turnL ts).reverse = (logL g k ts).map List.reverse
  | [] => by unfold turnL logL; rfl
  | t :: ts => by
    have ht := logT_turn h t
    have hs := logL_turn h k ts
    unfold turnL
    rw [List.reverse_cons, logL_app, hs]
    have one : logL g.op k [turnT t] = match (logT g t).map List.reverse with
        | none => none
        | some l => if kindOf g.op l = k then some l else none := by
      rw [← ht, logL_cons, logL_nil]
      cases logT g.op (turnT t) with
      | none => rfl
      | some l =>
        simp only
        by_cases hk : kindOf g.op l = k
        · rw [if_pos hk, if_pos hk]
          simp
        · rw [if_neg hk, if_neg hk]
    rw [one, logL_cons]
    cases hq : logT g t with
    | none => cases logL g k ts <;> rfl
    | some l =>
      have hl := logT_ok hq
      simp only [Option.map_some]
      rw [kindOf_op h hl.1 hl.2]
      by_cases hk : kindOf g l = k
      · rw [if_pos hk, if_pos hk]
        cases logL g k ts with
        | none => rfl
        | some m => simp [cat2]
      · rw [if_neg hk, if_neg hk]
        cases logL g k ts <;> rfl
end
mutual
def heT : T → Nat
  | .lf _ => 0
  | .pr a b => 1 + max (heT a) (heT b)
  | .rn _ ps => 1 + heL ps
def heL : List T → Nat
  | [] => 0
  | t :: ts => max (heT t) (heL ts)
end
theorem heL_ge : ∀ {ts : List T} {t : T}, t ∈ ts → heT t ≤ heL ts
  | u :: ts, t, h => by
    unfold heL
    rcases List.mem_cons.mp h with e | h
    · subst e; exact Nat.le_max_left _ _
    · exact Nat.le_trans (heL_ge h) (Nat.le_max_right _ _)
theorem heL_in : ∀ {ts : List T}, ts ≠ [] → ∃ t ∈ ts, heT t = heL ts
  | [], h => absurd rfl h
  | [t], _ => ⟨t, List.mem_cons_self, by unfold heL heL; simp⟩
  | t :: u :: ts, _ => by
    obtain ⟨v, hv, e⟩ := heL_in (ts := u :: ts) (List.cons_ne_nil _ _)
    by_cases h : heL (u :: ts) ≤ heT t
    · exact ⟨t, List.mem_cons_self, by rw [show heL (t :: u :: ts) = max (heT t) (heL (u :: ts)) by conv => lhs; unfold heL]; omega⟩
    · exact ⟨v, List.mem_cons_of_mem _ hv, by rw [e, show heL (t :: u :: ts) = max (heT t) (heL (u :: ts)) by conv => lhs; unfold heL]; omega⟩
mutual
def szT : T → Nat
  | .lf _ => 1
  | .pr a b => szT a + szT b
  | .rn _ ps => szL ps
def szL : List T → Nat
  | [] => 0
  | t :: ts => szT t + szL ts
end
def kn (f l h : Int) : Dt := .t [.i f, .i l, .i h]
mutual
/-- the knots of a tree that begins at f -/
def knT : T → Int → List Dt
  | .lf _, f => [kn f (f + 1) 0]
  | .pr a b, f => kn f (f + (szT a + szT b : Nat)) (1 + max (heT a) (heT b) : Nat) :: (knT a f ++ knT b (f + (szT a : Nat)))
  | .rn _ ps, f => kn f (f + (szL ps : Nat)) (1 + heL ps : Nat) :: knL ps f
def knL : List T → Int → List Dt
  | [], _ => []
  | t :: ts, f => knT t f ++ knL ts (f + (szT t : Nat))
end
/-- the parts -/
def T.parts : T → List T
  | .lf _ => []
  | .pr a b => [a, b]
  | .rn _ ps => ps
theorem knL_nil (f : Int) : knL [] f = [] := by unfold knL; rfl
theorem knL_cons (t : T) (ts : List T) (f : Int) : knL (t :: ts) f = knT t f ++ knL ts (f + (szT t : Nat)) := by conv => lhs; unfold knL
theorem szL_cons (t : T) (ts : List T) : szL (t :: ts) = szT t + szL ts := by conv => lhs; unfold szL
theorem szL_nil : szL [] = 0 := by unfold szL; rfl
theorem heL_cons (t : T) (ts : List T) : heL (t :: ts) = max (heT t) (heL ts) := by conv => lhs; unfold heL
theorem heL_nil : heL [] = 0 := by unfold heL; rfl
theorem szT_pr (a b : T) : szT (.pr a b) = szT a + szT b := by conv => lhs; unfold szT
theorem heT_pr (a b : T) : heT (.pr a b) = 1 + max (heT a) (heT b) := by conv => lhs; unfold heT
theorem szT_rn (k : Str) (ps : List T) : szT (.rn k ps) = szL ps := by conv => lhs; unfold szT
theorem heT_rn (k : Str) (ps : List T) : heT (.rn k ps) = 1 + heL ps := by conv => lhs; unfold heT
theorem szT_lf (x : Str) : szT (.lf x) = 1 := by unfold szT; rfl
theorem heT_lf (x : Str) : heT (.lf x) = 0 := by unfold heT; rfl
theorem knT_eq (t : T) (f : Int) : knT t f = kn f (f + (szT t : Nat)) (heT t : Nat) :: knL t.parts f := by
  cases t with
  | lf x => rw [szT_lf, heT_lf]; unfold knT T.parts; rw [knL_nil]; rfl
  | pr a b =>
    rw [szT_pr, heT_pr]
    show knT (.pr a b) f = _ :: knL [a, b] f
    rw [knL_cons, knL_cons, knL_nil, List.append_nil]
    conv => lhs; unfold knT
  | rn k ps =>
    rw [szT_rn, heT_rn]
    show knT (.rn k ps) f = _ :: knL ps f
    conv => lhs; unfold knT
theorem szT_parts {t : T} (h : t.parts ≠ []) : szT t = szL t.parts := by
  cases t with
  | lf x => exact absurd rfl h
  | pr a b =>
    show _ = szL [a, b]
    rw [szT_pr, szL_cons, szL_cons, szL_nil]; omega
  | rn k ps => exact szT_rn k ps
theorem heT_parts {t : T} (h : t.parts ≠ []) : heT t = 1 + heL t.parts := by
  cases t with
  | lf x => exact absurd rfl h
  | pr a b =>
    show _ = 1 + heL [a, b]
    rw [heT_pr, heL_cons, heL_cons, heL_nil]; omega
  | rn k ps => exact heT_rn k ps
mutual
/-- every run has parts -/
def T.full : T → Prop
  | .lf _ => True
  | .pr a b => a.full ∧ b.full
  | .rn _ ps => ps ≠ [] ∧ fullL ps
def fullL : List T → Prop
  | [] => True
  | t :: ts => t.full ∧ fullL ts
end
theorem fullL_iff : ∀ {ts : List T}, fullL ts ↔ ∀ t ∈ ts, t.full
  | [] => by unfold fullL; simp
  | t :: ts => by unfold fullL; rw [fullL_iff]; simp
end K12

set_option maxHeartbeats 4000000
/-! Further rules: great powers; dict(..) of pairs whose keys are tuples; == of a dict and one of another length. -/
namespace K12
open PySem PySem.Spec L2
section
variable {X : Cx}
def CPowX (i j : Int) : Prop := 0 ≤ j ∧ (Builtin.Int.intBits i : Int) * j ≤ 2 ^ 27
theorem op_powX : OpR X (binaryOp .Pow) (rI CPowX fun i j => .int (i ^ j.toNat)) := opI fun _ _ _ _ _ _ _ cond z => PyProof.Rows.pow_int cond.1 cond.2 z

/-- == of two dicts of texts that are not of one length -/
def rEqLen : R2 := fun x y H Q => ∃ a b ks ls, x = .ref a ∧ y = .ref b ∧ Rd H a (.dK ks) ∧ Rd H b (.dK ls) ∧ ks.length ≠ ls.length ∧ Q (.bl false) H
theorem op_eqLen (hu : X.A.units < cLine) : OpR X (compareOp .Eq) rEqLen := by
  intro pins s σ H x y v u Q I rx ry hyp
  obtain ⟨a, b, ks, ls, ex, ey, ha, hb, ne, q⟩ := hyp
  subst ex ey
  cases (show v = Value.ref a from rx)
  cases (show u = Value.ref b from ry)
  obtain ⟨_, na, ka, pa, da⟩ := dk_rd I.hok ha
  obtain ⟨_, nb, kb, pb, db⟩ := dk_rd I.hok hb
  have nl : ka.length ≠ kb.length := by rw [← pa.length, ← pb.length]; exact ne
  refine PySem.W.keq_eq (knd := mixKind X.prog X.w) (r := true) na nb da db hu (fun e => absurd e nl) (fin_bl I q ?_)
  have : (ka.length == kb.length) = false := by simpa using nl
  rw [this]
  rfl

/-! ### dict(xs), the keys tuples -/
def mergeT (kvs more : List (List Key × V)) : List (List Key × V) := more.foldl (fun acc kv => putK acc kv.1 kv.2) kvs
theorem mergeT_len : ∀ (more kvs : List (List Key × V)), (mergeT kvs more).length ≤ kvs.length + more.length
  | [], _ => Nat.le_refl _
  | m :: more, kvs => by
    have h1 := mergeT_len more (putK kvs m.1 m.2)
    have h2 := length_putK kvs m.1 m.2
    show (mergeT (putK kvs m.1 m.2) more).length ≤ _
    rw [List.length_cons]
    omega
theorem KT.all {H : Hp} : ∀ {more : List (List Key × V)} {ms : List (List Key × Addr × Value)} {kvs : List (List Key × V)} {xs : List (List Key × Addr × Value)}, KT H more ms → KT H kvs xs → KT H (mergeT kvs more) (PySem.storedAllH xs ms) := by
  intro more ms kvs xs r
  induction r generalizing kvs xs with
  | nil => intro z; exact z
  | @cons p q ps qs h t ih =>
    intro z
    obtain ⟨e1, e2, e3⟩ := h
    obtain ⟨k, b, u⟩ := q
    have e1' : p.1 = k := e1
    subst e1'
    exact ih (KT.put z p.1 e2 e3)
/-- a pair (key tuple, value) -/
def PairT (K : PySem.W.Frag) (H : Hp) (p : Addr) (kv : List Key × V) : Prop := ∃ q, H q = some (.tup (kv.1.map kV)) ∧ SqT K H p [.ref q, kv.2]
theorem pairsT_of {pins : List (Addr × Obj)} {σ : St} {H : Hp} {s : Shared} (I : Inv X pins σ H s) : ∀ {ps : List Addr} {kvs : List (List Key × V)}, Paired (PairT X.K H) ps kvs →
    ∃ ms : List (List Key × Addr × Value), KT H kvs ms ∧ ms.length = ps.length ∧ ∀ (j : Nat) m, ms[j]? = some m → ∃ b, ps[j]? = some b ∧ PyProof.Rows.IsTup s.heap b #[.ref m.2.1, m.2.2]
  | _, _, .nil => ⟨[], .nil, rfl, fun j m e => by simp at e⟩
  | _, _, .cons (a := p) (b := kv) h t => by
    obtain ⟨ms, r, hl, hp⟩ := pairsT_of I t
    obtain ⟨q, hq, hT⟩ := h
    obtain ⟨its, rv, ht, _⟩ := I.tuple hT
    obtain ⟨u1, u2, ei, r1, r3⟩ := vals2 rv
    subst ei
    cases (show u1 = Value.ref q from r1)
    refine ⟨(kv.1, q, u2) :: ms, .cons ⟨rfl, hq, r3⟩ r, by rw [List.length_cons, List.length_cons, hl], fun j m e => ?_⟩
    cases j with
    | zero =>
      have e' : (kv.1, q, u2) = m := Option.some.inj e
      subst e'
      exact ⟨p, rfl, ht⟩
    | succ j =>
      obtain ⟨b, e1, e2⟩ := hp j m (by simpa using e)
      exact ⟨b, by simpa using e1, e2⟩
theorem KT.keyAt {H : Hp} {P : Program} {w : World} {h : Heap} (ok : HOk P w H h) {kvs : List (List Key × V)} {ms : List (List Key × Addr × Value)} (r : KT H kvs ms) : ∀ m ∈ ms, (tupleKind (mixKind P w)).is h m.1 m.2.1 ∧ m.2.1 < h.objs.size := by
  induction r with
  | nil => intro m hm; cases hm
  | @cons p q ps qs hq t ih =>
    intro m hm
    rcases List.mem_cons.mp hm with e | hm
    · subst e
      exact ⟨key_of ok (by rw [← hq.1]; exact hq.2.1), ok.lt hq.2.1⟩
    · exact ih m hm
theorem call_dictPT (hcalm : X.calm = true) (hu : X.A.units + 2 < cLine) : CallR X (.type "dict") (fun xs H Q => ∃ (a : Addr) (ps : List Addr) (kvs : List (List Key × V)), xs = [.ref a] ∧ SqL X.K H a (ps.map V.ref) ∧ Paired (PairT X.K H) ps kvs ∧
    ∀ p, H p = none → Q (.ref p) (upd H p (.dT (mergeT [] kvs)))) := by
  intro pins s σ H xs us Q I r hyp
  obtain ⟨a, ps, kvs, ex, hq, hp, q⟩ := hyp
  subst ex
  obtain ⟨u, eu, rx⟩ := vals1 r
  subst eu
  cases (show u = Value.ref a from rx)
  obtain ⟨its, rv, pl, hz⟩ := I.list hq
  have ei := refs_at rv
  subst ei
  rw [List.length_map] at hz
  obtain ⟨ms, rel, hl, hpr⟩ := pairsT_of I hp
  obtain ⟨o, n, ho, hc, hd, hdat⟩ := pl
  have hkl : kvs.length = ms.length := Paired.length rel
  let vps : List (Value × Value) := ms.map fun m => (Value.ref m.2.1, m.2.2)
  have hvl : vps.length = ms.length := by simp [vps]
  have arg := PySem.PairArg.list (prog := X.prog) (w := X.w) a ((ps.map Value.ref).toArray) (fun j => ps.getD j 0) vps
  refine PySem.call_dict_pairsH (knd := tupleKind (mixKind X.prog X.w)) (ps := ms) arg (I.ok.hd hcalm) (show X.A.in1.in1.units < cLine from ?_) ⟨⟨o, n, ho, hc, hd, hdat⟩, by simp [hvl, hl], fun j k v e => ?_⟩ ⟨hvl.symm, fun j k v e => ?_⟩ (fun h' keep m hm => ?_) (by rw [hvl, hl]; exact hz) fun h' tk hd' keep => ?_
  · exact hu
  · have e' : (ms[j]?).map (fun m => (Value.ref m.2.1, m.2.2)) = some (k, v) := by rw [← List.getElem?_map]; exact e
    obtain ⟨m, hm, em⟩ := Option.map_eq_some_iff.mp e'
    cases em
    obtain ⟨b, hb, t1, t2, t3, t4, t5⟩ := hpr j m hm
    have hgd : ps.getD j 0 = b := by rw [List.getD_eq_getElem?_getD, hb]; rfl
    refine ⟨by show _ = some (Value.ref (ps.getD j 0)); rw [hgd]; simp [hb], .inl ?_⟩
    show s.heap.IsTuple (ps.getD j 0) _
    rw [hgd]
    exact ⟨t1, t2, t3, t4, t5⟩
  · have e' : (ms[j]?).map (fun m => (Value.ref m.2.1, m.2.2)) = some (k, v) := by rw [← List.getElem?_map]; exact e
    obtain ⟨m, hm, em⟩ := Option.map_eq_some_iff.mp e'
    cases em
    exact ⟨m.1, m.2.1, by rw [hm], rfl⟩
  · obtain ⟨⟨o1, its1, n1, g1, g2⟩, lt⟩ := KT.keyAt I.hok rel m hm
    exact ⟨o1, its1, n1, keep _ _ (Nat.ne_of_lt lt) (by simp) g1, g2⟩
  · have hm : (s.heap.objs.size == sysModules) = false := beq_eq_false_iff_ne.mpr (Nat.ne_of_gt I.big)
    have hlen : (mergeT [] kvs).length ≤ sizeLine := by
      refine Nat.le_trans (mergeT_len kvs []) ?_
      rw [List.length_nil, Nat.zero_add, hkl, hl]
      exact hz
    obtain ⟨q1, es, ep, f1, f2, f3, f4, _, f6⟩ := hd'
    have fresh : H s.heap.objs.size = none := I.hok.fresh (Nat.le_refl _)
    have krel : KT (upd H s.heap.objs.size (.dT (mergeT [] kvs))) (mergeT [] kvs) (PySem.storedAllH [] ms) := (KT.all rel .nil).keeps fun b ys e => by
      rw [upd_ne (ne_of_none e fresh)]
      exact e
    exact ⟨.ref s.heap.objs.size, _, I.laid (t' := tk) (fun b u e => keep b u (by simp) e) (Nat.le_refl _) (show ObjOk X.prog X.w _ _ _ (.dT (mergeT [] kvs)) from ⟨hlen, hm, _, krel, q1, es, ep, f1, f2, f3, f4, f6⟩), rfl, q _ fresh⟩
end
end K12

set_option maxHeartbeats 4000000
/-! sorted(d) of a dict whose keys are pairs of texts. -/
namespace K12
open PySem PySem.Spec L2
/-- a pair of texts as data -/
def encP (q : Str × Str) : PyData := .tuple [.str q.1, .str q.2]
def leP (a b : Str × Str) : Bool := !PySem.W.dataLt (encP b) (encP a)
abbrev encA (z : Addr × Str × Str) : PyData := encP z.2
section
variable {X : Cx}
def keyP (q : Str × Str) : List Key := [.inr q.1, .inr q.2]
theorem entsOf {H : Hp} : ∀ {kvs : List (List Key × V)} {ms : List (List Key × Addr × Value)} {ws : List (Str × Str)}, KT H kvs ms → kvs.map (·.1) = ws.map keyP →
    ∃ zs : List (Addr × Str × Str), zs.map (·.2) = ws ∧ ms.map (fun m => Value.ref m.2.1) = zs.map (fun z => Value.ref z.1) ∧ ∀ z ∈ zs, H z.1 = some (.tup [.str z.2.1, .str z.2.2]) := by
  intro kvs ms ws r
  induction r generalizing ws with
  | nil =>
    intro e
    cases ws with
    | nil => exact ⟨[], rfl, rfl, fun z hz => by cases hz⟩
    | cons w ws => simp at e
  | @cons p m ps ms h t ih =>
    intro e
    cases ws with
    | nil => simp at e
    | cons w ws =>
      rw [List.map_cons, List.map_cons] at e
      injection e with e1 e2
      obtain ⟨zs, g1, g2, g3⟩ := ih e2
      refine ⟨(m.2.1, w) :: zs, by rw [List.map_cons, g1], by rw [List.map_cons, List.map_cons, g2], fun z hz => ?_⟩
      rcases List.mem_cons.mp hz with ez | hz
      · subst ez
        have := h.2.1
        rw [e1] at this
        exact this
      · exact g3 z hz
theorem each_of {H : Hp} : ∀ zs : List (Addr × Str × Str), (∀ z ∈ zs, H z.1 = some (.tup [.str z.2.1, .str z.2.2])) → PySem.W.EachIs (fun (v : Value) (z : Addr × Str × Str) => v = .ref z.1 ∧ H z.1 = some (.tup [.str z.2.1, .str z.2.2])) (zs.map fun z => Value.ref z.1) zs
  | [], _ => .nil
  | z :: zs, h => .cons ⟨rfl, h z List.mem_cons_self⟩ (each_of zs fun y hy => h y (List.mem_cons_of_mem _ hy))
theorem each_inv {H : Hp} : ∀ {vs : List Value} {zs : List (Addr × Str × Str)}, PySem.W.EachIs (fun (v : Value) (z : Addr × Str × Str) => v = .ref z.1 ∧ H z.1 = some (.tup [.str z.2.1, .str z.2.2])) vs zs →
    vs = zs.map (fun z => Value.ref z.1) ∧ ∀ z ∈ zs, H z.1 = some (.tup [.str z.2.1, .str z.2.2])
  | _, _, .nil => ⟨rfl, fun z hz => by cases hz⟩
  | _, _, .cons h t => by
    obtain ⟨e1, e2⟩ := each_inv t
    refine ⟨by rw [List.map_cons, ← e1, h.1], fun z hz => ?_⟩
    rcases List.mem_cons.mp hz with ez | hz
    · rw [ez]; exact h.2
    · exact e2 z hz
theorem vals_ref : ∀ zs : List (Addr × Str × Str), Vals (zs.map fun z => V.ref z.1) (zs.map fun z => Value.ref z.1)
  | [] => .nil
  | _ :: r => .cons rfl (vals_ref r)
theorem reads_pair {P : Program} {w : World} {H : Hp} {h : Heap} (ok : HOk P w H h) {a : Addr} {x y : Str} (e : H a = some (.tup [.str x, .str y])) : Reads h (.ref a) (encP (x, y)) [] := by
  obtain ⟨_, its, r, o, h1, h2, n, h3⟩ := (show ObjOk P w H h a (.tup [.str x, .str y]) from ok a _ e)
  obtain ⟨u, v, ei, ru, rv⟩ := vals2 r
  obtain ⟨t, rfl⟩ := (show ∃ t, u = Value.str x t from ru)
  obtain ⟨t', rfl⟩ := (show ∃ t, v = Value.str y t from rv)
  subst ei
  exact .tuple h1 h2 h3 (.cons (.str x t) (.cons (.str y t') .nil))
def rSortP : List V → Hp → VK → Prop := fun xs H Q => ∃ (a : Addr) (kvs : List (List Key × V)) (ws : List (Str × Str)), xs = [.ref a] ∧ Rd H a (.dT kvs) ∧ kvs.map (·.1) = ws.map keyP ∧
  ∀ (p : Addr) (zs : List (Addr × Str × Str)), H p = none → (zs.map (·.2)).Perm ws → (zs.map (·.2)).Pairwise (fun a b => leP a b = true) → (∀ z ∈ zs, H z.1 = some (.tup [.str z.2.1, .str z.2.2])) → Q (.ref p) (upd H p (.lst (zs.map fun z => .ref z.1)))
theorem call_sortedP (hcalm : X.calm = true) (hu : X.A.units + 64 < cLine) : CallR X (.builtin "sorted") rSortP := by
  intro pins s σ H xs us Q I r hyp
  obtain ⟨a, kvs, ws, ex, hd, hk, q⟩ := hyp
  subst ex
  obtain ⟨u, eu, rx⟩ := vals1 r
  subst eu
  cases (show u = Value.ref a from rx)
  obtain ⟨z, hs, ms, pr, o, es, ep, ho, hx, hdt, he, hn⟩ := (show ObjOk X.prog X.w H s.heap a (.dT kvs) from hd.ok I.hok)
  have l1 : es.size = ms.length := size_of_entries he
  have l2 : kvs.length = ms.length := Paired.length pr
  obtain ⟨zs, g1, g2, g3⟩ := entsOf pr hk
  have lz : zs.length = ms.length := by
    have := congrArg List.length g2
    rw [List.length_map, List.length_map] at this
    omega
  refine Calls.call_function_entry PyProof.Rows.kind_sorted PyProof.Rows.plain_sorted PyProof.Rows.entry_sorted (PyProof.Rows.args_sorted1 _) ?_
  unfold Builtin.«sorted»
  refine wpAny_bind (m := checkCount "sorted" 1 1 _) (wpAny_pure ?_)
  refine wpAny_bind (PySem.W.kdu_collect (A := X.A.in1) (kdl_raw hs hx hdt) (I.ok.hd hcalm) ho (by omega) fun h' tk acc kp hacc => ?_)
  have ea : acc.toList = zs.map fun z => Value.ref z.1 := by
    rw [← g2]
    have hl : acc.toList.length = ms.length := by rw [Array.length_toList, hacc.1]; exact l1
    apply List.ext_getElem?
    intro j
    rw [List.getElem?_map]
    cases hj : acc.toList[j]? with
    | none =>
      have b1 := List.getElem?_eq_none_iff.mp hj
      rw [List.getElem?_eq_none (by omega)]
      rfl
    | some v =>
      obtain ⟨en, hen, hv⟩ := hacc.2 j v (by rw [← Array.getElem?_toList]; exact hj)
      have qe := entry_at he j
      rw [hen] at qe
      cases hb : ms[j]? with
      | none => rw [hb] at qe; cases qe
      | some b =>
        rw [hb] at qe
        have e2 : en = entryOfKey (tupleKind (mixKind X.prog X.w)) b := Option.some.inj qe
        rw [hv, e2]
        rfl
  have I1 : L2.Inv X pins σ H { s with heap := h', toks := tk } := I.kept kp
  refine wpAny_bind (wpAny_newList ?_ (by rw [ea, List.length_map]; omega))
  rw [ea]
  have hoL : (h'.push (PyProof.Rows.seqObj "list" (zs.map fun z => Value.ref z.1).toArray 0)).get? h'.objs.size = some (PyProof.Rows.seqObj "list" (zs.map fun z => Value.ref z.1).toArray 0) := Heap.get?_push_size _ rfl
  have I2 : L2.Inv X pins σ H { s with heap := h'.push (PyProof.Rows.seqObj "list" (zs.map fun z => Value.ref z.1).toArray 0), toks := tk } := I1.kept (t' := tk) fun b o e => Heap.get?_push_of_some _ e
  have er : PySem.W.EachIs (fun (v : Value) (z : Addr × Str × Str) => ∃ as, Reads (h'.push (PyProof.Rows.seqObj "list" (zs.map fun z => Value.ref z.1).toArray 0)) v (encA z) as ∧ h'.objs.size ∉ as) (zs.map fun z => Value.ref z.1) zs :=
    (each_of zs g3).mono fun v z hv => by
      obtain ⟨ev, hz⟩ := hv
      subst ev
      exact ⟨[], reads_pair I2.hok hz, by simp⟩
  show wpAny _ _ _ _ _ { s with heap := h'.push (PyProof.Rows.seqObj "list" (zs.map fun z => Value.ref z.1).toArray 0), toks := tk }
  have hu2 : X.A.in1.units = X.A.units + 1 := rfl
  refine wpAny_bind (wpAny_holding (PySem.W.list_sort_data (s := { s with heap := h'.push (PyProof.Rows.seqObj "list" (zs.map fun z => Value.ref z.1).toArray 0), toks := tk }) (R := fun (v : Value) (z : Addr × Str × Str) => v = .ref z.1 ∧ H z.1 = some (.tup [.str z.2.1, .str z.2.2]))
    hoL (each_of zs g3) er (PySem.W.AllAlike.of fun b b' => by simp [encA, encP, PySem.W.alike, PySem.W.alikeAll]) (PySem.W.Sortable.tuples fun b => ⟨_, _, rfl⟩) (by omega) (fun b _ => by rw [hu2]; simp [encA, encP, PyData.depth, PyData.depthAll]; omega) fun out hlen hout => ?_))
  obtain ⟨eo, ho2⟩ := each_inv hout
  subst eo
  obtain ⟨e', he'⟩ := PyProof.Rows.sortedHeap_at (vs := zs.map fun z => Value.ref z.1) (out := (List.map (fun z => Value.ref z.1) (zs.mergeSort (PySem.W.dataLe false encA))).toArray) hoL
  have hpm : (zs.mergeSort (PySem.W.dataLe false encA)).Perm zs := List.mergeSort_perm _ _
  have fresh := I1.hok.fresh (Nat.le_refl h'.objs.size)
  refine wpAny_pure ⟨_, rfl, .ref h'.objs.size, upd H h'.objs.size (.lst ((zs.mergeSort (PySem.W.dataLe false encA)).map fun z => .ref z.1)), I1.laid (t' := tk) (fun b u e => ?_) (Nat.le_refl _)
    (show ObjOk X.prog X.w _ _ _ (.lst ((zs.mergeSort (PySem.W.dataLe false encA)).map fun z => .ref z.1)) from ⟨by rw [List.length_map, hpm.length_eq]; omega, _, e', vals_ref _, he'⟩), rfl,
    q _ _ fresh (by rw [← g1]; exact hpm.map _) ?_ ho2⟩
  · have hb : b < h'.objs.size := Heap.lt_size e
    rw [PyProof.Rows.sortedHeap_old (Nat.ne_of_lt hb) (by rw [PyProof.Rows.size_push']; exact Nat.lt_succ_of_lt hb)]
    exact Heap.get?_push_of_some _ e
  · have tl : PySem.W.TotalLe (PySem.W.dataLe false encA) := by unfold PySem.W.dataLe; exact PySem.W.sortLe_total _ _ _
    have hp := PySem.W.sort_pairwise tl zs
    rw [List.pairwise_map]
    refine List.Pairwise.imp (fun {a b} hab => ?_) hp
    have e1 : PySem.W.dataLe false encA a b = true := hab
    rw [PySem.W.dataLe_eq] at e1
    exact e1
end
end K12

set_option maxHeartbeats 4000000
/-! The law's mathematics, part 2: tables as dicts, orders, what sorted gives. -/
namespace K12
open PySem PySem.Spec L2
/-! ### orders -/
theorem cps_inj {a b : Str} (h : a.cps.toList = b.cps.toList) : a = b := by
  cases a; cases b
  simp only at h
  congr 1
  exact Array.toList_inj.mp h
theorem lt_lt {a b c : List Nat} (h : a < b) (k : b < c) : a < c := List.lt_trans h k
theorem slt_irr (a : Str) : ¬ slt a a := List.lt_irrefl _
theorem slt_trans {a b c : Str} (h : slt a b) (k : slt b c) : slt a c := lt_lt h k
theorem slt_asymm {a b : Str} (h : slt a b) : ¬ slt b a := fun k => slt_irr a (slt_trans h k)
theorem slt_tri {a b : Str} (h : ¬ slt a b) (k : ¬ slt b a) : a = b := by
  have h1 : b.cps.toList ≤ a.cps.toList := List.not_lt.mp h
  have h2 : a.cps.toList ≤ b.cps.toList := List.not_lt.mp k
  exact cps_inj (List.le_antisymm h2 h1)
theorem slt_ne {a b : Str} (h : slt a b) : a ≠ b := fun e => slt_irr b (e ▸ h)
/-- two lists in strict order with the same members are one -/
theorem sorted_one {α : Type} {r : α → α → Prop} (ir : ∀ a, ¬ r a a) (as : ∀ a b, r a b → ¬ r b a) : ∀ {l m : List α}, l.Pairwise r → m.Pairwise r → l.Perm m → l = m
  | [], m, _, _, p => by rw [List.nil_perm.mp p]
  | a :: l, [], _, _, p => absurd (List.perm_nil.mp p) (List.cons_ne_nil _ _)
  | a :: l, b :: m, h1, h2, p => by
    have q1 := List.pairwise_cons.mp h1
    have q2 := List.pairwise_cons.mp h2
    have e : a = b := by
      have ma : a ∈ b :: m := p.subset List.mem_cons_self
      have mb : b ∈ a :: l := p.symm.subset List.mem_cons_self
      rcases List.mem_cons.mp ma with e | ma
      · exact e
      · rcases List.mem_cons.mp mb with e | mb
        · exact e.symm
        · exact absurd (q1.1 b mb) (as b a (q2.1 a ma))
    subst e
    rw [sorted_one ir as q1.2 q2.2 ((List.perm_cons a).mp p)]
/-- weakly sorted and no two alike: strictly sorted -/
theorem strict_of {α : Type} {r : α → α → Prop} : ∀ {l : List α}, l.Pairwise (fun a b => ¬ r b a) → l.Nodup → (∀ a b, ¬ r a b → ¬ r b a → a = b) → l.Pairwise r
  | [], _, _, _ => List.Pairwise.nil
  | a :: l, h, n, t => by
    have q := List.pairwise_cons.mp h
    have m := List.nodup_cons.mp n
    refine List.pairwise_cons.mpr ⟨fun b hb => ?_, strict_of q.2 m.2 t⟩
    apply Classical.byContradiction
    intro hn
    have e := t a b hn (q.1 b hb)
    exact m.1 (e ▸ hb)
theorem rising_pw : ∀ {l : List Str} {p : Str}, PyProof.Rows.risingS p l = true → (p :: l).Pairwise fun a b => ¬ slt b a
  | [], p, _ => by simp
  | x :: r, p, h => by
    unfold PyProof.Rows.risingS at h
    have h' := Bool.and_eq_true_iff.mp h
    have ih := rising_pw (l := r) (p := x) h'.2
    have hx : ¬ slt x p := by
      have e : ltCps x.cps.toList p.cps.toList = false := by simpa using h'.1
      intro z
      have : ltCps x.cps.toList p.cps.toList = true := by
        rw [PyProof.Rows.ltCps_eq]
        exact decide_eq_true z
      rw [e] at this
      cases this
    refine List.pairwise_cons.mpr ⟨fun b hb => ?_, ih⟩
    rcases List.mem_cons.mp hb with e | hb
    · subst e; exact hx
    · have := (List.pairwise_cons.mp ih).1 b hb
      intro z
      by_cases hxp : slt p x
      · exact this (slt_trans z hxp)
      · have e := slt_tri hx hxp
        subst e
        exact this z
theorem sortedS_pw {l : List Str} (h : PyProof.Rows.sortedS l = true) : l.Pairwise fun a b => ¬ slt b a := by
  cases l with
  | nil => exact List.Pairwise.nil
  | cons x r => exact rising_pw h
/-- what sorted(..) of texts gives, of a list whose sorted form is known -/
theorem sorted_is {l m ks : List Str} (hp : l.Perm m) (hs : PyProof.Rows.sortedS l = true) (hm : m.Perm ks) (hk : ks.Pairwise slt) : l = ks := by
  have nk : ks.Nodup := hk.imp fun {a b} h => slt_ne h
  have nl : l.Nodup := ((hp.trans hm).nodup_iff).mpr nk
  exact sorted_one slt_irr (fun a b h => slt_asymm h) (strict_of (sortedS_pw hs) nl fun a b h1 h2 => slt_tri h1 h2) hk (hp.trans hm)
/-- pairs, by the first, then the second -/
def plt (a b : Str × Str) : Prop := slt a.1 b.1 ∨ (a.1 = b.1 ∧ slt a.2 b.2)
theorem plt_irr (a : Str × Str) : ¬ plt a a := fun h => h.elim (slt_irr _) fun q => slt_irr _ q.2
theorem plt_asymm {a b : Str × Str} (h : plt a b) : ¬ plt b a := fun k => by
  rcases h with h | ⟨e, h⟩ <;> rcases k with k | ⟨e', k⟩
  · exact slt_asymm h k
  · rw [e'] at h; exact slt_irr _ h
  · rw [e] at k; exact slt_irr _ k
  · exact slt_asymm h k
theorem plt_tri {a b : Str × Str} (h : ¬ plt a b) (k : ¬ plt b a) : a = b := by
  have e1 : a.1 = b.1 := slt_tri (fun z => h (.inl z)) fun z => k (.inl z)
  have e2 : a.2 = b.2 := slt_tri (fun z => h (.inr ⟨e1, z⟩)) fun z => k (.inr ⟨e1.symm, z⟩)
  exact Prod.ext e1 e2
theorem leP_plt {a b : Str × Str} (h : leP a b = true) : ¬ plt b a := by
  unfold leP at h
  have e : PySem.W.dataLt (encP b) (encP a) = false := by simpa using h
  intro z
  have e2 : PySem.W.dataLt (encP b) (encP a) = true := by
    unfold encP
    rw [PySem.W.dataLt_pair (by simp [PySem.W.alike]) (by simp [PySem.W.alike]), PySem.W.dataLt_str, PySem.W.dataLt_str]
    have eqv : ∀ x y : Str, PyData.eqv (.str x) (.str y) = decide (x = y) := fun x y => by rw [PyData.eqv]; exact Bool.beq_eq_decide_eq _ _
    rw [eqv, eqv]
    rcases z with z | ⟨e1, z⟩
    · rw [if_neg (by simpa using slt_ne z)]
      exact decide_eq_true z
    · rw [if_pos (by simpa using e1), if_neg (by simpa using slt_ne z)]
      exact decide_eq_true z
  rw [e] at e2
  cases e2
def prs (ks : List Str) : List (Str × Str) := ks.flatMap fun a => ks.map fun b => (a, b)
theorem mem_prs {ks : List Str} {q : Str × Str} : q ∈ prs ks ↔ q.1 ∈ ks ∧ q.2 ∈ ks := by
  unfold prs
  rw [List.mem_flatMap]
  constructor
  · rintro ⟨a, ha, h⟩
    obtain ⟨b, hb, e⟩ := List.mem_map.mp h
    subst e
    exact ⟨ha, hb⟩
  · rintro ⟨ha, hb⟩
    exact ⟨q.1, ha, List.mem_map.mpr ⟨q.2, hb, rfl⟩⟩
theorem prs_pw {ks : List Str} (h : ks.Pairwise slt) : (prs ks).Pairwise plt := by
  unfold prs
  have gen : ∀ (l : List Str), l.Pairwise slt → (l.flatMap fun a => ks.map fun b => (a, b)).Pairwise plt := by
    intro l
    induction l with
    | nil => intro _; exact List.Pairwise.nil
    | cons a l ih =>
      intro hl
      have q := List.pairwise_cons.mp hl
      rw [List.flatMap_cons, List.pairwise_append]
      refine ⟨?_, ih q.2, fun x hx y hy => ?_⟩
      · rw [List.pairwise_map]
        exact h.imp fun {b c} hbc => .inr ⟨rfl, hbc⟩
      · obtain ⟨b, _, e⟩ := List.mem_map.mp hx
        subst e
        obtain ⟨a', ha', hy⟩ := List.mem_flatMap.mp hy
        obtain ⟨c, _, e⟩ := List.mem_map.mp hy
        subst e
        exact .inl (q.1 a' ha')
  exact gen ks h
theorem prs_len (ks : List Str) : (prs ks).length = ks.length * ks.length := by
  unfold prs
  rw [List.length_flatMap]
  have gen : ∀ l : List Str, (l.map fun a => (ks.map fun b => (a, b)).length).sum = l.length * ks.length := by
    intro l
    induction l with
    | nil => simp
    | cons a l ih =>
      rw [List.map_cons, List.sum_cons, ih, List.length_map, List.length_cons, Nat.succ_mul]
      omega
  exact gen ks
theorem prs_nodup {ks : List Str} (h : ks.Pairwise slt) : (prs ks).Nodup := (prs_pw h).imp fun {a b} q e => by
  subst e; exact plt_irr _ q
/-- what sorted(..) of a table's keys gives -/
theorem sortedP_is {l m : List (Str × Str)} {ks : List Str} (hp : l.Perm m) (hs : l.Pairwise fun a b => leP a b = true) (hm : m.Perm (prs ks)) (hk : ks.Pairwise slt) : l = prs ks := by
  have nk := prs_nodup hk
  have nl : l.Nodup := ((hp.trans hm).nodup_iff).mpr nk
  exact sorted_one plt_irr (fun a b h => plt_asymm h) (strict_of (hs.imp fun {a b} h => leP_plt h) nl fun a b h1 h2 => plt_tri h1 h2) (prs_pw hk) (hp.trans hm)

/-! ### dicts as lists of pairs -/
section
variable {κ : Type} [DecidableEq κ]
theorem valV_mem {kvs : List (κ × V)} {k : κ} {v : V} (h : valV kvs k = some v) : (k, v) ∈ kvs := by
  unfold valV at h
  obtain ⟨q, hq, e⟩ := Option.map_eq_some_iff.mp h
  have e1 : q.1 = k := by simpa using List.find?_some hq
  have := List.mem_of_find?_eq_some hq
  rw [← e1, ← e]
  exact this
theorem valV_some {kvs : List (κ × V)} {k : κ} (h : k ∈ kvs.map (·.1)) : ∃ v, valV kvs k = some v := by
  obtain ⟨q, hq, e⟩ := List.mem_map.mp h
  have a : (kvs.any fun kv => decide (kv.1 = k)) = true := List.any_eq_true.mpr ⟨q, hq, decide_eq_true e⟩
  rw [valV_any] at a
  exact Option.isSome_iff_exists.mp a
theorem valV_nodup {kvs : List (κ × V)} {k : κ} {v : V} (hn : (kvs.map (·.1)).Nodup) (h : (k, v) ∈ kvs) : valV kvs k = some v := by
  obtain ⟨u, hu⟩ := valV_some (List.mem_map.mpr ⟨(k, v), h, rfl⟩)
  have m := valV_mem hu
  clear hu
  induction kvs with
  | nil => cases h
  | cons q r ih =>
    rw [List.map_cons] at hn
    have n := List.nodup_cons.mp hn
    rcases List.mem_cons.mp h with e | h
    · subst e
      exact valV_pos rfl
    · have nq : ¬ q.1 = k := fun e => n.1 (e ▸ List.mem_map.mpr ⟨(k, v), h, rfl⟩)
      rw [valV_neg nq]
      rcases List.mem_cons.mp m with e | m
      · exact absurd (by rw [← e]) nq
      · exact ih n.2 h m
theorem valV_none {kvs : List (κ × V)} {k : κ} (h : k ∉ kvs.map (·.1)) : valV kvs k = none := by
  cases e : valV kvs k with
  | none => rfl
  | some v => exact absurd (List.mem_map.mpr ⟨(k, v), valV_mem e, rfl⟩) h
/-- one by one into a dict, no key twice -/
theorem putAll_new : ∀ (more kvs : List (κ × V)), ((kvs ++ more).map (·.1)).Nodup → more.foldl (fun acc kv => putK acc kv.1 kv.2) kvs = kvs ++ more
  | [], kvs, _ => by simp
  | q :: r, kvs, h => by
    have hq : valV kvs q.1 = none := valV_none fun z => by
      rw [List.map_append, List.map_cons] at h
      exact (List.nodup_append.mp h).2.2 _ z _ List.mem_cons_self rfl
    show r.foldl _ (putK kvs q.1 q.2) = _
    rw [putK_new _ hq, putAll_new r (kvs ++ [(q.1, q.2)]) (by simpa using h)]
    simp
end
theorem mergeK_new {kvs : List (Key × V)} (h : (kvs.map (·.1)).Nodup) : mergeK [] kvs = kvs := putAll_new kvs [] (by simpa using h)
theorem mergeT_new {kvs : List (List Key × V)} (h : (kvs.map (·.1)).Nodup) : mergeT [] kvs = kvs := putAll_new kvs [] (by simpa using h)

/-! ### the table of a setting as a dict -/
theorem keyP_inj {a b : Str × Str} (h : keyP a = keyP b) : a = b := by
  unfold keyP at h
  injection h with h1 h2
  injection h2 with h2 _
  exact Prod.ext (Sum.inr.inj h1) (Sum.inr.inj h2)
def grid (ks : List Str) (mul : Str → Str → Str) : List (List Key × V) := (prs ks).map fun q => (keyP q, .str (mul q.1 q.2))
theorem grid_keys (ks : List Str) (mul : Str → Str → Str) : (grid ks mul).map (·.1) = (prs ks).map keyP := by
  unfold grid
  rw [List.map_map]
  rfl
theorem grid_nodup {ks : List Str} {mul : Str → Str → Str} (h : ks.Pairwise slt) : ((grid ks mul).map (·.1)).Nodup := by
  rw [grid_keys, List.nodup_iff_pairwise_ne, List.pairwise_map]
  exact (prs_nodup h).imp fun {a b} q e => q (keyP_inj e)
theorem grid_val {ks : List Str} {mul : Str → Str → Str} (h : ks.Pairwise slt) {a b : Str} (ha : a ∈ ks) (hb : b ∈ ks) : valV (grid ks mul) (keyP (a, b)) = some (.str (mul a b)) :=
  valV_nodup (grid_nodup h) (List.mem_map.mpr ⟨(a, b), mem_prs.mpr ⟨ha, hb⟩, rfl⟩)
theorem perm_val {kvs : List (List Key × V)} {ks : List Str} {mul : Str → Str → Str} (hp : kvs.Perm (grid ks mul)) (h : ks.Pairwise slt) {a b : Str} (ha : a ∈ ks) (hb : b ∈ ks) : valV kvs (keyP (a, b)) = some (.str (mul a b)) := by
  have n : (kvs.map (·.1)).Nodup := ((hp.map _).nodup_iff).mpr (grid_nodup h)
  exact valV_nodup n (hp.symm.subset (List.mem_map.mpr ⟨(a, b), mem_prs.mpr ⟨ha, hb⟩, rfl⟩))
def dents (ds : List (Str × Str)) : List (Key × V) := ds.map fun q => (.inr q.1, .str q.2)
theorem dents_keys (ds : List (Str × Str)) : (dents ds).map (·.1) = (ds.map (·.1)).map Sum.inr := by
  unfold dents
  rw [List.map_map, List.map_map]
  rfl
theorem dents_val (g : Sg) (x : Str) : valV (dents g.ds) (Sum.inr x : Key) = (g.kd x).map V.str := by
  unfold Sg.kd dents
  have gen : ∀ l : List (Str × Str), valV (l.map fun q => ((Sum.inr q.1 : Key), V.str q.2)) (Sum.inr x : Key) = ((l.find? fun q => decide (q.1 = x)).map (·.2)).map V.str := by
    intro l
    induction l with
    | nil => rfl
    | cons q l ih =>
      rw [List.map_cons, List.find?_cons]
      by_cases e : q.1 = x
      · rw [valV_pos (by rw [e]), decide_eq_true e]
        rfl
      · rw [valV_neg (fun z => e (Sum.inr.inj z)), decide_eq_false e]
        exact ih
  exact gen g.ds
theorem ds_nodup {ds : List (Str × Str)} (h : (ds.map (·.1)).Pairwise slt) : ((dents ds).map (·.1)).Nodup := by
  rw [dents_keys, List.nodup_iff_pairwise_ne, List.pairwise_map]
  exact h.imp fun {a b} q e => slt_ne q (Sum.inr.inj e)
theorem kd_of_mem {g : Sg} (h : g.Ok) {q : Str × Str} (m : q ∈ g.ds) : g.kd q.1 = some q.2 := by
  have h1 := valV_nodup (ds_nodup h.dst) (k := (Sum.inr q.1 : Key)) (v := .str q.2) (List.mem_map.mpr ⟨q, m, rfl⟩)
  rw [dents_val] at h1
  obtain ⟨k, hk, e⟩ := Option.map_eq_some_iff.mp h1
  injection e with e
  rw [hk, e]
end K12

set_option maxHeartbeats 4000000
/-! {k: v for ..}, the keys tuples. -/
namespace K12
open PySem PySem.Spec L2
theorem dT_put {X : Cx} {pins : List (Addr × Obj)} {σ : L2.St} {H : Hp} {s : Shared} {E : Value → Shared → Prop} {D b : Addr} {kvs : List (List Key × V)} {k : List Key} {v : V} {r : Value} {Q : Unit → Shared → Prop} (hu : X.A.units < cLine) (I : L2.Inv X pins σ H s)
    (hD : H D = some (.dT kvs)) (hb : H b = some (.tup (k.map kV))) (hz : kvs.length < sizeLine) (rv : L2.RelV v r) (go : ∀ s', L2.Inv X pins σ (upd H D (.dT (putK kvs k v))) s' → Q () s') : wpAny (model X.prog X.w) X.A (dictSet D (.ref b) r) Q E s := by
  obtain ⟨z, nd, xs, rel, dd⟩ := dt_of I.hok hD
  have lx : xs.length ≤ sizeLine := by rw [← Paired.length rel]; exact z
  have lp : (putK kvs k v).length ≤ sizeLine := by have := length_putK kvs k v; omega
  refine wpAny_dictSet_heap (hsz := lx) (knd := tupleKind (mixKind X.prog X.w)) hu (key_of I.hok hb) dd fun h' dd' same => go _ ?_
  obtain ⟨o, es, ep, g1, g2, g3, g4, _, g6⟩ := dd'
  refine d_write I (by rw [hD]; trivial) same ⟨o, g1⟩ ⟨lp, nd, _, (rel.put k hb rv).keeps fun c ys ec => ?_, o, es, ep, g1, g2, g3, g4, g6⟩
  rw [upd_ne (ne_of ec hD (fun z => nomatch z))]
  exact ec
section
variable {X : Cx}
/-- what {k: v for target in iter} asks: D the new dict -/
def tDcT (wi : TI) (g : TG) (tt : TT) (tk tv : TE) (vs : List Nat) : TE := fun σ H Q => wi σ H fun J H1 => ∀ D, H1 D = none → ∃ W : Nat → Nat → Hp → Prop, (∃ m, W 0 m (upd H1 D (.dT []))) ∧ ∀ i m H, W i m H →
  (J.stop i H ∧ Q (.ref D) H) ∨ (J.go i H ∧ ∃ Nx : Hp → Prop, (∀ H', Nx H' → ∃ m', m' < m ∧ W (i + 1) m' H') ∧ ∀ x H', J.yld i H x H' → g x (wipe σ vs) H' fun σ2 H2 => wipe σ2 vs = wipe σ vs ∧ tt σ2 H2 fun b H3 =>
    if b = true then tk σ2 H3 fun y H4 => tv σ2 H4 fun z H5 => ∃ kvs k c, y = .ref c ∧ H5 c = some (.tup (k.map kV)) ∧ H5 D = some (.dT kvs) ∧ kvs.length < sizeLine ∧ Nx (upd H5 D (.dT (putK kvs k z))) else Nx H3)
abbrev InBlk (X : Cx) (scope : Scope) (R : Cx → Prop) : Prop := ∀ (s : Shared) (H : Hp) (C : Addr) (cl : List (Str × Addr)) (fp : List Addr), R (X.blk s H scope (compEnvC scope cl C X.env) fp)
theorem pe_dcT {kx vx tg iter : Expr} {ifs : List Expr} {scope : Scope} {own : List (Str × Nat)} {pos : Pos} {wi : TI} {g : TG} {tt : TT} {tk tv : TE} (hc : X.calm = true) (hu : X.A.units < cLine) (hN : X.N.Nodup) (hi : PI X tg iter wi) (ok : BlkOk X.N X.env.scope scope own)
    (hg : InBlk X scope fun Y => PG Y tg g) (ht : InBlk X scope fun Y => PTs Y ifs tt) (hk : InBlk X scope fun Y => PE Y kx tk) (he : InBlk X scope fun Y => PE Y vx tv) (hs : ∀ x, foldedSetIterable iter X.env x = pure x := by intro _; rfl) :
    PE X (.DictComp kx vx [⟨tg, iter, ifs, 0⟩] scope pos) (tDcT wi g tt tk tv (own.map (·.2))) := by
  refine ⟨fun pins s σ H Q I asked => ?_⟩
  rw [arm_eval_DictComp]
  have inClosure : ∀ y ∈ scope.names, y.2 = .free → ∃ c, X.env.cells.lookup y.1 = some c := fun y hy e => by
    rcases ok.free y hy e with k | k
    · exact I.ok.has _ (.inl k)
    · exact I.ok.has _ (.inr k)
  refine wpAny_comprehension_free (use := none) rfl hs (closure_ok inClosure) ok.kind (fun y hy e => by rw [ok.uniq y hy, e])
    (thn (hi.run pins s σ H _ I asked) fun xv s1 hx => thn hx fun itv s2 h2 => ?_)
  obtain ⟨it, fp, tn, J, H2, eit, I2, T, st2, f2, body⟩ := h2
  subst eit
  refine wpAny_newObj_type (newEnv_comp ?_)
  generalize hD : s2.heap.objs.size = D
  have noD : H2 D = none := I2.hok.fresh (Nat.le_of_eq hD)
  obtain ⟨W, ⟨m0, w0⟩, turn⟩ := body D noD
  generalize hs3 : ({ s2 with heap := s2.heap.push { cls := .type "dict", data := .dict #[] } } : Shared) = s3
  have e3 : s3.heap = s2.heap.push { cls := .type "dict", data := .dict #[] } := by rw [← hs3]
  have I3 : L2.Inv X pins σ (upd H2 D (.dT [])) s3 := by
    rw [← hs3]
    refine I2.laid (t' := s2.toks) (fun b o e => Heap.get?_push_of_some _ e) (Nat.le_of_eq hD) ?_
    have nsys : (D == sysModules) = false := beq_eq_false_iff_ne.mpr (Nat.ne_of_gt (by rw [← hD]; exact I2.big))
    exact ⟨Nat.zero_le _, nsys, [], .nil, _, #[], 0, by rw [← hD]; exact Heap.get?_push_size _ rfl, ⟨rfl, rfl, rfl⟩, rfl, rfl, List.nodup_nil⟩
  have below : ∀ b ∈ fp, b < s2.heap.objs.size := fun b hb => by
    obtain ⟨o, e, _⟩ := T.obj _ _ st2 b hb
    exact Heap.lt_size e
  have f3 : ∀ b ∈ fp, FpOk X pins (upd H2 D (.dT [])) b ∧ b < s3.heap.objs.size := fun b hb => by
    have hlt := below b hb
    refine ⟨⟨?_, (f2 b hb).2⟩, by rw [e3, Heap.size_push]; exact Nat.lt_succ_of_lt hlt⟩
    rw [upd_ne (by rw [← hD]; exact Nat.ne_of_lt hlt)]
    exact (f2 b hb).1
  have st3 : tn 0 s3.heap := T.keep _ _ _ st2 fun b _ o e => by rw [e3]; exact Heap.get?_push_of_some _ e
  have I4 := block_start I3 ok hN f3
  generalize hcl : cellsFrom (s3.heap.objs.size + 1) scope.names (cloFrom X.env.cells scope.names []) = cl at I4
  have pg := hg s3 (upd H2 D (.dT [])) s3.heap.objs.size cl fp
  have pt := ht s3 (upd H2 D (.dT [])) s3.heap.objs.size cl fp
  have pk := hk s3 (upd H2 D (.dT [])) s3.heap.objs.size cl fp
  have pe := he s3 (upd H2 D (.dT [])) s3.heap.objs.size cl fp
  show codeAny _ _ (.compStart (.DictComp kx vx [⟨tg, iter, ifs, 0⟩] scope pos) 0 (.ref it) (.ref D) (compEnvC scope cl s3.heap.objs.size X.env)) (compPost (model X.prog X.w) X.A X.xe none (EP X pins σ Q) (.ref D) s3.heap.objs.size) { s3 with heap := pushCells (s3.heap.push { cls := .type "dict", data := .dict #[] }) scope.names }
  have nfp : ∀ b ∈ fp, (upd H2 D (.dT [])) b = none := fun b hb => (f3 b hb).1.1
  generalize hce : compEnvC scope cl s3.heap.objs.size X.env = ce at I4 pg pt pk pe ⊢
  have cL : ce.locals = s3.heap.objs.size := by subst hce; rfl
  generalize hH3 : upd H2 D (.dT []) = H3 at I3 I4 pg pt pk pe w0 nfp f3
  generalize hs4 : ({ s3 with heap := pushCells (s3.heap.push { cls := .type "dict", data := .dict #[] }) scope.names } : Shared) = s4 at I4 ⊢
  have st4 : tn 0 s4.heap := T.keep _ _ _ st3 fun b _ o e => by rw [← hs4]; exact pushCells_keeps _ _ _ _ (Heap.get?_push_of_some _ e)
  have stands : ∀ {σ' : L2.St} {H' : Hp} {s' : Shared}, L2.Inv (X.blk s3 H3 scope ce fp) [] σ' H' s' → (∀ b ∈ fp, H' b = none) → ∀ b ∈ fp, FpOk (X.blk s3 H3 scope ce fp) [] H' b := fun {σ' H' s'} I' hn b hb =>
    ⟨hn b hb, (I'.ok.exf b hb).1, I'.ok.exfs b hb, .inl hb, fun x c e => (I'.ok.exf b hb).2 x c e, fun q hq => absurd (show q ∈ ([] : List (Addr × Obj)) ++ [] from hq) (by simp)⟩
  have loop : codeAny (model X.prog X.w) X.A (.compLoop (.DictComp kx vx [⟨tg, iter, ifs, 0⟩] scope pos) 0 (.ref it) (.ref D) ce) (compPost (model X.prog X.w) X.A X.xe none (EP X pins σ Q) (.ref D) s3.heap.objs.size) s4 := by
    refine compLoop_anyD (fun n s' => ∃ i H', L2.Inv (X.blk s3 H3 scope ce fp) [] (wipe σ (own.map (·.2))) H' s' ∧ tn i s'.heap ∧ (∀ b ∈ fp, H' b = none) ∧ W i n H') ?_ m0 ⟨0, H3, I4, st4, nfp, w0⟩
    rintro n s5 ⟨i, H5, I5, st5, n5, w5⟩
    rcases turn i n H5 w5 with ⟨halt, fin⟩ | ⟨go, Nx, hNx, one⟩
    · refine thnF (T.done (X.blk s3 H3 scope ce fp) rfl rfl rfl hc i [] s5 _ H5 (fun _ _ => False) I5 (stands I5 n5) st5 halt) fun r s6 ⟨hr, I6⟩ => ?_
      subst hr
      have I7 : L2.Inv X pins σ H5 s6 := I3.call' (ch := fp) I6.os I6.base I6.hok I6.bare fun b hb => ⟨(f3 b hb).1.2.2.2.1, (f3 b hb).1.2.1, (f3 b hb).1.2.2.2.2.1, (f3 b hb).1.2.2.2.2.2⟩
      have nC : H5 s3.heap.objs.size = none := by
        have hf : H5 ce.locals = none := I6.free
        rw [cL] at hf
        exact hf
      obtain ⟨m, hn, _⟩ := I6.loc
      have hn : s6.heap.Ns ce.locals m := hn
      rw [cL] at hn
      obtain ⟨c0, c1, c2, c3, c4, c5⟩ := I3.fpOk (Nat.le_refl _) nC
      exact ⟨m, hn, fun h'' sb => ⟨.ref D, H5, I7.turned (t' := s6.toks) (fun b o hb e => (sb.2 b hb).trans e) c0 c1 c3 c4 c5, rfl, fin⟩⟩
    · refine thnF (T.item (X.blk s3 H3 scope ce fp) rfl rfl rfl hc i [] s5 _ H5 (fun _ _ => False) I5 (stands I5 n5) st5 go) fun r s6 ⟨u, hr, h6⟩ => ?_
      subst hr
      refine thnF h6 fun _ s7 ⟨x, H7, I7, r7, y7, st7, n7⟩ => ?_
      have I7' := I7.pinned (stands I7 n7) (T.obj _ _ st7)
      refine thnF (pg.run _ s7 _ H7 x u _ I7' r7 (one x H7 y7)) fun _ s8 ⟨σ8, H8, I8, hw8, q8⟩ => ?_
      refine thnF (pt.run _ s8 σ8 H8 _ I8 q8) fun b s9 ⟨H9, I9, q9⟩ => ?_
      have back : ∀ {s' : Shared} {H' : Hp}, L2.Inv (X.blk s3 H3 scope ce fp) ([] ++ pinsAt fp s7.heap) σ8 H' s' → Nx H' → ∃ m, m < n ∧ ∃ i H', L2.Inv (X.blk s3 H3 scope ce fp) [] (wipe σ (own.map (·.2))) H' s' ∧ tn i s'.heap ∧ (∀ b ∈ fp, H' b = none) ∧ W i m H' := fun {s' H'} I' nx => by
        obtain ⟨m', hm, w'⟩ := hNx H' nx
        have pinned : ∀ b ∈ fp, ∀ o, s7.heap.get? b = some o → s'.heap.get? b = some o ∧ H' b = none := fun b hb o e =>
          ⟨(I'.pin (b, o) (List.mem_append_right _ (List.mem_append_right _ (mem_pinsAt hb e)))).1, (I'.pin (b, o) (List.mem_append_right _ (List.mem_append_right _ (mem_pinsAt hb e)))).2.1⟩
        have sameLen : (wipe σ (own.map (·.2))).length = σ8.length := by rw [← hw8, wipe_length]
        refine ⟨m', hm, i + 1, H', (I'.unpinned (pins := [])).weak sameLen (fun j v e => ?_), T.keep _ _ _ st7 fun b hb o e => (pinned b hb o e).1, fun b hb => ?_, w'⟩
        · rw [← hw8] at e
          exact (wipe_some e).1
        · obtain ⟨o, e, _⟩ := T.obj _ _ st7 b hb
          exact (pinned b hb o e).2
      cases b with
      | false =>
        simp only [Bool.false_eq_true, if_false] at q9 ⊢
        exact back I9 q9
      | true =>
        simp only [if_true] at q9 ⊢
        refine thnF (pk.run _ s9 σ8 H9 _ I9 q9) fun z s10 ⟨yk, H10, I10, r10, q10⟩ => ?_
        refine thnF (pe.run _ s10 σ8 H10 _ I10 q10) fun z2 s11 ⟨yv, H11, I11, r11, kvs, k, c, ek, hcT, hD11, hz11, nx⟩ => ?_
        subst ek
        cases (show z = Value.ref c from r10)
        exact dT_put (X := X.blk s3 H3 scope ce fp) hu I11 hD11 hcT hz11 r11 fun s12 I12 => back I12 nx
  exact codeAny_compStart_dict loop (T.self X.A 0 _ _ _ st4 loop)
end
end K12

set_option maxHeartbeats 4000000
/-! == of two equal dicts whose keys are tuples. -/
namespace K12
open PySem PySem.Spec L2
section
variable {prog : Program} {w : World} {κ : Type} [DecidableEq κ] {knd : HeapKind prog w κ} {A : Around} {E : Value → Shared → Prop} {s : Shared}
theorem pairs_alike {nm : String} {a b : Addr} {xs ys : List (κ × Addr × Value)} {Q : Bool → Shared → Prop} (na : (a == sysModules) = false) (nb : (b == sysModules) = false) (room : knd.room A)
    (da : s.heap.DictOfH knd a xs) (db : s.heap.DictOfH knd b ys) (hl : xs.length = ys.length)
    (alike : ∀ (i : Nat) k (c : Addr) (v : Value), xs[i]? = some (k, c, v) → ∃ (j : Nat) (d : Addr) (u : Value), ys[j]? = some (k, d, u) ∧ SeqAt.EqAt A s v u true) (h : Q true s) : wpAny (model prog w) A (Builtin.Dict.samePairs nm a b) Q E s := by
  obtain ⟨oa, es, ep, ga, _, ta, la, ka, _⟩ := da
  obtain ⟨ob, fs, fp, gb, _, tb, lb, kb, ndb⟩ := db
  have za : es.size = xs.length := size_of_entries la
  have zb : fs.size = ys.length := size_of_entries lb
  unfold Builtin.Dict.samePairs Builtin.Dict.showsAll
  rw [if_neg (by rw [na]; decide), if_neg (by rw [nb]; decide)]
  refine wpAny_bind (wpAny_pure (wpAny_bind (wpAny_pure (wpAny_bind (wpAny_dictEntries ga ta ?_)))))
  dsimp only
  refine wpAny_bind (wpAny_dictEntries gb tb ?_)
  rw [if_neg (by simp [za, zb, hl])]
  refine wpAny_bind (wpAny_dictEpoch ga ta (wpAny_bind ?_))
  rw [Std.Legacy.Range.forIn_eq_forIn_range']
  simp only [Std.Legacy.Range.size, Nat.sub_zero, Nat.add_sub_cancel, Nat.div_one]
  refine wpAny_forIn_list _ (fun todo q s' => s' = s ∧ q = (none, ()) ∧ ∃ i, todo = List.range' i (es.size - i) ∧ i ≤ es.size) _ ?_ ?_ _ _ ⟨rfl, rfl, 0, by simp, Nat.zero_le _⟩
  · rintro x todo q s' ⟨rfl, rfl, i, hr, hi⟩
    have lt : i < es.size := by
      rcases Nat.lt_or_ge i es.size with h | h
      · exact h
      · rw [Nat.sub_eq_zero_of_le h] at hr
        cases hr
    have cut : es.size - i = (es.size - (i + 1)) + 1 := by omega
    rw [cut, List.range'_succ] at hr
    injection hr with hx ht
    subst hx
    refine wpAny_bind (wpAny_dictEntries ga ta ?_)
    have xlt : x < xs.length := by omega
    obtain ⟨k, c, v, ekv⟩ : ∃ k c v, xs[x] = (k, c, v) := ⟨_, _, _, rfl⟩
    have getx : xs[x]? = some (k, c, v) := by rw [List.getElem?_eq_getElem xlt, ekv]
    have ent : es[x]? = some ⟨knd.hash k, .ref c, v⟩ := by rw [entry_at la x, getx]; rfl
    have isk : knd.is s'.heap k c := ka _ (List.mem_of_getElem? getx)
    obtain ⟨j, d, u, gety, eqv⟩ := alike x k c v getx
    rw [ent]
    show wpAny _ _ (holding [Value.ref c, v] _ >>= _) _ _ _
    refine wpAny_bind (wpAny_holding (wpAny_bind (wpAny_dictFind_heap room isk gb tb lb kb ndb (fun no => absurd gety (no j (d, u))) fun j' p' gety' => ?_)))
    have sj := idxH_unique ndb gety gety'
    subst sj
    rw [gety] at gety'
    cases gety'
    refine wpAny_bind (wpAny_dictEntries gb tb ?_)
    have entb : fs[j]? = some ⟨knd.hash k, .ref d, u⟩ := by rw [entry_at lb j, gety]; rfl
    rw [entb]
    refine wpAny_holding (eqv prog w _ _ ?_)
    show wpAny _ _ (if (!true) = true then _ else _) _ _ _
    rw [if_neg (by decide)]
    refine wpAny_bind (wpAny_dictEpoch ga ta ?_)
    rw [if_neg (by simp)]
    exact wpAny_pure ⟨rfl, rfl, x + 1, ht, lt⟩
  · rintro q s' ⟨rfl, rfl, i, hr, hi⟩
    exact wpAny_pure h
theorem eq_alikeT {a b : Addr} {xs ys : List (κ × Addr × Value)} {Q : Value → Shared → Prop} (na : (a == sysModules) = false) (nb : (b == sysModules) = false) (hu : A.units < cLine) (room : knd.room A.in1)
    (da : s.heap.DictOfH knd a xs) (db : s.heap.DictOfH knd b ys) (hl : xs.length = ys.length)
    (alike : ∀ (i : Nat) k (c : Addr) (v : Value), xs[i]? = some (k, c, v) → ∃ (j : Nat) (d : Addr) (u : Value), ys[j]? = some (k, d, u) ∧ SeqAt.EqAt A.in1 s v u true) (h : Q (.bool true) s) : wpAny (model prog w) A (compareOp .Eq (.ref a) (.ref b)) Q E s := by
  refine wpAny_richCompare_same_room (op := .Eq) da.typeIs db.typeIs PySem.F.slot_dict_eq (wpAny_call_entry PySem.F.slot_dict_eq da.typeIs PySem.F.entry_dict_eq ?_ (PySem.F.args_dict_eq_2 _ _)) hu
  show wpAny _ _ (Builtin.Dict.dictSlotArgs "__eq__" ⟨[.ref a, .ref b], []⟩ >>= _) _ _ s
  unfold Builtin.Dict.dictSlotArgs
  refine wpAny_bind (wpAny_bind (wpAny_notOrdered_dict da.typeIs ?_))
  show wpAny _ _ (pure (Value.ref a, Value.ref b)) _ _ s
  refine wpAny_pure (wpAny_bind (wpAny_isInstance (T := "dict") db.typeIs PySem.F.sub_dict_dict ?_))
  simp only [Bool.not_true, Bool.false_eq_true, if_false]
  refine wpAny_bind (wpAny_pure (wpAny_bind (wpAny_pure (wpAny_bind (pairs_alike na nb room da db hl alike ?_)))))
  exact wpAny_pure ⟨_, rfl, fun z => (nomatch z), h⟩
end
section
variable {X : Cx}
/-- d == e: the same pairs, whatever their order; the values are texts and the like -/
def rEqT : R2 := fun x y H Q => ∃ a b ks ls, x = .ref a ∧ y = .ref b ∧ H a = some (.dT ks) ∧ H b = some (.dT ls) ∧ ks.length = ls.length ∧ (∀ p ∈ ks, valV ls p.1 = some p.2 ∧ flatB p.2 = true) ∧ Q (.bl true) H
theorem KT.at {H : Hp} {kvs : List (List Key × V)} {xs : List (List Key × Addr × Value)} (r : KT H kvs xs) : ∀ {i : Nat} {k : List Key} {c : Addr} {v : Value}, xs[i]? = some (k, c, v) → ∃ y, (k, y) ∈ kvs ∧ L2.RelV y v := by
  induction r with
  | nil => intro i k c v e; cases e
  | @cons p q ps qs h t ih =>
    intro i k c v e
    cases i with
    | zero =>
      have e' : q = (k, c, v) := by simpa using e
      subst e'
      have h1 : p.1 = k := h.1
      exact ⟨p.2, by rw [← h1]; exact List.mem_cons_self, h.2.2⟩
    | succ i =>
      obtain ⟨y, h1, h2⟩ := ih (i := i) (by simpa using e)
      exact ⟨y, List.mem_cons_of_mem _ h1, h2⟩
theorem atKey_ix {xs : List (List Key × Addr × Value)} {k : List Key} {p : Addr × Value} (h : atKey xs k = some p) : ∃ j : Nat, xs[j]? = some (k, p) := by
  unfold atKey at h
  obtain ⟨x, hx, ep⟩ := Option.map_eq_some_iff.mp h
  have e1 : x.1 = k := by
    have := List.find?_some hx
    simpa using this
  obtain ⟨j, hj⟩ := List.getElem?_of_mem (List.mem_of_find?_eq_some hx)
  refine ⟨j, ?_⟩
  rw [hj, ← e1, ← ep]
theorem op_eqT (hu : X.A.units + 1 < cLine) : OpR X (compareOp .Eq) rEqT := by
  intro pins s σ H x y v u Q I rx ry hyp
  obtain ⟨a, b, ks, ls, rfl, rfl, ea, eb, hlen, hp, q⟩ := hyp
  cases (show v = Value.ref a from rx)
  cases (show u = Value.ref b from ry)
  obtain ⟨_, ya, va, ra, da⟩ := dt_of I.hok ea
  obtain ⟨_, yb, vb, rb, db⟩ := dt_of I.hok eb
  have hl : va.length = vb.length := by rw [← Paired.length ra, ← Paired.length rb]; exact hlen
  refine eq_alikeT (knd := tupleKind (mixKind X.prog X.w)) ya yb (by omega) (show X.A.in1.units < cLine from hu) da db hl (fun i k c v e => ?_) (fin_bl I q rfl)
  obtain ⟨y, hy, ry⟩ := KT.at ra e
  obtain ⟨g1, g2⟩ := hp _ hy
  obtain ⟨u', hu', ru'⟩ := RelO.some_of (v := y) (o := (atKey vb k).map (·.2)) (by rw [← g1]; exact rb.val k)
  obtain ⟨pp, hpp, ep⟩ := Option.map_eq_some_iff.mp hu'
  obtain ⟨j, hj⟩ := atKey_ix hpp
  refine ⟨j, pp.1, pp.2, hj, ?_⟩
  rw [ep]
  exact eqAt_same ry ru' g2
end
end K12

set_option maxHeartbeats 4000000
/-! list(d.items()) of any dict, list(d.values()), list(text). -/
namespace K12
open PySem PySem.Spec L2
/-- the entries of a tracked dict as pairs of values; a tuple key by its address -/
def Ents (H : Hp) (d : Addr) (l : List (V × V)) : Prop :=
  (∃ kvs, H d = some (.dK kvs) ∧ l = kvs.map fun q => (kV q.1, q.2)) ∨
    ∃ kvs : List (List Key × V), H d = some (.dT kvs) ∧ Paired (fun (q : List Key × V) (e : V × V) => ∃ c, e.1 = .ref c ∧ H c = some (.tup (q.1.map kV)) ∧ e.2 = q.2) kvs l
def IsDct (H : Hp) (d : Addr) : Prop := (∃ kvs, H d = some (.dK kvs)) ∨ ∃ kvs, H d = some (.dT kvs)
def putL : Hp → List (Addr × HO) → Hp
  | H, [] => H
  | H, q :: r => putL (upd H q.1 q.2) r
theorem putL_off {b : Addr} : ∀ (l : List (Addr × HO)) (H : Hp), b ∉ l.map (·.1) → putL H l b = H b
  | [], _, _ => rfl
  | q :: r, H, h => by
    show putL (upd H q.1 q.2) r b = H b
    rw [putL_off r _ (fun z => h (List.mem_cons_of_mem _ z)), upd_ne (fun z => h (by rw [z]; exact List.mem_cons_self))]
theorem putL_at : ∀ (l : List (Addr × HO)) (H : Hp) {a : Addr} {o : HO}, (l.map (·.1)).Nodup → (a, o) ∈ l → putL H l a = some o
  | [], _, _, _, _, m => by cases m
  | q :: r, H, a, o, nd, m => by
    have nd' := List.nodup_cons.mp nd
    rcases List.mem_cons.mp m with e | m
    · subst e
      show putL (upd H a o) r a = some o
      rw [putL_off r _ nd'.1, upd_same]
    · exact putL_at r _ nd'.2 m
section
variable {X : Cx} {pins : List (Addr × Obj)} {σ : L2.St} {H : Hp} {s : Shared}
theorem raw_of (I : L2.Inv X pins σ H s) {d : Addr} (h : IsDct H d) : ∃ es ep l, s.heap.DictRaw d es ep ∧ (d == sysModules) = false ∧ Ents H d l ∧ es.size = l.length ∧ l.length ≤ sizeLine ∧
    ∀ (j : Nat) (e : DictEntry), es[j]? = some e → ∃ k v, l[j]? = some (k, v) ∧ L2.RelV k e.key ∧ L2.RelV v e.val := by
  rcases h with ⟨kvs, h⟩ | ⟨kvs, h⟩
  · obtain ⟨z, n, vs, rel, dd⟩ := dk_of I.hok h
    obtain ⟨es, ep, hr, hs, he⟩ := dd.raw
    have lk : kvs.length = vs.length := Paired.length rel
    refine ⟨es, ep, kvs.map fun q => (kV q.1, q.2), hr, n, .inl ⟨kvs, h, rfl⟩, by rw [List.length_map, hs, lk], by rw [List.length_map]; exact z, fun j e hj => ?_⟩
    obtain ⟨hj1, hj2⟩ := Array.getElem?_eq_some_iff.mp hj
    have jk : j < kvs.length := by omega
    obtain ⟨q, hq1, hq2⟩ := L2.paired_get rel (List.getElem?_eq_getElem jk)
    obtain ⟨g1, g2⟩ := he j hj1 q.1 q.2 hq1
    refine ⟨kV kvs[j].1, kvs[j].2, by rw [List.getElem?_map, List.getElem?_eq_getElem jk]; rfl, ?_, ?_⟩
    · rw [← hj2, hq2.1]
      exact relV_key g1
    · rw [← hj2, g2]
      exact hq2.2
  · obtain ⟨z, n, xs, rel, dd⟩ := dt_of I.hok h
    obtain ⟨es, ep, hr, hs, he⟩ := dd.raw
    have lk : kvs.length = xs.length := Paired.length rel
    have pr : ∃ l : List (V × V), Paired (fun (q : List Key × V) (e : V × V) => ∃ c, e.1 = .ref c ∧ H c = some (.tup (q.1.map kV)) ∧ e.2 = q.2) kvs l ∧ Paired (fun (e : V × V) (x : List Key × Addr × Value) => e.1 = .ref x.2.1 ∧ L2.RelV e.2 x.2.2) l xs := by
      clear lk he hs hr dd h z
      induction rel with
      | nil => exact ⟨[], .nil, .nil⟩
      | @cons p q ps qs hq t ih =>
        obtain ⟨l, h1, h2⟩ := ih
        exact ⟨(.ref q.2.1, p.2) :: l, .cons ⟨q.2.1, rfl, hq.2.1, rfl⟩ h1, .cons ⟨rfl, hq.2.2⟩ h2⟩
    obtain ⟨l, p1, p2⟩ := pr
    have ll : kvs.length = l.length := Paired.length p1
    refine ⟨es, ep, l, hr, n, .inr ⟨kvs, h, p1⟩, by omega, by omega, fun j e hj => ?_⟩
    obtain ⟨hj1, hj2⟩ := Array.getElem?_eq_some_iff.mp hj
    have jl : j < l.length := by omega
    obtain ⟨x, hx1, hx2⟩ := L2.paired_get p2 (List.getElem?_eq_getElem jl)
    obtain ⟨y, hy1, hy2, hy3, _⟩ := he j hj1
    rw [hx1] at hy1
    cases hy1
    refine ⟨l[j].1, l[j].2, List.getElem?_eq_getElem jl, ?_, ?_⟩
    · rw [← hj2, hy2, hx2.1]
      rfl
    · rw [← hj2, hy3]
      exact hx2.2
end
section
variable {X : Cx}
/-- d.items(): a view -/
def rItems : V → List V → Hp → VK → Prop := fun x xs H Q => ∃ a, x = .ref a ∧ xs = [] ∧ IsDct H a ∧ ∀ p, H p = none → Q (.ref p) (upd H p (L2.DX.itemsO p a))
theorem mt_items : MtR X "dict.items" rItems := by
  intro pins s σ H x xs v us Q I rx rxs hyp
  obtain ⟨a, rfl, rfl, ha, q⟩ := hyp
  cases (show v = Value.ref a from rx)
  cases rxs
  obtain ⟨es, ep, l, hr, n, _⟩ := raw_of I ha
  refine DT.callItems (es := es) (ep := ep) n hr ?_
  have fresh : H s.heap.objs.size = none := I.hok.fresh (Nat.le_refl _)
  exact ⟨.ref s.heap.objs.size, _, I.laid (t' := s.toks) (o := L2.DX.itemsO s.heap.objs.size a) (fun b u e => Heap.get?_push_of_some _ e) (Nat.le_refl _) (L2.DX.itemsO_ok (Heap.get?_push_size _ rfl)), rfl, q _ fresh⟩
/-- list(view) -/
def rListItems : List V → Hp → VK → Prop := fun xs H Q => ∃ p d, xs = [.ref p] ∧ H p = some (L2.DX.itemsO p d) ∧ IsDct H d ∧
  ∀ (l : List (V × V)) (H' : Hp) (q : Addr) (ts : List Addr), Ents H d l → Same H H' → H q = none → H' q = some (.lst (ts.map V.ref)) → (∀ t ∈ ts, H t = none) → Paired (fun (t : Addr) (e : V × V) => H' t = some (.tup [e.1, e.2])) ts l → Q (.ref q) H'
theorem refsR : ∀ as : List Addr, Vals (as.map V.ref) (as.map Value.ref)
  | [] => .nil
  | _ :: as => .cons rfl (refsR as)
theorem call_listItems (hc : X.calm = true) : CallR X (.type "list") rListItems := by
  intro pins s σ H xs us Q I r hyp
  obtain ⟨p, d, rfl, hp, hd, q⟩ := hyp
  obtain ⟨u, rfl, rx⟩ := vals1 r
  cases (show u = Value.ref p from rx)
  have view : s.heap.IsItemsView p d := (show ObjOk X.prog X.w H s.heap p (L2.DX.itemsO p d) from I.hok p _ hp).1
  obtain ⟨es, ep, l, hr, n, hl, hs, hz, he⟩ := raw_of I hd
  refine PySem.W.dil_call (es := es) (ep := ep) (I.ok.hd hc) view hr (by omega) fun h' tk acc c as keep hS lenA G hacc => ?_
  -- the new list, its tuples
  have ndA : as.Nodup := G.rise.imp (fun {a b} (h : a < b) => Nat.ne_of_lt h)
  have fresh : H s.heap.objs.size = none := I.hok.fresh (Nat.le_refl _)
  have freshA : ∀ t ∈ as, H t = none := fun t ht => I.hok.fresh (Nat.le_of_lt (G.above t ht))
  have offS : s.heap.objs.size ∉ as := fun z => Nat.lt_irrefl _ (G.above _ z)
  let new : List (Addr × HO) := (as.zip l).map fun z => (z.1, HO.tup [z.2.1, z.2.2])
  have la : as.length = l.length := by omega
  have new1 : new.map (·.1) = as := by
    show ((as.zip l).map fun z => (z.1, HO.tup [z.2.1, z.2.2])).map (·.1) = as
    rw [List.map_map]
    exact List.map_fst_zip (by omega)
  let H0 := upd H s.heap.objs.size (.lst (as.map V.ref))
  let H' := putL H0 new
  have off : ∀ b, b ∉ as → b ≠ s.heap.objs.size → H' b = H b := fun b h1 h2 => by
    show putL H0 new b = H b
    rw [putL_off new _ (by rw [new1]; exact h1)]
    exact upd_ne h2
  have sm : Same H H' := fun b o e => by
    rw [off b (fun z => by rw [freshA b z] at e; cases e) (fun z => by rw [z, fresh] at e; cases e)]
    exact e
  have atS : H' s.heap.objs.size = some (.lst (as.map V.ref)) := by
    show putL H0 new s.heap.objs.size = _
    rw [putL_off new _ (by rw [new1]; exact offS)]
    exact upd_same
  have atN : ∀ (j : Nat) t k v, as[j]? = some t → l[j]? = some (k, v) → H' t = some (.tup [k, v]) := fun j t k v h1 h2 => by
    refine putL_at new H0 (by rw [new1]; exact ndA) ?_
    refine List.mem_map.mpr ⟨(t, (k, v)), ?_, rfl⟩
    have : (as.zip l)[j]? = some (t, (k, v)) := List.getElem?_zip_eq_some.mpr ⟨h1, h2⟩
    exact List.mem_of_getElem? this
  have hpair : Paired (fun (t : Addr) (e : V × V) => H' t = some (.tup [e.1, e.2])) as l := by
    have gen : ∀ (as' : List Addr) (l' : List (V × V)), as'.length = l'.length → (∀ (j : Nat) t k v, as'[j]? = some t → l'[j]? = some (k, v) → H' t = some (.tup [k, v])) → Paired (fun (t : Addr) (e : V × V) => H' t = some (.tup [e.1, e.2])) as' l' := by
      intro as'
      induction as' with
      | nil =>
        intro l' h1 _
        cases l' with
        | nil => exact .nil
        | cons => simp at h1
      | cons a as' ih =>
        intro l' h1 h2
        cases l' with
        | nil => simp at h1
        | cons e l' => exact .cons (h2 0 a e.1 e.2 rfl rfl) (ih l' (by simpa using h1) fun j t k v g1 g2 => h2 (j + 1) t k v (by simpa using g1) (by simpa using g2))
    exact gen as l la atN
  have J : L2.Inv X pins σ H' { s with heap := h', toks := tk } := by
    refine I.call' (ch := []) rfl ⟨fun b o e _ _ _ => keep b o e, fun b o e _ _ _ => ⟨o.slots, keep b o e⟩, fun b o e n1 _ => ?_, fun b o e _ => ⟨o, keep b o e⟩, fun b ys e => sm b _ e, fun b o u e => sm b _ e, fun b ps e => ⟨#[], by rw [sm b _ e]; simp⟩⟩ (fun b u e => ?_) I.bare fun b z => by simp at z
    · rw [off b (fun z => absurd (Heap.lt_size e) (Nat.not_lt.mpr (Nat.le_of_lt (G.above b z)))) (Nat.ne_of_lt (Heap.lt_size e))]
      exact n1
    · by_cases hb : b ∈ as
      · obtain ⟨j, hj⟩ := List.getElem?_of_mem hb
        have jl : j < l.length := by rw [← la]; exact (List.getElem?_eq_some_iff.mp hj).1
        have gl : l[j]? = some (l[j].1, l[j].2) := List.getElem?_eq_getElem jl
        have ht := atN j b _ _ hj gl
        rw [ht] at e
        cases e
        obtain ⟨hj', g⟩ := G.pairs j b hj
        obtain ⟨k, v, e1, e2, e3⟩ := he j es[j] (Array.getElem?_eq_getElem hj')
        rw [gl] at e1
        cases e1
        exact ⟨by show 2 ≤ sizeLine; decide, _, .cons e2 (.cons e3 .nil), ⟨_, g, rfl, _, rfl⟩⟩
      · by_cases hb2 : b = s.heap.objs.size
        · subst hb2
          rw [atS] at e
          cases e
          exact ⟨by rw [List.length_map]; omega, acc.toList, c, by rw [hacc]; exact refsR as, by rw [Array.toArray_toList]; exact hS⟩
        · rw [off b hb hb2] at e
          exact (I.hok b u e).stay (fun d v _ y => keep d v y) (fun d y => sm d _ y) fun d ys y => sm d _ y
  exact ⟨.ref s.heap.objs.size, H', J, rfl, q l H' _ as hl sm fresh atS freshA hpair⟩

/-- d.values(): a view; list of it -/
def valuesO (p d : Addr) : HO := .ext fun h => h.IsValuesView p d
def rValues : V → List V → Hp → VK → Prop := fun x xs H Q => ∃ a, x = .ref a ∧ xs = [] ∧ IsDct H a ∧ ∀ p, H p = none → Q (.ref p) (upd H p (valuesO p a))
theorem mt_values : MtR X "dict.values" rValues := by
  intro pins s σ H x xs v us Q I rx rxs hyp
  obtain ⟨a, rfl, rfl, ha, q⟩ := hyp
  cases (show v = Value.ref a from rx)
  cases rxs
  obtain ⟨es, ep, l, hr, n, _⟩ := raw_of I ha
  refine call_meetsIn PySem.F.slot_dict_values hr.typeIs PySem.F.entry_dict_values (PySem.F.args_dict_values_1 _) (meets_dict_values_raw a n) ⟨⟨es, ep, hr⟩, ?_⟩
  have fresh : H s.heap.objs.size = none := I.hok.fresh (Nat.le_refl _)
  exact ⟨.ref s.heap.objs.size, _, I.laid (t' := s.toks) (o := valuesO s.heap.objs.size a) (fun b u e => Heap.get?_push_of_some _ e) (Nat.le_refl _) ⟨⟨_, Heap.get?_push_size _ rfl, rfl, rfl⟩, ⟨_, Heap.get?_push_size _ rfl⟩, fun h1 h2 x k => let ⟨o, ho, r⟩ := x; ⟨o, k o ho, r⟩⟩, rfl, q _ fresh⟩
def rListValues : List V → Hp → VK → Prop := fun xs H Q => ∃ p d kvs, xs = [.ref p] ∧ H p = some (valuesO p d) ∧ H d = some (.dK kvs) ∧ ∀ q, H q = none → Q (.ref q) (upd H q (.lst (kvs.map (·.2))))
theorem call_listValues (hc : X.calm = true) : CallR X (.type "list") rListValues := by
  intro pins s σ H xs us Q I r hyp
  obtain ⟨p, d, kvs, rfl, hp, hd, q⟩ := hyp
  obtain ⟨u, rfl, rx⟩ := vals1 r
  cases (show u = Value.ref p from rx)
  have view : s.heap.IsValuesView p d := (show ObjOk X.prog X.w H s.heap p (valuesO p d) from I.hok p _ hp).1
  obtain ⟨es, ep, l, hr, n, hl, hs, hz, he⟩ := raw_of I (.inl ⟨kvs, hd⟩)
  have el : l = kvs.map fun q => (kV q.1, q.2) := by
    rcases hl with ⟨k2, h2, e⟩ | ⟨k2, h2, _⟩
    · rw [hd] at h2; cases h2; exact e
    · rw [hd] at h2; cases h2
  refine PySem.W.kdl_call (PySem.KdlSrc.rawValues (es := es) (ep := ep)) (I.ok.hd hc) ⟨view, hr⟩ (by omega) fun h' tk acc c keep hS hacc => ?_
  have fresh : H s.heap.objs.size = none := I.hok.fresh (Nat.le_refl _)
  refine ⟨.ref s.heap.objs.size, _, I.laid (t' := tk) (o := .lst (kvs.map (·.2))) keep (Nat.le_refl _) ⟨?_, acc.toList, c, ?_, by rw [Array.toArray_toList]; exact hS⟩, rfl, q _ fresh⟩
  · rw [List.length_map]
    rw [el, List.length_map] at hz
    exact hz
  · have lac : acc.toList.length = acc.size := by simp
    refine vals_of_at (by rw [List.length_map, lac, hacc.1, hs, el, List.length_map]) fun j x w g1 g2 => ?_
    obtain ⟨hj, ew⟩ := hacc.2 j w (by rw [← Array.getElem?_toList]; exact g2)
    obtain ⟨k, v, e1, e2, e3⟩ := he j es[j] (Array.getElem?_eq_getElem hj)
    rw [el, List.getElem?_map] at e1
    rw [List.getElem?_map] at g1
    obtain ⟨y, hy, ey⟩ := Option.map_eq_some_iff.mp g1
    rw [hy] at e1
    cases e1
    rw [ew, ← ey]
    exact e3

/-- list(text) -/
def rListStr : List V → Hp → VK → Prop := fun xs H Q => ∃ z : Str, xs = [.str z] ∧ z.cps.size ≤ sizeLine ∧ ∀ q, H q = none → Q (.ref q) (upd H q (.lst (z.cps.toList.map fun c => V.str ⟨#[c]⟩)))
theorem call_listStr (hc : X.calm = true) : CallR X (.type "list") rListStr := by
  intro pins s σ H xs us Q I r hyp
  obtain ⟨z, rfl, hz, q⟩ := hyp
  obtain ⟨u, rfl, rx⟩ := vals1 r
  obtain ⟨t, rfl⟩ := (show ∃ t, u = Value.str z t from rx)
  refine PySem.call_list_str (I.ok.hd hc) z t (hn := hz) fun h' tk acc c keep hS hacc => ?_
  have fresh : H s.heap.objs.size = none := I.hok.fresh (Nat.le_refl _)
  refine ⟨.ref s.heap.objs.size, _, I.laid (t' := tk) (o := .lst (z.cps.toList.map fun c => V.str ⟨#[c]⟩)) keep (Nat.le_refl _) ⟨by rw [List.length_map, Array.length_toList]; exact hz, acc.toList, c, ?_, by rw [Array.toArray_toList]; exact hS⟩, rfl, q _ fresh⟩
  have lac : acc.toList.length = acc.size := by simp
  refine vals_of_at (by rw [List.length_map, lac, hacc.1]; simp) fun j x w g1 g2 => ?_
  obtain ⟨c', u', hc', ew⟩ := hacc.2 j w (by rw [← Array.getElem?_toList]; exact g2)
  rw [List.getElem?_map, Array.getElem?_toList, hc'] at g1
  cases g1
  rw [ew]
  exact ⟨_, rfl⟩
end
end K12

set_option maxHeartbeats 4000000
/-! Short forms of readings, and how kinds and settings stand in a heap. -/
namespace K12
open PySem PySem.Spec L2
theorem isi_ {K : PySem.W.Frag} {H : Hp} {Q : VK} {x : V} {n T : String} {b : Bool} (h : TyOf K H x (.type T)) (k : kitB T n = some b) (q : Q (.bl b) H) : rIsi K [x, .ty n] H Q :=
  ⟨x, .ty n, .type T, .type n, b, rfl, .ty n, .base h, kit_ty k, q⟩
theorem ifT {P R : Prop} (h : P) : (if true = true then P else R) := by rw [if_pos rfl]; exact h
theorem ifF {P R : Prop} (h : R) : (if false = true then P else R) := by rw [if_neg Bool.false_ne_true]; exact h
/-- a list that grows, all else kept -/
structure Ac (H : Hp) (D : Addr) (xs : List V) (H1 : Hp) : Prop where
  sm : Same H H1
  nw : H D = none
  at_ : H1 D = some (.lst xs)
theorem Ac.start {H : Hp} {D : Addr} (n : H D = none) : Ac H D [] (upd H D (.lst [])) := ⟨same_new n, n, upd_same⟩
theorem Ac.step {H H1 H2 : Hp} {D : Addr} {xs ys : List V} {y : V} (h : Ac H D xs H1) (s : Same H1 H2) (l : xs.length < sizeLine) (e : ys = xs ++ [y]) : ∃ acc, H2 D = some (.lst acc) ∧ acc.length < sizeLine ∧ Ac H D ys (upd H2 D (.lst (acc ++ [y]))) :=
  ⟨xs, s _ _ h.at_, l, Same.upd0 (h.sm.trans s) h.nw, h.nw, by rw [e]; exact upd_same⟩
theorem Ac.sml {H H1 H2 : Hp} {D : Addr} {xs : List V} (h : Ac H D xs H1) (s : Same H1 H2) : Ac H D xs H2 := ⟨h.sm.trans s, h.nw, s _ _ h.at_⟩
structure AcX (p : Addr) (c : Nat) (H : Hp) (D : Addr) (xs : List V) (H1 : Hp) : Prop where
  ex : Ext p c H H1
  nw : H D = none
  ne : D ≠ p
  at_ : H1 D = some (.lst xs)
theorem AcX.start {p : Addr} {H : Hp} {D : Addr} (n : H D = none) (ne : D ≠ p) : AcX p 0 H D [] (upd H D (.lst [])) := ⟨.of (same_new n), n, ne, upd_same⟩
theorem AcX.step {p : Addr} {c d e' : Nat} {H H1 H2 : Hp} {D : Addr} {xs ys : List V} {y : V} (h : AcX p c H D xs H1) (s : Ext p d H1 H2) (l : xs.length < sizeLine) (e : ys = xs ++ [y]) (hc : c + d ≤ e') :
    ∃ acc, H2 D = some (.lst acc) ∧ acc.length < sizeLine ∧ AcX p e' H D ys (upd H2 D (.lst (acc ++ [y]))) :=
  ⟨xs, s.keep _ _ h.ne h.at_, l, Ext.upd0 ((h.ex.trans s).mono hc) h.nw, h.nw, h.ne, by rw [e]; exact upd_same⟩
theorem AcX.exl {p : Addr} {c d e' : Nat} {H H1 H2 : Hp} {D : Addr} {xs : List V} (h : AcX p c H D xs H1) (s : Ext p d H1 H2) (hc : c + d ≤ e') : AcX p e' H D xs H2 := ⟨(h.ex.trans s).mono hc, h.nw, h.ne, s.keep _ _ h.ne h.at_⟩
theorem take_map_succ {α β : Type} {xs : List α} {i : Nat} {x : α} (f : α → β) (h : xs[i]? = some x) : (xs.take (i + 1)).map f = (xs.take i).map f ++ [f x] := by
  rw [List.take_add_one, h, List.map_append]
  rfl
/-- all of a list of trues -/
abbrev trs (n : Nat) : List V := (List.replicate n true).map V.bl
theorem trs_succ (n : Nat) : trs (n + 1) = trs n ++ [.bl true] := by
  unfold trs
  rw [List.replicate_succ', List.map_append]
  rfl
theorem trs_len (n : Nat) : (trs n).length = n := by unfold trs; rw [List.length_map, List.length_replicate]
theorem Ac.tr {H H1 H2 : Hp} {D : Addr} {i : Nat} (h : Ac H D (trs i) H1) (s : Same H1 H2) (l : i < sizeLine) : ∃ acc, H2 D = some (.lst acc) ∧ acc.length < sizeLine ∧ Ac H D (trs (i + 1)) (upd H2 D (.lst (acc ++ [.bl true]))) :=
  h.step s (by rw [trs_len]; exact l) (trs_succ i)
theorem Ac.all {K : PySem.W.Frag} {H H1 : Hp} {D : Addr} {n : Nat} {Q : VK} (h : Ac H D (trs n) H1) (q : ∀ H', Same H H' → Q (.bl true) H') : rAll K [.ref D] H1 Q :=
  ⟨D, List.replicate n true, rfl, SqL.of h.at_, by
    have : (List.replicate n true).all id = true := by rw [List.all_eq_true]; intro x hx; exact (List.mem_replicate.mp hx).2
    rw [this]
    exact q _ h.sm⟩
theorem ltsD {i j : Int} {Q : VK} {H : Hp} {c : Bool} (e : decide (i < j) = c) (q : Q (.bl c) H) : Q (.bl (decide (i < j))) H := by rw [e]; exact q
/-- the kinds g as an instance -/
def KsAt (a : Ad) (p x : Addr) (H : Hp) (g : Sg) : Prop := ∃ dx d l, x ≠ p ∧ d ≠ p ∧ l ≠ p ∧ H x = some (.ins a.CK dx [("told", .ref d), ("names", .ref l)]) ∧ H d = some (.dT (grid g.ks g.mul)) ∧ H l = some (.lst (g.ks.map V.str))
def SsAt (a : Ad) (p x : Addr) (H : Hp) (g : Sg) : Prop := ∃ dx k d l e, x ≠ p ∧ d ≠ p ∧ l ≠ p ∧ e ≠ p ∧ H x = some (.ins a.CS dx [("sorts", .ref k), ("named", .ref d), ("again", .ref l), ("known", .ref e)]) ∧ KsAt a p k H g ∧
  H d = some (.dK (dents g.ds)) ∧ H l = some (.lst (g.tw.map V.str)) ∧ H e = some (.dK [])
/-- a setting as the law holds it -/
def LsAt (p x : Addr) (H : Hp) (g : Sg) : Prop := ∃ t d l, x ≠ p ∧ t ≠ p ∧ d ≠ p ∧ l ≠ p ∧ H x = some (.lst [.ref t, .ref d, .ref l]) ∧ H t = some (.dT (grid g.ks g.mul)) ∧ H d = some (.dK (dents g.ds)) ∧ H l = some (.lst (g.tw.map V.str))
theorem KsAt.keep {a : Ad} {p x : Addr} {H H' : Hp} {g : Sg} (k : ∀ b o, b ≠ p → H b = some o → H' b = some o) (h : KsAt a p x H g) : KsAt a p x H' g := by
  obtain ⟨dx, d, l, n1, n2, n3, e1, e2, e3⟩ := h
  exact ⟨dx, d, l, n1, n2, n3, k _ _ n1 e1, k _ _ n2 e2, k _ _ n3 e3⟩
theorem KsAt.sm {a : Ad} {p x : Addr} {H H' : Hp} {g : Sg} (h : KsAt a p x H g) (s : Same H H') : KsAt a p x H' g := h.keep fun b o _ e => s b o e
theorem SsAt.keep {a : Ad} {p x : Addr} {H H' : Hp} {g : Sg} (k : ∀ b o, b ≠ p → H b = some o → H' b = some o) (h : SsAt a p x H g) : SsAt a p x H' g := by
  obtain ⟨dx, kk, d, l, e, n1, n2, n3, n4, e1, hk, e2, e3, e4⟩ := h
  exact ⟨dx, kk, d, l, e, n1, n2, n3, n4, k _ _ n1 e1, hk.keep k, k _ _ n2 e2, k _ _ n3 e3, k _ _ n4 e4⟩
theorem SsAt.sm {a : Ad} {p x : Addr} {H H' : Hp} {g : Sg} (h : SsAt a p x H g) (s : Same H H') : SsAt a p x H' g := h.keep fun b o _ e => s b o e
theorem SsAt.up {a : Ad} {p x : Addr} {c : Nat} {H H' : Hp} {g : Sg} (h : SsAt a p x H g) (s : Ext p c H H') : SsAt a p x H' g := h.keep s.keep
theorem KsAt.up {a : Ad} {p x : Addr} {c : Nat} {H H' : Hp} {g : Sg} (h : KsAt a p x H g) (s : Ext p c H H') : KsAt a p x H' g := h.keep s.keep
theorem LsAt.keep {p x : Addr} {H H' : Hp} {g : Sg} (k : ∀ b o, b ≠ p → H b = some o → H' b = some o) (h : LsAt p x H g) : LsAt p x H' g := by
  obtain ⟨t, d, l, n1, n2, n3, n4, e1, e2, e3, e4⟩ := h
  exact ⟨t, d, l, n1, n2, n3, n4, k _ _ n1 e1, k _ _ n2 e2, k _ _ n3 e3, k _ _ n4 e4⟩
theorem LsAt.sm {p x : Addr} {H H' : Hp} {g : Sg} (h : LsAt p x H g) (s : Same H H') : LsAt p x H' g := h.keep fun b o _ e => s b o e
theorem LsAt.up {p x : Addr} {c : Nat} {H H' : Hp} {g : Sg} (h : LsAt p x H g) (s : Ext p c H H') : LsAt p x H' g := h.keep s.keep
end K12

set_option maxHeartbeats 4000000
/-! The program: words, kinds. -/
namespace K12
open PySem PySem.Spec L2
section
variable {P : Program} {w : World} {K : PySem.W.Frag} {mg : Str → Option Value} {base : Heap} {a : Ad} {n : Nat}
def spWord : Sp := fun vs H Q _ => ∃ z, vs = [.str z] ∧ isWord z ∧ ∀ H', Same H H' → Q (.bl true) H'
theorem szl : 4096 ≤ sizeLine := by decide
theorem sc_is_word : FnScope ["value", "letter"] ["value"] (defScope s_is_word) := ⟨rfl, rfl, rfl, by decide +kernel, rfl, by decide +kernel, by decide +kernel⟩
theorem bd_is_word : BindsOf "is_word" "is_word" s_is_word ["value"] := fun _ _ _ _ _ _ us hl => match us, hl with | [_], _ => rfl
theorem d_is_word (T : Tp K mg a) : Df P w K mg base (n + 1) "is_word" ["value"] spWord := by
  refine df_mk T 0 rfl sc_is_word bd_is_word (fun vs H Q E h => ?_) (fun f cdv A outer s H vs Q E hr h => ?_)
  · obtain ⟨x, rfl, _⟩ := h
    rfl
  · obtain ⟨z, rfl, hz, go⟩ := h
    obtain ⟨_, lt⟩ := T.letters
    have hl : z.length = z.cps.size := rfl
    have hs := szl
    obtain ⟨h1, h2, h3⟩ := hz
    refine ⟨_, (pss_one (ps_ret (pe_and (pe_callB call_isi (by rfl) T.f_isinstance (by decide +kernel) (pa_cons (pv 0) (pa_cons (pe_bltn (v := .ty "str") (u := .type "str") (by rfl) T.f_str (by decide +kernel) rfl) pa_nil))) (pe_and (pe_chain op_lt op_lt pe_int (pe_callB call_len_str (by rfl) T.f_len PySem.boot_len (pa_cons (pv 0) pa_nil)) pe_int) (pe_one (pe_callB (cr_all rfl) (by rfl) T.f_all (by decide +kernel) (pa_cons (pe_lc (own := [("letter", 1)]) rfl sc_is_word.nd (pi_str (pv 0)) (blkOk_by (own := [("letter", 1)]) (N := ["value", "letter"]) (sc := defScope s_is_word) (by decide +kernel)) (fun _ _ _ _ _ => (pg_name (i := 1) sc_is_word.nd rfl (Or.inl rfl))) (fun _ _ _ _ _ => pts_nil) (fun _ _ _ _ _ => (pe_cmpR op_in_sign (pv 1) (pe_glob (v := .str lettersS) (by rfl) lt ⟨_, rfl⟩) rfl))) pa_nil))))))), ?_⟩
    refine ⟨_, rfl, _, _, _, _, _, rfl, .ty _, .base (.str _), kit_ty (by rfl), _, rfl, ?_⟩
    refine ifT ?_
    refine ⟨_, rfl, z, rfl, by omega, _, _, rfl, rfl, _, rfl, ?_⟩
    rw [if_pos (decide_eq_true (by omega))]
    refine ⟨_, _, rfl, rfl, _, rfl, ?_⟩
    rw [if_pos (decide_eq_true (by omega))]
    refine ⟨_, rfl, z, rfl, fun D nD => ?_⟩
    refine lc_it walk_str (fun i H1 => Ac H D (trs i) H1) (Ac.start nD) (fun _ _ _ _ => trivial) ?_ ?_
    · rintro i x H1 H2 hi hv ⟨rfl, c, hc, rfl⟩
      refine ⟨rfl, _, rfl, c, _, rfl, rfl, ?_⟩
      have : c ∈ lettersS.cps.toList := h3 c (by rw [← Array.getElem?_toList] at hc; exact List.mem_of_getElem? hc)
      rw [decide_eq_true this]
      exact hv.tr (Same.refl _) (by omega)
    · intro H1 hv
      exact hv.all go
end
end K12

set_option maxHeartbeats 4000000
/-! More short forms: dict comprehensions over a walk, what a dict gives. -/
namespace K12
open PySem PySem.Spec L2
theorem hu1 {A : Around} {k : Nat} (hr : Room k A) : A.units + 1 < cLine := by have := hr.units; omega
theorem hu2_ {A : Around} {k : Nat} (hr : Room k A) : A.units + 2 < cLine := by have := hr.units; omega
theorem hu65 {A : Around} {k : Nat} (hr : Room k A) : A.units + 65 < cLine := by have := hr.un; omega
theorem pg_tb {X : Cx} {s : Shared} {H : Hp} {scope : Scope} {env : Env} {fp : List Addr} {es : List Expr} {k : Nat} {pos : Pos} {t : TGs} {n : Nat} (hc : X.calm = true) (h : PGs (X.blk s H scope env fp) es t)
    (hn : (assignEach es (X.blk s H scope env fp).env).length = n := by rfl) (hst : (assignEach es (X.blk s H scope env fp).env).findIdx? (·.1) = none := by rfl) : PG (X.blk s H scope env fp) (.Tuple es k pos) (gTup X.K n t) := pg_tup hc h hn hst
section
variable {J : It} {n : Nat} {G : Hp → Prop} {Y : Nat → Hp → V → Hp → Prop}
/-- any walk: B is what one turn asks -/
theorem walkB (w : Walk J n G Y) {Qd : Hp → Prop} {H0 : Hp} {B : V → Hp → (Hp → Prop) → Prop} (Pv : Nat → Hp → Prop) (start : Pv 0 H0) (stays : ∀ i H, i ≤ n → Pv i H → G H)
    (turn : ∀ i x H H', i < n → Pv i H → Y i H x H' → B x H' (Pv (i + 1))) (done : ∀ H, Pv n H → Qd H) : ∃ W : Nat → Nat → Hp → Prop, (∃ m, W 0 m H0) ∧ ∀ i m H, W i m H →
      (J.stop i H ∧ Qd H) ∨ (J.go i H ∧ ∃ Nx : Hp → Prop, (∀ H', Nx H' → ∃ m', m' < m ∧ W (i + 1) m' H') ∧ ∀ x H', J.yld i H x H' → B x H' Nx) := by
  refine ⟨fun i m H => m = n - i ∧ i ≤ n ∧ Pv i H, ⟨n, by simp, Nat.zero_le _, start⟩, fun i m H hv => ?_⟩
  obtain ⟨rfl, hi, pv⟩ := hv
  have gd := stays i H hi pv
  by_cases lt : i < n
  · exact .inr ⟨w.goes i H lt gd, Pv (i + 1), fun H' nx => ⟨n - (i + 1), by omega, rfl, lt, nx⟩, fun x H' y => turn i x H H' lt pv (w.yields i H x H' lt gd y)⟩
  · obtain rfl : i = n := by omega
    exact .inl ⟨w.stops H gd, done H pv⟩
theorem dcT_it (w : Walk J n G Y) {g : TG} {tt : TT} {tk tv : TE} {vs : List Nat} {σ : St} {H1 : Hp} {D : Addr} {Qd : Hp → Prop} (Pv : Nat → Hp → Prop) (start : Pv 0 (upd H1 D (.dT []))) (stays : ∀ i H, i ≤ n → Pv i H → G H)
    (turn : ∀ i x H H', i < n → Pv i H → Y i H x H' → g x (wipe σ vs) H' fun σ2 H2 => wipe σ2 vs = wipe σ vs ∧ tt σ2 H2 fun b H3 =>
      if b = true then tk σ2 H3 fun y H4 => tv σ2 H4 fun z H5 => ∃ kvs k c, y = .ref c ∧ H5 c = some (.tup (k.map kV)) ∧ H5 D = some (.dT kvs) ∧ kvs.length < sizeLine ∧ Pv (i + 1) (upd H5 D (.dT (putK kvs k z))) else Pv (i + 1) H3)
    (done : ∀ H, Pv n H → Qd H) : ∃ W : Nat → Nat → Hp → Prop, (∃ m, W 0 m (upd H1 D (.dT []))) ∧ ∀ i m H, W i m H →
      (J.stop i H ∧ Qd H) ∨ (J.go i H ∧ ∃ Nx : Hp → Prop, (∀ H', Nx H' → ∃ m', m' < m ∧ W (i + 1) m' H') ∧ ∀ x H', J.yld i H x H' → g x (wipe σ vs) H' fun σ2 H2 => wipe σ2 vs = wipe σ vs ∧ tt σ2 H2 fun b H3 =>
        if b = true then tk σ2 H3 fun y H4 => tv σ2 H4 fun z H5 => ∃ kvs k c, y = .ref c ∧ H5 c = some (.tup (k.map kV)) ∧ H5 D = some (.dT kvs) ∧ kvs.length < sizeLine ∧ Nx (upd H5 D (.dT (putK kvs k z))) else Nx H3) := by
  refine ⟨fun i m H => m = n - i ∧ i ≤ n ∧ Pv i H, ⟨n, by simp, Nat.zero_le _, start⟩, fun i m H hv => ?_⟩
  obtain ⟨rfl, hi, pv⟩ := hv
  have gd := stays i H hi pv
  by_cases lt : i < n
  · exact .inr ⟨w.goes i H lt gd, Pv (i + 1), fun H' nx => ⟨n - (i + 1), by omega, rfl, lt, nx⟩, fun x H' y => turn i x H H' lt pv (w.yields i H x H' lt gd y)⟩
  · obtain rfl : i = n := by omega
    exact .inl ⟨w.stops H gd, done H pv⟩
theorem dc_it (w : Walk J n G Y) {g : TG} {tt : TT} {tk tv : TE} {vs : List Nat} {σ : St} {H1 : Hp} {D : Addr} {Qd : Hp → Prop} (Pv : Nat → Hp → Prop) (start : Pv 0 (upd H1 D (.dK []))) (stays : ∀ i H, i ≤ n → Pv i H → G H)
    (turn : ∀ i x H H', i < n → Pv i H → Y i H x H' → g x (wipe σ vs) H' fun σ2 H2 => wipe σ2 vs = wipe σ vs ∧ tt σ2 H2 fun b H3 =>
      if b = true then tk σ2 H3 fun y H4 => tv σ2 H4 fun z H5 => ∃ kvs k, y = kV k ∧ H5 D = some (.dK kvs) ∧ kvs.length < sizeLine ∧ Pv (i + 1) (upd H5 D (.dK (putK kvs k z))) else Pv (i + 1) H3)
    (done : ∀ H, Pv n H → Qd H) : ∃ W : Nat → Nat → Hp → Prop, (∃ m, W 0 m (upd H1 D (.dK []))) ∧ ∀ i m H, W i m H →
      (J.stop i H ∧ Qd H) ∨ (J.go i H ∧ ∃ Nx : Hp → Prop, (∀ H', Nx H' → ∃ m', m' < m ∧ W (i + 1) m' H') ∧ ∀ x H', J.yld i H x H' → g x (wipe σ vs) H' fun σ2 H2 => wipe σ2 vs = wipe σ vs ∧ tt σ2 H2 fun b H3 =>
        if b = true then tk σ2 H3 fun y H4 => tv σ2 H4 fun z H5 => ∃ kvs k, y = kV k ∧ H5 D = some (.dK kvs) ∧ kvs.length < sizeLine ∧ Nx (upd H5 D (.dK (putK kvs k z))) else Nx H3) := by
  refine ⟨fun i m H => m = n - i ∧ i ≤ n ∧ Pv i H, ⟨n, by simp, Nat.zero_le _, start⟩, fun i m H hv => ?_⟩
  obtain ⟨rfl, hi, pv⟩ := hv
  have gd := stays i H hi pv
  by_cases lt : i < n
  · exact .inr ⟨w.goes i H lt gd, Pv (i + 1), fun H' nx => ⟨n - (i + 1), by omega, rfl, lt, nx⟩, fun x H' y => turn i x H H' lt pv (w.yields i H x H' lt gd y)⟩
  · obtain rfl : i = n := by omega
    exact .inl ⟨w.stops H gd, done H pv⟩
end
/-- a new object that grows: kept else -/
structure Gr (H : Hp) (D : Addr) (o : HO) (H1 : Hp) : Prop where
  sm : Same H H1
  nw : H D = none
  at_ : H1 D = some o
theorem Gr.start {H : Hp} {D : Addr} {o : HO} (n : H D = none) : Gr H D o (upd H D o) := ⟨same_new n, n, upd_same⟩
theorem Gr.put {H H1 H2 : Hp} {D : Addr} {o : HO} (h : Gr H D o H1) (s : Same H1 H2) (u : HO) : Gr H D u (upd H2 D u) := ⟨Same.upd0 (h.sm.trans s) h.nw, h.nw, upd_same⟩
theorem Gr.sml {H H1 H2 : Hp} {D : Addr} {o : HO} (h : Gr H D o H1) (s : Same H1 H2) : Gr H D o H2 := ⟨h.sm.trans s, h.nw, s _ _ h.at_⟩
theorem at0 (x : V) (r : List V) : atI (x :: r) 0 = some x := at_of (z := 0) (j := 0) rfl rfl
theorem at1 (x y : V) (r : List V) : atI (x :: y :: r) 1 = some y := at_of (z := 1) (j := 1) rfl rfl
theorem take_not {α : Type} {l : List α} {i : Nat} {x : α} (n : l.Nodup) (h : l[i]? = some x) : x ∉ l.take i := by
  intro m
  obtain ⟨j, hj⟩ := List.mem_iff_getElem?.mp m
  rw [List.getElem?_take] at hj
  split at hj
  · rename_i hlt
    obtain ⟨hi, ei⟩ := List.getElem?_eq_some_iff.mp h
    obtain ⟨hj', ej⟩ := List.getElem?_eq_some_iff.mp hj
    exact (List.pairwise_iff_getElem.mp n) j i hj' hi hlt (by rw [ei, ej])
  · cases hj
/-- the next entry of a dict that is built in order -/
theorem putK_next {κ : Type} [DecidableEq κ] {l : List (κ × V)} {i : Nat} {k : κ} {v : V} (n : (l.map (·.1)).Nodup) (h : l[i]? = some (k, v)) : putK (l.take i) k v = l.take (i + 1) := by
  have hn : valV (l.take i) k = none := valV_none (by
    rw [List.map_take]
    exact take_not n (by rw [List.getElem?_map, h]; rfl))
  rw [putK_new _ hn, List.take_add_one, h]
  rfl
theorem all_rep (n : Nat) : (List.replicate n true).all id = true := by
  rw [List.all_eq_true]; intro x hx; exact (List.mem_replicate.mp hx).2
theorem frz_new {H : Hp} {d D : Addr} {o u : HO} (e : H d = some o) (n : upd H d u D = none) : D ≠ d ∧ H D = none := by
  have ne : D ≠ d := fun z => by subst z; rw [upd_same] at n; cases n
  exact ⟨ne, by rw [upd_ne ne] at n; exact n⟩
theorem dgetP {H : Hp} {d q : Addr} {kvs : List (List Key × V)} {x y : Str} {v : V} (hd : Rd H d (.dT kvs)) (hq : H q = some (.tup [.str x, .str y])) (e : valV kvs (keyP (x, y)) = some v) : DGet H d (.ref q) (some v) :=
  .inr ⟨kvs, keyP (x, y), q, hd, rfl, hq, e.symm⟩
theorem dgetK {H : Hp} {d : Addr} {kvs : List (Key × V)} {x : Str} {o : Option V} (hd : Rd H d (.dK kvs)) (e : valV kvs (Sum.inr x : Key) = o) : DGet H d (.str x) o :=
  .inl ⟨kvs, .inr x, hd, rfl, e.symm⟩
theorem inV_strs (z : Str) (l : List Str) : inV (.str z) (l.map V.str) = decide (z ∈ l) := by
  unfold inV
  rw [Bool.eq_iff_iff, List.any_eq_true]
  constructor
  · rintro ⟨y, hy, e⟩
    obtain ⟨u, hu, rfl⟩ := List.mem_map.mp hy
    have : u = z := by simpa [eqV] using e
    exact decide_eq_true (this ▸ hu)
  · intro h
    exact ⟨_, List.mem_map.mpr ⟨z, of_decide_eq_true h, rfl⟩, by simp [eqV]⟩
theorem flat_strs (l : List Str) : (l.map V.str).all flatV = true := by
  rw [List.all_eq_true]
  intro y hy
  obtain ⟨u, _, rfl⟩ := List.mem_map.mp hy
  rfl
/-- an entry of a table in any order -/
theorem perm_ent {kvs : List (List Key × V)} {ks : List Str} {mul : Str → Str → Str} (hp : kvs.Perm (grid ks mul)) {i : Nat} {k : List Key} {v : V} (e : kvs[i]? = some (k, v)) : ∃ x y, x ∈ ks ∧ y ∈ ks ∧ k = keyP (x, y) ∧ v = .str (mul x y) := by
  have m := hp.subset (List.mem_of_getElem? e)
  obtain ⟨q, hq, e1⟩ := List.mem_map.mp m
  have := mem_prs.mp hq
  refine ⟨q.1, q.2, this.1, this.2, ?_, ?_⟩
  · exact (congrArg Prod.fst e1).symm
  · exact (congrArg Prod.snd e1).symm
theorem perm_len {kvs : List (List Key × V)} {ks : List Str} {mul : Str → Str → Str} (hp : kvs.Perm (grid ks mul)) : kvs.length = ks.length * ks.length := by
  rw [hp.length_eq]; unfold grid; rw [List.length_map, prs_len]
theorem perm_idx {kvs : List (List Key × V)} {ks : List Str} {mul : Str → Str → Str} (hp : kvs.Perm (grid ks mul)) {x y : Str} (hx : x ∈ ks) (hy : y ∈ ks) : ∃ i : Nat, kvs[i]? = some (keyP (x, y), V.str (mul x y)) :=
  List.mem_iff_getElem?.mp (hp.symm.subset (List.mem_map.mpr ⟨(x, y), mem_prs.mpr ⟨hx, hy⟩, rfl⟩))
/-- a dict of texts, each to True -/
abbrev wd (ws : List Str) : List (Key × V) := ws.map fun x => (Sum.inr x, V.bl true)
theorem wd_keys (ws : List Str) : (wd ws).map (·.1) = ws.map Sum.inr := by unfold wd; rw [List.map_map]; rfl
theorem wd_val {ws : List Str} {x : Str} : (valV (wd ws) (Sum.inr x : Key)).isSome = decide (x ∈ ws) := by
  rw [← valV_any, Bool.eq_iff_iff, List.any_eq_true]
  constructor
  · rintro ⟨y, hy, e⟩
    obtain ⟨u, hu, rfl⟩ := List.mem_map.mp hy
    have : u = x := by simpa using e
    exact decide_eq_true (this ▸ hu)
  · intro h
    exact ⟨_, List.mem_map.mpr ⟨x, of_decide_eq_true h, rfl⟩, by simp⟩
theorem wd_put (ws : List Str) (x : Str) : putK (wd ws) (Sum.inr x : Key) (.bl true) = wd (if x ∈ ws then ws else ws ++ [x]) := by
  unfold putK
  have h := wd_val (ws := ws) (x := x)
  rw [← valV_any] at h
  by_cases hx : x ∈ ws
  · rw [if_pos hx, if_pos (by rw [h]; exact decide_eq_true hx)]
    unfold wd
    rw [List.map_map]
    refine List.map_congr_left fun y _ => ?_
    show (if (Sum.inr y : Key) = Sum.inr x then (Sum.inr y, V.bl true) else (Sum.inr y, V.bl true)) = _
    split <;> rfl
  · rw [if_neg hx, if_neg (by rw [h]; simpa using hx)]
    unfold wd
    rw [List.map_append]
    rfl
/-- what a walk over a table's keys has put together of their first words -/
structure Firsts (kvs : List (List Key × V)) (i : Nat) (ws : List Str) : Prop where
  nd : ws.Nodup
  le : ws.length ≤ i
  mem : ∀ x, x ∈ ws ↔ ∃ j k v y, j < i ∧ kvs[j]? = some (k, v) ∧ k = keyP (x, y)
theorem Firsts.zero (kvs : List (List Key × V)) : Firsts kvs 0 [] := ⟨List.nodup_nil, Nat.zero_le _, fun x => ⟨fun h => by (cases h), fun ⟨j, _, _, _, h, _⟩ => by omega⟩⟩
theorem Firsts.succ {kvs : List (List Key × V)} {i : Nat} {ws : List Str} (h : Firsts kvs i ws) {x y : Str} {v : V} (e : kvs[i]? = some (keyP (x, y), v)) : Firsts kvs (i + 1) (if x ∈ ws then ws else ws ++ [x]) := by
  have key : ∀ z, (∃ j k v y, j < i + 1 ∧ kvs[j]? = some (k, v) ∧ k = keyP (z, y)) ↔ (z ∈ ws ∨ z = x) := by
    intro z
    constructor
    · rintro ⟨j, k, v', y', hj, e1, e2⟩
      by_cases hji : j < i
      · exact .inl ((h.mem z).mpr ⟨j, k, v', y', hji, e1, e2⟩)
      · obtain rfl : j = i := by omega
        rw [e] at e1
        injection e1 with e1
        injection e1 with e1 _
        rw [e2] at e1
        have := keyP_inj e1
        exact .inr (congrArg Prod.fst this).symm
    · rintro (q | rfl)
      · obtain ⟨j, k, v', y', hj, r⟩ := (h.mem z).mp q
        exact ⟨j, k, v', y', by omega, r⟩
      · exact ⟨i, _, v, y, by omega, e, rfl⟩
  by_cases hx : x ∈ ws
  · rw [if_pos hx]
    refine ⟨h.nd, Nat.le_succ_of_le h.le, fun z => ?_⟩
    rw [key z]
    exact ⟨.inl, fun q => q.elim id fun e => e ▸ hx⟩
  · rw [if_neg hx]
    refine ⟨?_, by rw [List.length_append]; exact Nat.succ_le_succ h.le, fun z => ?_⟩
    · rw [List.nodup_append]
      refine ⟨h.nd, by simp, fun u hu v hv => ?_⟩
      rw [List.mem_singleton] at hv
      subst hv
      intro e
      exact hx (e ▸ hu)
    · rw [key z, List.mem_append, List.mem_singleton]
theorem Firsts.perm {kvs : List (List Key × V)} {ks : List Str} {mul : Str → Str → Str} {ws : List Str} (h : Firsts kvs kvs.length ws) (hp : kvs.Perm (grid ks mul)) (hk : ks.Pairwise slt) (h0 : 0 < ks.length) : ws.Perm ks := by
  refine (List.perm_ext_iff_of_nodup h.nd (hk.imp fun {a b} q => slt_ne q)).mpr fun x => ?_
  rw [h.mem x]
  constructor
  · rintro ⟨j, k, v, y, _, e, rfl⟩
    obtain ⟨x', y', hx, _, e', _⟩ := perm_ent hp e
    have := keyP_inj e'
    rw [show x = x' from congrArg Prod.fst this]
    exact hx
  · intro hx
    obtain ⟨i, e⟩ := perm_idx hp hx hx
    exact ⟨i, _, _, x, (List.getElem?_eq_some_iff.mp e).1, e, rfl⟩
end K12

set_option maxHeartbeats 4000000
/-! Rules whose reading names the top, with the top told by hand: so they fit within a comprehension. -/
namespace K12
open PySem PySem.Spec L2
section
variable {X : Cx} {K : PySem.W.Frag} {e : Expr} {es : List Expr} {te : TE} {pos : Pos} {t : TA}
theorem ix_listK (h : X.K = K) : IxR X (rIxL K) := h ▸ ix_list
theorem ix_tupK (h : X.K = K) : IxR X (rIxT K) := h ▸ ix_tup
theorem sl_listK (h : X.K = K) : SlR X (rSlL K) := h ▸ sl_list
theorem sl_tupK (h : X.K = K) : SlR X (rSlT K) := h ▸ sl_tup
theorem op_in_seqK (h : X.K = K) : OpR X (compareOp .In) (rIn K false) := h ▸ op_in_seq
theorem op_notIn_seqK (h : X.K = K) : OpR X (compareOp .NotIn) (rIn K true) := h ▸ op_notIn_seq
theorem op_eqDK (h : X.K = K) (hu : X.A.units + 64 < cLine) : OpR X (compareOp .Eq) (rEqD K) := h ▸ op_eqD hu
theorem op_neDK (h : X.K = K) (hu : X.A.units + 64 < cLine) : OpR X (compareOp .NotEq) (rNeD K) := h ▸ op_neD hu
theorem op_notInDK (h : X.K = K) (hu : X.A.units + 65 < cLine) : OpR X (compareOp .NotIn) (rNotInD K) := h ▸ op_notInD hu
theorem cr_allK (h : X.K = K) (hc : X.calm = true) : CallR X (.builtin "all") (rAll K) := h ▸ cr_all hc
theorem cr_anyK (h : X.K = K) (hc : X.calm = true) : CallR X (.builtin "any") (rAny K) := h ▸ cr_any hc
theorem cr_maxK (h : X.K = K) (hc : X.calm = true) : CallR X (.builtin "max") (rMax K) := h ▸ cr_max hc
theorem cr_sumK (h : X.K = K) (hc : X.calm = true) : CallR X (.builtin "sum") (rSum K) := h ▸ cr_sum hc
def rLenS (K : PySem.W.Frag) : List V → Hp → VK → Prop := fun xs H Q => ∃ p ys, xs = [.ref p] ∧ (SqL K H p ys ∨ SqT K H p ys) ∧ Q (.int ys.length) H
theorem call_len_seqK (h : X.K = K) : CallR X (.builtin "len") (rLenS K) := h ▸ call_len_seq
theorem call_isiK_ (h : X.K = K) : CallR X (.builtin "isinstance") (rIsi K) := h ▸ call_isi
theorem call_isiTK (h : X.K = K) : CallR X (.builtin "isinstance") (rIsiT K) := h ▸ call_isiT
def rListOf (K : PySem.W.Frag) : List V → Hp → VK → Prop := fun xs H Q => ∃ p ys, xs = [.ref p] ∧ (SqL K H p ys ∨ SqT K H p ys) ∧ ∀ l, H l = none → Q (.ref l) (upd H l (.lst ys))
theorem call_list_ofK (h : X.K = K) : CallR X (.type "list") (rListOf K) := h ▸ call_list_of
def rTupOf (K : PySem.W.Frag) : List V → Hp → VK → Prop := fun xs H Q => ∃ p ys, xs = [.ref p] ∧ ((SqL K H p ys ∧ ∀ l, H l = none → Q (.ref l) (upd H l (.tup ys))) ∨ (SqT K H p ys ∧ Q (.ref p) H))
theorem call_tuple_ofK (h : X.K = K) : CallR X (.type "tuple") (rTupOf K) := h ▸ call_tuple_of
def rDictP (K : PySem.W.Frag) : List V → Hp → VK → Prop := fun xs H Q => ∃ (a : Addr) (ps : List Addr) (kvs : List (List Key × V)), xs = [.ref a] ∧ SqL K H a (ps.map V.ref) ∧ Paired (PairT K H) ps kvs ∧ ∀ p, H p = none → Q (.ref p) (upd H p (.dT (mergeT [] kvs)))
theorem call_dictPTK (h : X.K = K) (hc : X.calm = true) (hu : X.A.units + 2 < cLine) : CallR X (.type "dict") (rDictP K) := h ▸ call_dictPT hc hu
theorem pe_fldK (h : X.K = K) {o : Expr} {f : Str} (ho : PE X o te) (hb : attributeBase o f X.env (eval o X.env) = eval o X.env) : PE X (.Attribute o f pos) (tFld K te f) := h ▸ pe_fld ho hb
theorem pi_listK {tg : Expr} (h : X.K = K) (he : PE X e te) : PI X tg e (iList K te) := h ▸ pi_list he
theorem pi_tupK {tg : Expr} (h : X.K = K) (he : PE X e te) : PI X tg e (iTup K te) := h ▸ pi_tup he
theorem pe_revLK (h : X.K = K) {k : Nat} {p1 p2 p3 : Pos} (he : PE X e te) : PE X (.Subscript e (.Slice none none (some (.UnaryOp .USub (.Constant (.int 1) k p1) p2)) p3) pos) (tRevL K te) := h ▸ pe_revL he
end
end K12

set_option maxHeartbeats 4000000
/-! The program: pairs, tables. -/
namespace K12
open PySem PySem.Spec L2
/-- a new triple of kinds -/
def Tri (ks : List Str) (H : Hp) (v : V) : Prop := ∃ q x y z, v = .ref q ∧ H q = some (.tup [.str x, .str y, .str z]) ∧ x ∈ ks ∧ y ∈ ks ∧ z ∈ ks
theorem Tri.mv {ks : List Str} {H H' : Hp} {v : V} {D : Addr} {xs : List V} (h : Tri ks H v) (k : ∀ b o, b ≠ D → H b = some o → H' b = some o) (e : H D = some (.lst xs)) : Tri ks H' v := by
  obtain ⟨q, x, y, z, e1, e2, r⟩ := h
  exact ⟨q, x, y, z, e1, k _ _ (fun z => by subst z; rw [e] at e2; cases e2) e2, r⟩
theorem Tri.sm {ks : List Str} {H H' : Hp} {v : V} (h : Tri ks H v) (s : Same H H') : Tri ks H' v := by
  obtain ⟨q, x, y, z, e1, e2, r⟩ := h
  exact ⟨q, x, y, z, e1, s _ _ e2, r⟩
section
variable {P : Program} {w : World} {K : PySem.W.Frag} {mg : Str → Option Value} {base : Heap} {a : Ad} {n : Nat}
def spPairW : Sp := fun vs H Q _ => ∃ q x y, vs = [.ref q] ∧ H q = some (.tup [.str x, .str y]) ∧ isWord x ∧ isWord y ∧ ∀ H', Same H H' → Q (.bl true) H'
theorem sc_is_pair_of_words : FnScope ["value"] ["value"] (defScope s_is_pair_of_words) := ⟨rfl, rfl, rfl, by decide +kernel, rfl, by decide +kernel, by decide +kernel⟩
theorem bd_is_pair_of_words : BindsOf "is_pair_of_words" "is_pair_of_words" s_is_pair_of_words ["value"] := fun _ _ _ _ _ _ us hl => match us, hl with | [_], _ => rfl
theorem d_is_pair (T : Tp K mg a) (D_is_word : Df P w K mg base n "is_word" ["value"] spWord) : Df P w K mg base (n + 1) "is_pair_of_words" ["value"] spPairW := by
  refine df_mk T 1 rfl sc_is_pair_of_words bd_is_pair_of_words (fun vs H Q E h => ?_) (fun f cdv A outer s H vs Q E hr h => ?_)
  · obtain ⟨q, x, y, rfl, _⟩ := h
    rfl
  · obtain ⟨q, x, y, rfl, e, hx, hy, go⟩ := h
    refine ⟨_, (pss_one (ps_ret (pe_and (pe_callB (call_isiK_ (K := K) rfl) (by rfl) T.f_isinstance (by decide +kernel) (pa_cons (pv 0) (pa_cons (pe_bltn (v := .ty "tuple") (u := .type "tuple") (by rfl) T.f_tuple (by decide +kernel) rfl) pa_nil))) (pe_and (pe_cmpR op_eq (pe_callB (call_len_seqK (K := K) rfl) (by rfl) T.f_len PySem.boot_len (pa_cons (pv 0) pa_nil)) pe_int (nomark _)) (pe_and (pe_f D_is_word hr (by rfl) (pa_cons (pe_ix (ix_tupK (K := K) rfl) (pv 0) pe_int (fun _ _ => rfl)) pa_nil)) (pe_one (pe_f D_is_word hr (by rfl) (pa_cons (pe_ix (ix_tupK (K := K) rfl) (pv 0) pe_int (fun _ _ => rfl)) pa_nil)))))))), ?_⟩
    refine ⟨_, rfl, _, _, _, _, _, rfl, .ty _, .base (.tup e), kit_ty (by rfl), _, rfl, ?_⟩
    refine ifT ⟨_, rfl, q, _, rfl, .inr (SqT.of e), rfl, _, rfl, ?_⟩
    refine ifT ⟨_, rfl, q, _, 0, _, rfl, rfl, SqT.of e, rfl, x, rfl, hx, fun H1 s1 => ⟨_, rfl, ?_⟩⟩
    refine ifT ⟨_, rfl, q, _, 1, _, rfl, rfl, SqT.of (s1 _ _ e), rfl, y, rfl, hy, fun H2 s2 => ?_⟩
    exact go H2 (s1.trans s2)
def spTab : Sp := fun vs H Q _ => ∃ d kvs, ∃ g : Sg, vs = [.ref d] ∧ g.Ok ∧ H d = some (.dT kvs) ∧ kvs.Perm (grid g.ks g.mul) ∧ ∀ H', Same H H' → Q (.bl true) H'
theorem sc_is_table : FnScope ["value", "words", "threes", "key", "pair", "late", "a", "b", "c"] ["value"] (defScope s_is_table) := ⟨rfl, rfl, rfl, by decide +kernel, rfl, by decide +kernel, by decide +kernel⟩
theorem bd_is_table : BindsOf "is_table" "is_table" s_is_table ["value"] := fun _ _ _ _ _ _ us hl => match us, hl with | [_], _ => rfl
theorem d_is_table (T : Tp K mg a) (D_is_word : Df P w K mg base n "is_word" ["value"] spWord) (D_is_pair_of_words : Df P w K mg base n "is_pair_of_words" ["value"] spPairW) : Df P w K mg base (n + 1) "is_table" ["value"] spTab := by
  refine df_mk T 2 rfl sc_is_table bd_is_table (fun vs H Q E h => ?_) (fun f cdv A outer s H vs Q E hr h => ?_)
  · obtain ⟨d, kvs, g, rfl, _⟩ := h
    rfl
  · obtain ⟨d, kvs, g, rfl, ok, e, hp, go⟩ := h
    have hs := szl
    have hu := hu1 hr
    have hl : kvs.length ≤ 16 := by
      rw [perm_len hp]
      exact Nat.mul_le_mul (Nat.le_trans ok.kn (Nat.le_refl 4)) ok.kn
    refine ⟨_, (pss_cons (ps_if (pt_not (pt_val (pe_callB (call_isiK_ (K := K) rfl) (by rfl) T.f_isinstance (by decide +kernel) (pa_cons (pv 0) (pa_cons (pe_bltn (v := .ty "dict") (u := .type "dict") (by rfl) T.f_dict (by decide +kernel) rfl) pa_nil)))))
      (pss_one (ps_ret pe_bl))
      pss_nil)
    (pss_cons (ps_if (pt_not (pt_val (pe_callB (cr_allK (K := K) rfl rfl) (by rfl) T.f_all (by decide +kernel) (pa_cons (pe_lock (pe_lc (own := [("key", 3)]) rfl sc_is_table.nd (pi_keys (pv 0)) (blkOk_by (own := [("key", 3)]) (N := ["value", "words", "threes", "key", "pair", "late", "a", "b", "c"]) (sc := defScope s_is_table) (by decide +kernel)) (fun _ _ _ _ _ => (pg_name (i := 3) sc_is_table.nd rfl (Or.inl rfl))) (fun _ _ _ _ _ => pts_nil) (fun _ _ _ _ _ => (pe_and (pe_f D_is_pair_of_words hr (by rfl) (pa_cons (pv 3) pa_nil)) (pe_one (pe_f D_is_word hr (by rfl) (pa_cons (pe_dget hu (pv 0) (pv 3) (fun _ _ => rfl)) pa_nil))))))) pa_nil))))
      (pss_one (ps_ret pe_bl))
      pss_nil)
    (pss_cons (ps_set (i := 1) sc_is_table.nd rfl (Or.inr rfl) (pe_lock (pe_dc (own := [("key", 3)]) rfl sc_is_table.nd (pi_keys (pv 0)) (blkOk_by (own := [("key", 3)]) (N := ["value", "words", "threes", "key", "pair", "late", "a", "b", "c"]) (sc := defScope s_is_table) (by decide +kernel)) (fun _ _ _ _ _ => (pg_name (i := 3) sc_is_table.nd rfl (Or.inl rfl))) (fun _ _ _ _ _ => pts_nil) (fun _ _ _ _ _ => (pe_ix (ix_tupK (K := K) rfl) (pv 3) pe_int (fun _ _ => rfl))) (fun _ _ _ _ _ => pe_bl))))
    (pss_cons (ps_if (PW.pt (pw_or (pt_cmpR (op_eqLen hr.units0) (pv 1) pe_dnewK (nomark _)) (pw_or1 (pt_cmpR op_ne (pe_callB call_len_dT (by rfl) T.f_len PySem.boot_len (pa_cons (pv 0) pa_nil)) (pe_op op_powX (pe_callB call_lenD (by rfl) T.f_len PySem.boot_len (pa_cons (pv 1) pa_nil)) pe_int) (nomark _)))))
      (pss_one (ps_ret pe_bl))
      pss_nil)
    (pss_cons (ps_if (pt_not (pt_val (pe_callB (cr_allK (K := K) rfl rfl) (by rfl) T.f_all (by decide +kernel) (pa_cons (pe_lock (pe_lc (own := [("key", 3)]) rfl sc_is_table.nd (pi_keys (pv 0)) (blkOk_by (own := [("key", 3)]) (N := ["value", "words", "threes", "key", "pair", "late", "a", "b", "c"]) (sc := defScope s_is_table) (by decide +kernel)) (fun _ _ _ _ _ => (pg_name (i := 3) sc_is_table.nd rfl (Or.inl rfl))) (fun _ _ _ _ _ => pts_nil) (fun _ _ _ _ _ => (pe_and (pe_cmp (pc_din hu (pe_ix (ix_tupK (K := K) rfl) (pv 3) pe_int (fun _ _ => rfl)) (pv 1))) (pe_one (pe_cmp (pc_din hu (pe_dget hu (pv 0) (pv 3) (fun _ _ => rfl)) (pv 1)))))))) pa_nil))))
      (pss_one (ps_ret pe_bl))
      pss_nil)
    (pss_cons (ps_lock (ps_lock (ps_setLc2 (i := 2) (own := [("pair", 4), ("late", 5)]) (vs1 := [5]) rfl sc_is_table.nd rfl rfl (sw_true rfl rfl rfl (by decide +kernel)) (pi_keys (pv 0)) (blkOk_by (own := [("pair", 4), ("late", 5)]) (N := ["value", "words", "threes", "key", "pair", "late", "a", "b", "c"]) (sc := defScope s_is_table) (by decide +kernel)) (by decide) (fun _ _ _ _ _ => (pg_name (i := 4) sc_is_table.nd rfl (Or.inl rfl))) (fun _ _ _ _ _ => pts_nil) (fun _ _ _ _ _ => (pi_keys (pv 1))) (fun _ _ _ _ _ => (pg_name (i := 5) sc_is_table.nd rfl (Or.inl rfl))) (fun _ _ _ _ _ => pts_nil) (fun _ _ _ _ _ => (pe_tup (pa_cons (pe_ix (ix_tupK (K := K) rfl) (pv 4) pe_int (fun _ _ => rfl)) (pa_cons (pe_ix (ix_tupK (K := K) rfl) (pv 4) pe_int (fun _ _ => rfl)) (pa_cons (pv 5) pa_nil))))))))
    (pss_one (ps_ret (pe_callB (cr_allK (K := K) rfl rfl) (by rfl) T.f_all (by decide +kernel) (pa_cons (pe_lc (own := [("a", 6), ("b", 7), ("c", 8)]) rfl sc_is_table.nd (pi_listK (K := K) rfl (pv 2)) (blkOk_by (own := [("a", 6), ("b", 7), ("c", 8)]) (N := ["value", "words", "threes", "key", "pair", "late", "a", "b", "c"]) (sc := defScope s_is_table) (by decide +kernel)) (fun _ _ _ _ _ => (pg_tb (n := 3) rfl (pgs_cons (pg_name (i := 6) sc_is_table.nd rfl (Or.inl rfl)) (pgs_cons (pg_name (i := 7) sc_is_table.nd rfl (Or.inl rfl)) (pgs_cons (pg_name (i := 8) sc_is_table.nd rfl (Or.inl rfl)) pgs_nil))))) (fun _ _ _ _ _ => pts_nil) (fun _ _ _ _ _ => (pe_cmpR op_eq (pe_dget hu (pv 0) (pe_tup (pa_cons (pe_dget hu (pv 0) (pe_tup (pa_cons (pv 6) (pa_cons (pv 7) pa_nil))) (fun _ _ => rfl)) (pa_cons (pv 8) pa_nil))) (fun _ _ => rfl)) (pe_dget hu (pv 0) (pe_tup (pa_cons (pv 6) (pa_cons (pe_dget hu (pv 0) (pe_tup (pa_cons (pv 7) (pa_cons (pv 8) pa_nil))) (fun _ _ => rfl)) pa_nil))) (fun _ _ => rfl)) (nomark _)))) pa_nil)))))))))), ?_⟩
    refine ⟨_, rfl, _, _, _, _, _, rfl, .ty _, .base (.dT e), kit_ty (by rfl), _, rfl, ?_⟩
    refine ifF ?_
    refine ⟨d, _, e, trivial, fun od => ?_⟩
    refine ⟨_, rfl, d, od, rfl, .inr ⟨kvs, upd_same, fun D nD => ?_⟩⟩
    refine lc_it walk_keysT (fun i H1 => Ac (upd H d (.frz od (.dT kvs))) D (trs i) H1) (Ac.start nD) (fun i H1 _ hv => hv.sm _ _ upd_same) ?_ ?_
    · rintro i x H1 H2 hi hv ⟨rfl, k, v, q, hk, rfl, hq⟩
      obtain ⟨x, y, hx, hy, rfl, rfl⟩ := perm_ent hp hk
      refine ⟨rfl, _, rfl, q, x, y, rfl, hq, ok.kw x hx, ok.kw y hy, fun H3 s3 => ⟨_, rfl, ?_⟩⟩
      refine ifT ⟨_, rfl, _, rfl, d, _, rfl, dgetP (.inr ⟨od, s3 _ _ (hv.sm _ _ upd_same)⟩) (s3 _ _ hq) (perm_val hp ok.kst hx hy), _, rfl, ok.kw _ (ok.cl x hx y hy), fun H4 s4 => ?_⟩
      exact hv.tr (s3.trans s4) (by omega)
    · intro H1 hv
      refine ⟨hv.sm _ _ upd_same, ?_⟩
      obtain ⟨nDd, nD0⟩ := frz_new e nD
      have g1 : Ac H D (trs kvs.length) (upd H1 d (.dT kvs)) := ⟨Same.unlock e hv.sm, nD0, by rw [upd_ne nDd]; exact hv.at_⟩
      have s2 := g1.sm
      generalize upd H1 d (.dT kvs) = H2 at g1 s2
      refine ⟨D, List.replicate kvs.length true, rfl, SqL.of g1.at_, ?_⟩
      rw [all_rep]
      refine ⟨_, rfl, ifF ?_⟩
      have e2 := s2 _ _ e
      -- words
      refine ⟨d, _, e2, trivial, fun od2 => ?_⟩
      refine ⟨_, rfl, d, od2, rfl, .inr ⟨kvs, upd_same, fun D2 nD2 => ?_⟩⟩
      refine dc_it walk_keysT (fun i H1 => ∃ ws, Gr (upd H2 d (.frz od2 (.dT kvs))) D2 (.dK (wd ws)) H1 ∧ Firsts kvs i ws) ⟨[], Gr.start nD2, Firsts.zero _⟩ (fun i H1 _ hv => hv.elim fun ws h => h.1.sm _ _ upd_same) ?_ ?_
      · rintro i x H3 H4 hi ⟨ws, gr, fi⟩ ⟨rfl, k, v, q, hk, rfl, hq⟩
        obtain ⟨x, y, hx, hy, rfl, rfl⟩ := perm_ent hp hk
        refine ⟨rfl, _, rfl, q, _, 0, .str x, rfl, rfl, SqT.of hq, rfl, ?_⟩
        refine ⟨_, Sum.inr x, rfl, gr.at_, by rw [List.length_map]; have := fi.le; omega, _, gr.put (Same.refl _) _ |> (wd_put ws x ▸ ·), fi.succ hk⟩
      · rintro H3 ⟨ws, gr, fi⟩
        refine ⟨gr.sm _ _ upd_same, ?_⟩
        obtain ⟨n1, n2⟩ := frz_new e2 gr.nw
        have g3 : Gr H2 D2 (.dK (wd ws)) (upd H3 d (.dT kvs)) := ⟨Same.unlock e2 gr.sm, n2, by rw [upd_ne n1]; exact gr.at_⟩
        have s3 : Same H (upd H3 d (.dT kvs)) := s2.trans g3.sm
        generalize upd H3 d (.dT kvs) = H4 at g3 s3
        have wp := fi.perm hp ok.kst ok.kp
        have hw : ws.length = g.ks.length := wp.length_eq
        have kn := ok.kn
        have kp := ok.kp
        have mw : ∀ x ∈ g.ks, (valV (wd ws) (Sum.inr x : Key)).isSome = true := fun x hx => by rw [wd_val]; exact decide_eq_true (wp.symm.subset hx)
        -- no words, or not a square
        refine ⟨_, rfl, fun q5 n5 => ?_⟩
        generalize g5 : upd H4 q5 _ = H5
        obtain ⟨s5, e5⟩ := new_of n5 g5
        have eW := s5 _ _ g3.at_
        refine ⟨D2, q5, _, _, rfl, rfl, .inl eW, .inl e5, by rw [List.length_map, hw]; exact Nat.ne_of_gt kp, _, rfl, ?_⟩
        refine ifF ?_
        have e6 := s5 _ _ (s3 _ _ e)
        refine ⟨_, rfl, d, _, rfl, e6, _, rfl, D2, _, rfl, eW, _, _, rfl, rfl, ⟨by decide, ?_⟩, rfl, _, rfl, ?_⟩
        · show (Builtin.Int.intBits (((wd ws).length : Nat) : Int) : Int) * 2 ≤ 2 ^ 27
          have := PyProof.Rows.intBits_le (a := (((wd ws).length : Nat) : Int)) (k := 10) (by rw [List.length_map, hw]; omega)
          omega
        have sqr : decide (V.int ((kvs.length : Nat) : Int) = V.int ((((wd ws).length : Nat) : Int) ^ (2 : Int).toNat)) = true := by
          rw [decide_eq_true_eq, List.length_map, hw, perm_len hp]
          show V.int _ = V.int (((g.ks.length : Nat) : Int) ^ 2)
          rw [Int.pow_succ, Int.pow_succ, Int.pow_zero]
          simp
        rw [sqr]
        refine ifF ?_
        have s6 := s3.trans s5
        -- all keys' words
        refine ⟨d, _, e6, trivial, fun od3 => ?_⟩
        refine ⟨_, rfl, d, od3, rfl, .inr ⟨kvs, upd_same, fun D6 n6 => ?_⟩⟩
        have nDW : D2 ≠ d := fun z => by subst z; rw [e6] at eW; cases eW
        refine lc_it walk_keysT (fun i H1 => Ac (upd H5 d (.frz od3 (.dT kvs))) D6 (trs i) H1) (Ac.start n6) (fun i H1 _ hv => hv.sm _ _ upd_same) ?_ ?_
        · rintro i x H6 H7 hi hv ⟨rfl, k, v, q, hk, rfl, hq⟩
          obtain ⟨x, y, hx, hy, rfl, rfl⟩ := perm_ent hp hk
          have ew := hv.sm _ _ (show upd H5 d (.frz od3 (.dT kvs)) D2 = _ by rw [upd_ne nDW]; exact eW)
          refine ⟨rfl, _, rfl, q, _, 1, .str y, rfl, rfl, SqT.of hq, rfl, _, rfl, D2, _, rfl, dgetK (.inl ew) rfl, _, rfl, ?_⟩
          rw [mw y hy]
          refine ifT ⟨_, rfl, _, rfl, d, _, rfl, dgetP (.inr ⟨od3, hv.sm _ _ upd_same⟩) hq (perm_val hp ok.kst hx hy), _, rfl, D2, _, rfl, dgetK (.inl ew) rfl, ?_⟩
          rw [mw _ (ok.cl x hx y hy)]
          exact hv.tr (Same.refl _) (by omega)
        · intro H6 hv
          refine ⟨hv.sm _ _ upd_same, ?_⟩
          obtain ⟨n1, n2⟩ := frz_new e6 n6
          have g7 : Ac H5 D6 (trs kvs.length) (upd H6 d (.dT kvs)) := ⟨Same.unlock e6 hv.sm, n2, by rw [upd_ne n1]; exact hv.at_⟩
          have s7 : Same H (upd H6 d (.dT kvs)) := s6.trans g7.sm
          generalize upd H6 d (.dT kvs) = H7 at g7 s7
          refine ⟨D6, List.replicate kvs.length true, rfl, SqL.of g7.at_, ?_⟩
          rw [all_rep]
          refine ⟨_, rfl, ifF ?_⟩
          have e7 := s7 _ _ e
          have eW7 := g7.sm _ _ eW
          -- threes
          refine ⟨d, _, e7, trivial, fun o8 => ?_⟩
          refine ⟨D2, .dK (wd ws), by rw [upd_ne nDW]; exact eW7, trivial, fun o9 => ?_⟩
          have hd8 : upd (upd H7 d (.frz o8 (.dT kvs))) D2 (.frz o9 (.dK (wd ws))) d = some (.frz o8 (.dT kvs)) := by rw [upd_ne nDW.symm]; exact upd_same
          have hw8 : upd (upd H7 d (.frz o8 (.dT kvs))) D2 (.frz o9 (.dK (wd ws))) D2 = some (.frz o9 (.dK (wd ws))) := upd_same
          generalize hH8 : upd (upd H7 d (.frz o8 (.dT kvs))) D2 (.frz o9 (.dK (wd ws))) = H8 at hd8 hw8
          refine ⟨_, rfl, d, o8, rfl, .inr ⟨kvs, hd8, fun D8 n8 => ?_⟩⟩
          refine walkB walk_keysT (fun i H9 => ∃ xs, Ac H8 D8 xs H9 ∧ xs.length ≤ i * 4 ∧ ∀ v ∈ xs, Tri g.ks H9 v) ⟨[], Ac.start n8, Nat.le_refl _, fun v hv => by (cases hv)⟩ (fun i H9 _ hv => hv.elim fun xs h => h.1.sm _ _ hd8) ?_ ?_
          · rintro i x H9 H10 hi ⟨xs, ac, lx, ax⟩ ⟨rfl, k, v, q, hk, rfl, hq⟩
            obtain ⟨x, y, hx, hy, rfl, rfl⟩ := perm_ent hp hk
            refine ⟨rfl, _, rfl, D2, o9, rfl, .inl ⟨wd ws, ac.sm _ _ hw8, ?_⟩⟩
            refine walkB walk_keys (fun j H10 => ∃ xs, Ac H8 D8 xs H10 ∧ xs.length ≤ i * 4 + j ∧ (∀ v ∈ xs, Tri g.ks H10 v) ∧ H10 q = some (.tup ([Sum.inr x, Sum.inr y].map kV))) ⟨xs, ac, lx, ax, hq⟩ (fun j H10 _ hv => hv.elim fun xs h => h.1.sm _ _ hw8) ?_ ?_
            · rintro j z H10 H11 hj ⟨xs, ac, lx, ax, hq⟩ ⟨rfl, k, v, hz, rfl⟩
              obtain ⟨c, hc, e⟩ := List.mem_map.mp (List.mem_of_getElem? hz)
              injection e with e1 e2
              subst e1 e2
              have hj4 : j < 4 := by rw [List.length_map] at hj; omega
              refine ⟨rfl, _, rfl, q, _, 0, .str x, rfl, rfl, SqT.of hq, rfl, _, rfl, q, _, 1, .str y, rfl, rfl, SqT.of hq, rfl, _, rfl, Nat.le_trans (by decide : 3 ≤ 4096) szl, fun q9 n9 => ?_⟩
              have hxs : xs.length < sizeLine := by omega
              generalize g9 : upd _ q9 _ = H12
              obtain ⟨s9, e9⟩ := new_of n9 g9
              refine ⟨xs, s9 _ _ ac.at_, hxs, xs ++ [.ref q9], ⟨Same.upd0 (ac.sm.trans s9) ac.nw, ac.nw, upd_same⟩, by rw [List.length_append]; show xs.length + 1 ≤ _; omega, ?_, ?_⟩
              · have nq : q9 ≠ D8 := fun z => by subst z; rw [ac.at_] at n9; cases n9
                intro v hv
                rcases List.mem_append.mp hv with hv | hv
                · exact (ax v hv).mv (fun b o hb e => by
                    rw [upd_ne hb]; exact s9 _ _ e) ac.at_
                · rw [List.mem_singleton.mp hv]
                  exact ⟨q9, x, y, c, rfl, by rw [upd_ne nq]; exact e9, hx, hy, wp.subset hc⟩
              · rw [upd_ne (fun z => by subst z; rw [ac.at_] at hq; cases hq)]
                exact s9 _ _ hq
            · rintro H10 ⟨xs, ac, lx, ax, _⟩
              exact ⟨xs, ac, by rw [List.length_map, hw] at lx; omega, ax⟩
          · rintro H9 ⟨xs, ac, lx, ax⟩
            refine ⟨ac.sm _ _ hw8, by rw [upd_ne nDW.symm]; exact ac.sm _ _ hd8, ?_⟩
            have sA : Same H7 (upd (upd H9 D2 (.dK (wd ws))) d (.dT kvs)) := Same.unlock e7 (Same.unlock (show upd H7 d (.frz o8 (.dT kvs)) D2 = some (.dK (wd ws)) by rw [upd_ne nDW]; exact eW7) (by rw [hH8]; exact ac.sm))
            have d8 : D8 ≠ D2 ∧ D8 ≠ d := ⟨fun z => (by rw [z, hw8] at n8; cases n8), fun z => (by rw [z, hd8] at n8; cases n8)⟩
            have lA : upd (upd H9 D2 (.dK (wd ws))) d (.dT kvs) D8 = some (.lst xs) := by rw [upd_ne d8.2, upd_ne d8.1]; exact ac.at_
            have tA : ∀ v ∈ xs, Tri g.ks (upd (upd H9 D2 (.dK (wd ws))) d (.dT kvs)) v := fun v hv => by
              obtain ⟨q, x, y, z, e1, e2, r⟩ := ax v hv
              refine ⟨q, x, y, z, e1, ?_, r⟩
              rw [upd_ne (fun z => by rw [z, ac.sm _ _ hd8] at e2; cases e2), upd_ne (fun z => by rw [z, ac.sm _ _ hw8] at e2; cases e2)]
              exact e2
            have lx64 : xs.length ≤ 64 := by omega
            clear hH8 hd8 hw8 n8 ac ax lx
            generalize upd (upd H9 D2 (.dK (wd ws))) d (.dT kvs) = HA at sA lA tA
            have sH := s7.trans sA
            have eA := sH _ _ e
            refine ⟨_, rfl, D8, rfl, ⟨xs, SqL.of lA⟩, fun D9 n9 => ?_⟩
            refine lc_list (xs := xs) (fun i H1 => Ac HA D9 (trs i) H1) (Ac.start n9) (fun i H1 _ hv => SqL.of (hv.sm _ _ lA)) ?_ ?_
            · intro i v H1 hi hv
              obtain ⟨q, x, y, z, rfl, hq, hx, hy, hz⟩ := tA v (List.mem_of_getElem? hi)
              have hi64 : i < sizeLine := by
                have := (List.getElem?_eq_some_iff.mp hi).1
                omega
              refine ⟨q, _, rfl, SqT.of (hv.sm _ _ hq), rfl, _, _, rfl, _, _, rfl, _, _, rfl, rfl, rfl, ?_⟩
              have hd1 := hv.sm _ _ eA
              have two : 2 ≤ sizeLine := Nat.le_trans (by decide : 2 ≤ 4096) szl
              refine ⟨_, rfl, _, rfl, _, rfl, _, rfl, two, fun q1 n1 => ?_⟩
              generalize g1 : upd _ q1 _ = H2
              obtain ⟨s1, e1⟩ := new_of n1 g1
              refine ⟨d, _, rfl, dgetP (.inl (s1 _ _ hd1)) e1 (perm_val hp ok.kst hx hy), _, rfl, two, fun q2 n2 => ?_⟩
              generalize g2 : upd _ q2 _ = H3
              obtain ⟨s2, e2⟩ := new_of n2 g2
              have s12 := s1.trans s2
              refine ⟨d, _, rfl, dgetP (.inl (s12 _ _ hd1)) e2 (perm_val hp ok.kst (ok.cl _ hx _ hy) hz), ?_⟩
              refine ⟨_, rfl, _, rfl, _, rfl, _, rfl, _, rfl, two, fun q3 n3 => ?_⟩
              generalize g3 : upd _ q3 _ = H4
              obtain ⟨s3, e3⟩ := new_of n3 g3
              have s13 := s12.trans s3
              refine ⟨d, _, rfl, dgetP (.inl (s13 _ _ hd1)) e3 (perm_val hp ok.kst hy hz), two, fun q4 n4 => ?_⟩
              generalize g4 : upd _ q4 _ = H5
              obtain ⟨s4, e4⟩ := new_of n4 g4
              have s14 := s13.trans s4
              refine ⟨d, _, rfl, dgetP (.inl (s14 _ _ hd1)) e4 (perm_val hp ok.kst hx (ok.cl _ hy _ hz)), rfl, ?_⟩
              rw [ok.as x hx y hy z hz, decide_eq_true rfl]
              exact hv.tr s14 hi64
            · intro H1 hv
              exact hv.all fun H' s' => go H' (sH.trans s')
end
end K12

set_option maxHeartbeats 4000000
/-! The program: Kinds and what asks it. -/
namespace K12
open PySem PySem.Spec L2
def unkP : List Key → Str × Str
  | [.inr x, .inr y] => (x, y)
  | _ => ("", "")
section
variable {P : Program} {w : World} {K : PySem.W.Frag} {mg : Str → Option Value} {base : Heap} {a : Ad} {n : Nat}
def spKi (a : Ad) : Sp := fun vs H Q _ => ∃ x dx d kvs p, ∃ g : Sg, vs = [.ref x, .ref d] ∧ g.Ok ∧ H x = some (.ins a.CK dx []) ∧ H d = some (.dT kvs) ∧ kvs.Perm (grid g.ks g.mul) ∧ x ≠ p ∧ (∃ o, H p = some o) ∧
  ∀ H', (∀ b o, b ≠ x → H b = some o → H' b = some o) → KsAt a p x H' g → Q .non H'
theorem keysP_of : ∀ {l : List (List Key)} {m : List (Str × Str)}, l.Perm (m.map keyP) → ∃ ws : List (Str × Str), l = ws.map keyP ∧ ws.Perm m
  | l, m, h => by
    have all : ∀ x ∈ l, ∃ q, x = keyP q := fun x hx => by
      obtain ⟨q, _, e⟩ := List.mem_map.mp (h.subset hx)
      exact ⟨q, e.symm⟩
    have gen : ∀ l : List (List Key), (∀ x ∈ l, ∃ q, x = keyP q) → ∃ ws : List (Str × Str), l = ws.map keyP := by
      intro l
      induction l with
      | nil => intro _; exact ⟨[], rfl⟩
      | cons x r ih =>
        intro h
        obtain ⟨q, e⟩ := h x List.mem_cons_self
        obtain ⟨ws, e2⟩ := ih fun y hy => h y (List.mem_cons_of_mem _ hy)
        exact ⟨q :: ws, by rw [e, e2]; rfl⟩
    obtain ⟨ws, e⟩ := gen l all
    refine ⟨ws, e, ?_⟩
    rw [e] at h
    have inv : ∀ q : Str × Str, unkP (keyP q) = q := fun q => rfl
    have := h.map unkP
    rw [List.map_map, List.map_map] at this
    have id1 : ∀ l : List (Str × Str), l.map (unkP ∘ keyP) = l := fun l => by
      induction l with
      | nil => rfl
      | cons a r ih => rw [List.map_cons, ih]; rfl
    rw [id1, id1] at this
    exact this
theorem sc_Kinds__init_ : FnScope ["self", "table", "pair"] ["self", "table"] (defScope s_Kinds_init_) := ⟨rfl, rfl, rfl, by decide +kernel, rfl, by decide +kernel, by decide +kernel⟩
theorem bd_Kinds__init_ : BindsOf "__init__" "Kinds.__init__" s_Kinds_init_ ["self", "table"] := fun _ _ _ _ _ _ us hl => match us, hl with | [_, _], _ => rfl
theorem d_Ki (T : Tp K mg a) (D_is_table : Df P w K mg base n "is_table" ["value"] spTab) : ∃ fd, FnOk P w K mg base CX0 (n + 1) a.fKi fd ["self", "table"] (spKi a) ∧ Binds K fd ["self", "table"] [] := by
  obtain ⟨fd, F⟩ := T.inK
  refine ⟨fd, fn_mk F sc_Kinds__init_ (fun vs H Q E h => ?_) (fun f cdv A outer s H vs Q E hr h => ?_), F.bindsN bd_Kinds__init_⟩
  · obtain ⟨x, dx, d, kvs, p, g, rfl, _⟩ := h
    rfl
  · obtain ⟨x, dx, d, kvs, p, g, rfl, ok, ex, e, hp, nx, hpp, go⟩ := h
    have hu := hu1 hr
    have hs := szl
    have hl : kvs.length ≤ 16 := by
      rw [perm_len hp]
      exact Nat.mul_le_mul (Nat.le_trans ok.kn (Nat.le_refl 4)) ok.kn
    have nxd : x ≠ d := fun z => by subst z; rw [e] at ex; cases ex
    refine ⟨_, (pss_cons (ps_if (pt_not (pt_val (pe_f D_is_table hr (by rfl) (pa_cons (pv 1) pa_nil))))
      (pss_one ps_never)
      pss_nil)
    (pss_cons (ps_fld (pv 0) (pe_dcT (own := [("pair", 2)]) rfl hr.units0 sc_Kinds__init_.nd (pi_listK (K := K) rfl (pe_callB (call_sortedP rfl hr.units) (by rfl) T.f_sorted (by decide +kernel) (pa_cons (pv 1) pa_nil))) (blkOk_by (own := [("pair", 2)]) (N := ["self", "table", "pair"]) (sc := defScope s_Kinds_init_) (by decide +kernel)) (fun _ _ _ _ _ => (pg_name (i := 2) sc_Kinds__init_.nd rfl (Or.inl rfl))) (fun _ _ _ _ _ => pts_nil) (fun _ _ _ _ _ => (pv 2)) (fun _ _ _ _ _ => (pe_dget hu (pv 1) (pv 2) (fun _ _ => rfl)))) rfl)
    (pss_one (ps_fld (pv 0) (pe_callB (call_sortedD rfl) (by rfl) T.f_sorted (by decide +kernel) (pa_cons (pe_lock (pe_dc (own := [("pair", 2)]) rfl sc_Kinds__init_.nd (pi_keys (pv 1)) (blkOk_by (own := [("pair", 2)]) (N := ["self", "table", "pair"]) (sc := defScope s_Kinds_init_) (by decide +kernel)) (fun _ _ _ _ _ => (pg_name (i := 2) sc_Kinds__init_.nd rfl (Or.inl rfl))) (fun _ _ _ _ _ => pts_nil) (fun _ _ _ _ _ => (pe_ix (ix_tupK (K := K) rfl) (pv 2) pe_int (fun _ _ => rfl))) (fun _ _ _ _ _ => pe_bl))) pa_nil)) rfl)))), ?_⟩
    refine ⟨_, rfl, d, kvs, g, rfl, ok, e, hp, fun H1 s1 => ⟨_, rfl, ?_⟩⟩
    refine ifF ?_
    have hpk := hp.map (·.1)
    rw [grid_keys] at hpk
    obtain ⟨ws, hws, hwp⟩ := keysP_of hpk
    have e1 := s1 _ _ e
    refine ⟨_, rfl, d, kvs, ws, rfl, .inl e1, hws, fun q2 zs n2 zp zo zt => ?_⟩
    have zis := sortedP_is zp zo hwp ok.kst
    generalize g2 : upd _ q2 _ = H2
    obtain ⟨s2, f2⟩ := new_of n2 g2
    refine ⟨q2, rfl, ⟨_, SqL.of f2⟩, fun D nD => ?_⟩
    have lz : zs.length ≤ 16 := by
      have := congrArg List.length zis
      rw [List.length_map, prs_len] at this
      rw [this]
      exact Nat.mul_le_mul (Nat.le_trans ok.kn (Nat.le_refl 4)) ok.kn
    have gr : grid g.ks g.mul = zs.map fun z => (keyP z.2, V.str (g.mul z.2.1 z.2.2)) := by
      unfold grid
      rw [← zis, List.map_map]
      rfl
    have gnd := grid_nodup (mul := g.mul) ok.kst
    refine dcT_it (walk_list (xs := zs.map fun z => V.ref z.1)) (fun i H3 => Gr H2 D (.dT ((grid g.ks g.mul).take i)) H3) (Gr.start nD) (fun i H3 _ hv => SqL.of (hv.sm _ _ f2)) ?_ ?_
    · rintro i v H3 H4 hi hv ⟨rfl, hz⟩
      rw [List.getElem?_map] at hz
      obtain ⟨z, hz', e4⟩ := Option.map_eq_some_iff.mp hz
      subst e4
      have mz : z.2 ∈ prs g.ks := by rw [← zis]; exact List.mem_map.mpr ⟨z, List.mem_of_getElem? hz', rfl⟩
      have mz2 := mem_prs.mp mz
      have tz := hv.sm _ _ (s2 _ _ (zt z (List.mem_of_getElem? hz')))
      have gi : (grid g.ks g.mul)[i]? = some (keyP z.2, V.str (g.mul z.2.1 z.2.2)) := by rw [gr, List.getElem?_map, hz']; rfl
      have hi16 : i < zs.length := by rw [List.length_map] at hi; exact hi
      refine ⟨rfl, _, rfl, _, rfl, _, rfl, d, _, rfl, dgetP (.inl (hv.sm _ _ (s2 _ _ e1))) tz (perm_val hp ok.kst mz2.1 mz2.2), _, keyP z.2, z.1, rfl, tz, hv.at_, ?_, ?_⟩
      · rw [List.length_take]; omega
      · rw [putK_next gnd gi]
        exact hv.put (Same.refl _) _
    · rintro H3 hv
      rw [List.length_map, show zs.length = (grid g.ks g.mul).length by rw [gr, List.length_map], List.take_length] at hv
      have s3 := s1.trans (s2.trans hv.sm)
      have nxD : D ≠ x := fun z => by subst z; rw [s2 _ _ (s1 _ _ ex)] at nD; cases nD
      refine ⟨_, rfl, x, _, _, _, rfl, s3 _ _ ex, T.clK, T.nTold, by decide, ?_⟩
      have eD : upd H3 x (.ins a.CK dx (putF "told" (.ref D) [])) D = some (.dT (grid g.ks g.mul)) := by rw [upd_ne nxD]; exact hv.at_
      have ed : upd H3 x (.ins a.CK dx (putF "told" (.ref D) [])) d = some (.dT kvs) := by rw [upd_ne nxd.symm]; exact s3 _ _ e
      have sx : ∀ b o, b ≠ x → H b = some o → upd H3 x (.ins a.CK dx (putF "told" (.ref D) [])) b = some o := fun b o hb e => by rw [upd_ne hb]; exact s3 _ _ e
      have ex4 : upd H3 x (.ins a.CK dx (putF "told" (.ref D) [])) x = some (.ins a.CK dx [("told", .ref D)]) := upd_same
      have nDp : D ≠ p := fun z => by
        obtain ⟨o, ho⟩ := hpp
        rw [z, s2 _ _ (s1 _ _ ho)] at nD
        cases nD
      generalize upd H3 x (.ins a.CK dx (putF "told" (.ref D) [])) = H4 at eD ed sx ex4
      -- names
      refine ⟨d, _, ed, trivial, fun od2 => ?_⟩
      refine ⟨_, rfl, d, od2, rfl, .inr ⟨kvs, upd_same, fun D2 nD2 => ?_⟩⟩
      refine dc_it walk_keysT (fun i H1 => ∃ ws, Gr (upd H4 d (.frz od2 (.dT kvs))) D2 (.dK (wd ws)) H1 ∧ Firsts kvs i ws) ⟨[], Gr.start nD2, Firsts.zero _⟩ (fun i H1 _ hv => hv.elim fun ws h => h.1.sm _ _ upd_same) ?_ ?_
      · rintro i y H5 H6 hi ⟨ws, gr, fi⟩ ⟨rfl, k, v, q, hk, rfl, hq⟩
        obtain ⟨x, y, hx, hy, rfl, rfl⟩ := perm_ent hp hk
        refine ⟨rfl, _, rfl, q, _, 0, .str x, rfl, rfl, SqT.of hq, rfl, ?_⟩
        refine ⟨_, Sum.inr x, rfl, gr.at_, by rw [List.length_map]; have := fi.le; omega, _, gr.put (Same.refl _) _ |> (wd_put ws x ▸ ·), fi.succ hk⟩
      · rintro H5 ⟨ws, gr, fi⟩
        refine ⟨gr.sm _ _ upd_same, ?_⟩
        obtain ⟨m1, m2⟩ := frz_new ed gr.nw
        have g5 : Gr H4 D2 (.dK (wd ws)) (upd H5 d (.dT kvs)) := ⟨Same.unlock ed gr.sm, m2, by rw [upd_ne m1]; exact gr.at_⟩
        generalize upd H5 d (.dT kvs) = H6 at g5
        have wp := fi.perm hp ok.kst ok.kp
        refine ⟨D2, _, ws, rfl, .inl g5.at_, wd_keys ws, by have := wp.length_eq; have := ok.kn; omega, fun ys q7 yp ys' n7 => ?_⟩
        have yk : ys = g.ks := sorted_is yp ys' wp ok.kst
        subst yk
        generalize g7 : upd _ q7 _ = H7
        obtain ⟨s7, e7⟩ := new_of n7 g7
        have s47 := g5.sm.trans s7
        refine ⟨_, rfl, x, _, _, _, rfl, s47 _ _ ex4, T.clK, T.nNames, (by show 1 < 1000; decide), ?_⟩
        have n7x : q7 ≠ x := fun z => by subst z; rw [g5.sm _ _ ex4] at n7; cases n7
        have n7p : q7 ≠ p := fun z => by
          obtain ⟨o, ho⟩ := hpp
          rw [z, g5.sm _ _ (sx _ _ nx.symm ho)] at n7
          cases n7
        refine go _ (fun b o hb e => by rw [upd_ne hb]; exact s47 _ _ (sx b o hb e)) ⟨dx, D, q7, nx, nDp, n7p, upd_same, by rw [upd_ne nxD]; exact s47 _ _ eD, by rw [upd_ne n7x]; exact e7⟩
def RKs (a : Ad) (x y : Addr) (H : Hp) : Prop := ∃ g p, KsAt a p x H g ∧ KsAt a p y H g ∧ g.Ok
theorem sc_Kinds__eq_ : FnScope ["self", "other"] ["self", "other"] (defScope s_Kinds_eq_) := ⟨rfl, rfl, rfl, by decide +kernel, rfl, by decide +kernel, by decide +kernel⟩
theorem bd_Kinds__eq_ : BindsOf "__eq__" "Kinds.__eq__" s_Kinds_eq_ ["self", "other"] := fun _ _ _ _ _ _ us hl => match us, hl with | [_, _], _ => rfl
theorem d_Ke (T : Tp K mg a) : ∃ fd, FnOk P w K mg base CX0 (n + 1) a.fKe fd ["self", "other"] (spEq (RKs a)) ∧ Binds K fd ["self", "other"] [] := by
  obtain ⟨fd, F⟩ := T.qK
  refine ⟨fd, fn_mk F sc_Kinds__eq_ (fun vs H Q E h => ?_) (fun f cdv A outer s H vs Q E hr h => ?_), F.bindsN bd_Kinds__eq_⟩
  · obtain ⟨x, y, rfl, _⟩ := h
    rfl
  · obtain ⟨x, y, rfl, ⟨g, p, ⟨dx, d, l, _, _, _, e1, e2, e3⟩, ⟨dy, d', l', _, _, _, f1, f2, f3⟩, ok⟩, go⟩ := h
    have hu := hu1 hr
    refine ⟨_, (pss_one (ps_ret (pe_and (pe_callB (C8.call_isC T.icK) (by rfl) T.f_isinstance (by decide +kernel) (pa_cons (pv 1) (pa_cons (pe_glob (v := .ref a.CK) (by rfl) T.mgK rfl) pa_nil))) (pe_one (pe_cmpR (op_eqT hu) (pe_fldK (K := K) rfl (pv 0) rfl) (pe_fldK (K := K) rfl (pv 1) rfl) (nomark _)))))), ?_⟩
    refine ⟨_, rfl, y, _, _, rfl, f1, _, rfl, ifT ?_⟩
    refine ⟨_, rfl, x, _, _, _, _, rfl, e1, T.clK, T.nTold, rfl, _, rfl, y, _, _, _, _, rfl, f1, T.clK, T.nTold, rfl, ?_⟩
    refine ⟨d, d', _, _, rfl, rfl, e2, f2, rfl, fun q hq => ?_, go H (fun _ _ z => z)⟩
    refine ⟨valV_nodup (grid_nodup ok.kst) hq, ?_⟩
    obtain ⟨q', _, rfl⟩ := List.mem_map.mp hq
    rfl
def spCkK (a : Ad) : Sp := fun vs H Q _ => ∃ x g p, vs = [.ref x] ∧ KsAt a p x H g ∧ Q .non H
theorem sc_check_kinds : FnScope ["value"] ["value"] (defScope s_check_kinds) := ⟨rfl, rfl, rfl, by decide +kernel, rfl, by decide +kernel, by decide +kernel⟩
theorem bd_check_kinds : BindsOf "check_kinds" "check_kinds" s_check_kinds ["value"] := fun _ _ _ _ _ _ us hl => match us, hl with | [_], _ => rfl
theorem d_check_kinds (T : Tp K mg a) : Df P w K mg base (n + 1) "check_kinds" ["value"] (spCkK a) := by
  refine df_mk T 3 rfl sc_check_kinds bd_check_kinds (fun vs H Q E h => ?_) (fun f cdv A outer s H vs Q E hr h => ?_)
  · obtain ⟨x, g, p, rfl, _⟩ := h
    rfl
  · obtain ⟨x, g, p, rfl, ⟨dx, d, l, _, _, _, e1, e2, e3⟩, go⟩ := h
    refine ⟨_, (pss_one (ps_if (pt_not (pt_val (pe_callB (C8.call_isC T.icK) (by rfl) T.f_isinstance (by decide +kernel) (pa_cons (pv 0) (pa_cons (pe_glob (v := .ref a.CK) (by rfl) T.mgK rfl) pa_nil)))))
      (pss_one ps_never)
      pss_nil)), ?_⟩
    refine ⟨_, rfl, x, _, _, rfl, e1, _, rfl, ifF ?_⟩
    exact go
def spKindOf (a : Ad) : Sp := fun vs H Q _ => ∃ x z g p, vs = [.ref x, .str z] ∧ KsAt a p x H g ∧ Q (.bl (decide (z ∈ g.ks))) H
theorem sc_is_kind_of : FnScope ["kinds", "value"] ["kinds", "value"] (defScope s_is_kind_of) := ⟨rfl, rfl, rfl, by decide +kernel, rfl, by decide +kernel, by decide +kernel⟩
theorem bd_is_kind_of : BindsOf "is_kind_of" "is_kind_of" s_is_kind_of ["kinds", "value"] := fun _ _ _ _ _ _ us hl => match us, hl with | [_, _], _ => rfl
theorem d_is_kind_of (T : Tp K mg a) : Df P w K mg base (n + 1) "is_kind_of" ["kinds", "value"] (spKindOf a) := by
  refine df_mk T 4 rfl sc_is_kind_of bd_is_kind_of (fun vs H Q E h => ?_) (fun f cdv A outer s H vs Q E hr h => ?_)
  · obtain ⟨x, z, g, p, rfl, _⟩ := h
    rfl
  · obtain ⟨x, z, g, p, rfl, ⟨dx, d, l, _, _, _, e1, e2, e3⟩, go⟩ := h
    refine ⟨_, (pss_one (ps_ret (pe_and (pe_callB (call_isiK_ (K := K) rfl) (by rfl) T.f_isinstance (by decide +kernel) (pa_cons (pv 1) (pa_cons (pe_bltn (v := .ty "str") (u := .type "str") (by rfl) T.f_str (by decide +kernel) rfl) pa_nil))) (pe_one (pe_cmpR (op_in_seqK (K := K) rfl) (pv 1) (pe_fldK (K := K) rfl (pv 0) rfl) (by rfl)))))), ?_⟩
    refine ⟨_, rfl, _, _, _, _, _, rfl, .ty _, .base (.str _), kit_ty (by rfl), _, rfl, ifT ?_⟩
    refine ⟨_, rfl, _, rfl, x, _, _, _, _, rfl, e1, T.clK, T.nNames, rfl, l, _, rfl, .inl (SqL.of e3), rfl, flat_strs _, ?_⟩
    rw [show (if false = true then !inV (V.str z) (g.ks.map V.str) else inV (V.str z) (g.ks.map V.str)) = decide (z ∈ g.ks) from inV_strs z g.ks]
    exact go
def spTog (a : Ad) : Sp := fun vs H Q _ => ∃ x l g p, ∃ (k : Str) (ks : List Str), vs = [.ref x, .ref l] ∧ KsAt a p x H g ∧ g.Ok ∧ H l = some (.lst ((k :: ks).map V.str)) ∧ (∀ y ∈ k :: ks, y ∈ g.ks) ∧
  ∀ H', Same H H' → Q (.str (ks.foldl g.mul k)) H'
theorem cut1 (v : V) (vs : List V) : cutV (v :: vs) (some 1) none = vs := by
  unfold cutV
  have h1 : HT.sIx (v :: vs).length 0 (some 1) = 1 := by
    show min ((1 : Int)).toNat (vs.length + 1) = 1
    simp
  have h2 : HT.sIx (v :: vs).length (v :: vs).length none = (v :: vs).length := rfl
  rw [h1, h2]
  simp
theorem sc_together : FnScope ["kinds", "row", "found", "kind"] ["kinds", "row"] (defScope s_together) := ⟨rfl, rfl, rfl, by decide +kernel, rfl, by decide +kernel, by decide +kernel⟩
theorem bd_together : BindsOf "together" "together" s_together ["kinds", "row"] := fun _ _ _ _ _ _ us hl => match us, hl with | [_, _], _ => rfl
theorem d_together (T : Tp K mg a) : Df P w K mg base (n + 1) "together" ["kinds", "row"] (spTog a) := by
  refine df_mk T 5 rfl sc_together bd_together (fun vs H Q E h => ?_) (fun f cdv A outer s H vs Q E hr h => ?_)
  · obtain ⟨x, l, g, p, k, ks, rfl, _⟩ := h
    rfl
  · obtain ⟨x, l, g, p, k, ks, rfl, ⟨dx, d, l', _, _, _, e1, e2, e3⟩, ok, el, hk, go⟩ := h
    have hu := hu1 hr
    have hs := szl
    refine ⟨_, (pss_cons (ps_set (i := 2) sc_together.nd rfl (Or.inl rfl) (pe_ix (ix_listK (K := K) rfl) (pv 1) pe_int (fun _ _ => rfl)))
    (pss_cons (ps_for PassesOwn.never rfl (pi_listK (K := K) rfl (pe_slice (sl_listK (K := K) rfl) (pv 1) (po_some pe_int) po_none)) (pg_name (i := 3) sc_together.nd rfl (Or.inl rfl))
      (pss_one (ps_set (i := 2) sc_together.nd rfl (Or.inl rfl) (pe_dget hu (pe_fldK (K := K) rfl (pv 0) rfl) (pe_tup (pa_cons (pv 2) (pa_cons (pv 3) pa_nil))) (fun _ _ => rfl)))))
    (pss_one (ps_ret (pv 2))))), ?_⟩
    refine ⟨_, rfl, l, _, 0, .str k, rfl, rfl, SqL.of el, at0 _ _, ?_⟩
    refine ⟨_, rfl, _, rfl, l, _, rfl, SqL.of el, fun q1 n1 => ?_⟩
    rw [List.map_cons, cut1]
    generalize g1 : upd _ q1 _ = H1
    obtain ⟨s1, f1⟩ := new_of n1 g1
    refine ⟨q1, rfl, ⟨_, SqL.of f1⟩, ?_⟩
    refine for_list (xs := ks.map V.str) (fun i σ H2 => Same H1 H2 ∧ (ks.take i).foldl g.mul k ∈ g.ks ∧ ∃ u, σ = [some (.ref x), some (.ref l), some (.str ((ks.take i).foldl g.mul k)), u]) ⟨Same.refl _, hk k List.mem_cons_self, _, rfl⟩ (fun i σ H2 _ hv => SqL.of (hv.1 _ _ f1)) ?_ ?_
    · rintro i v σ H2 hi ⟨s2, hm, u, rfl⟩
      rw [List.getElem?_map] at hi
      obtain ⟨y, hy, rfl⟩ := Option.map_eq_some_iff.mp hi
      have my : y ∈ g.ks := hk y (List.mem_cons_of_mem _ (List.mem_of_getElem? hy))
      refine ⟨_, rfl, x, _, _, _, _, rfl, s2 _ _ (s1 _ _ e1), T.clK, T.nTold, rfl, _, rfl, _, rfl, Nat.le_trans (by decide : 2 ≤ 4096) hs, fun q3 n3 => ?_⟩
      generalize g3 : upd _ q3 _ = H3
      obtain ⟨s3, f3⟩ := new_of n3 g3
      refine ⟨d, _, rfl, dgetP (.inl (s3 _ _ (s2 _ _ (s1 _ _ e2)))) f3 (grid_val ok.kst hm my), ?_⟩
      have tk : (ks.take (i + 1)).foldl g.mul k = g.mul ((ks.take i).foldl g.mul k) y := by
        rw [List.take_add_one, hy, List.foldl_append]
        rfl
      exact ⟨s2.trans s3, by rw [tk]; exact ok.cl _ hm _ my, _, by rw [tk]; rfl⟩
    · rintro σ H2 ⟨s2, hm, u, rfl⟩
      refine ⟨_, rfl, ?_⟩
      rw [List.length_map, List.take_length]
      exact go H2 (s1.trans s2)
def spSqs (a : Ad) : Sp := fun vs H Q _ => ∃ x g p, vs = [.ref x] ∧ KsAt a p x H g ∧ g.Ok ∧ ∀ q H', Same H H' → H q = none → H' q = some (.lst (g.sq.map V.str)) → Q (.ref q) H'
theorem sc_squares_of : FnScope ["kinds", "kind"] ["kinds"] (defScope s_squares_of) := ⟨rfl, rfl, rfl, by decide +kernel, rfl, by decide +kernel, by decide +kernel⟩
theorem bd_squares_of : BindsOf "squares_of" "squares_of" s_squares_of ["kinds"] := fun _ _ _ _ _ _ us hl => match us, hl with | [_], _ => rfl
theorem d_squares_of (T : Tp K mg a) : Df P w K mg base (n + 1) "squares_of" ["kinds"] (spSqs a) := by
  refine df_mk T 6 rfl sc_squares_of bd_squares_of (fun vs H Q E h => ?_) (fun f cdv A outer s H vs Q E hr h => ?_)
  · obtain ⟨x, g, p, rfl, _⟩ := h
    rfl
  · obtain ⟨x, g, p, rfl, ⟨dx, d, l, _, _, _, e1, e2, e3⟩, ok, go⟩ := h
    have hu := hu1 hr
    have hs := szl
    have kn := ok.kn
    refine ⟨_, (pss_one (ps_ret (pe_lc (own := [("kind", 1)]) rfl sc_squares_of.nd (pi_listK (K := K) rfl (pe_fldK (K := K) rfl (pv 0) rfl)) (blkOk_by (own := [("kind", 1)]) (N := ["kinds", "kind"]) (sc := defScope s_squares_of) (by decide +kernel)) (fun _ _ _ _ _ => (pg_name (i := 1) sc_squares_of.nd rfl (Or.inl rfl))) (fun _ _ _ _ _ => (pts_one (pt_cmpR op_eq (pe_dget hu (pe_fldK (K := K) rfl (pv 0) rfl) (pe_tup (pa_cons (pv 1) (pa_cons (pv 1) pa_nil))) (fun _ _ => rfl)) (pv 1) (nomark _)))) (fun _ _ _ _ _ => (pv 1))))), ?_⟩
    refine ⟨_, rfl, x, _, _, _, _, rfl, e1, T.clK, T.nNames, rfl, l, rfl, ⟨_, SqL.of e3⟩, fun D nD => ?_⟩
    refine lc_list (xs := g.ks.map V.str) (fun i H1 => Ac H D (((g.ks.take i).filter fun k => decide (g.mul k k = k)).map V.str) H1) (Ac.start nD) (fun i H1 _ hv => SqL.of (hv.sm _ _ e3)) ?_ ?_
    · intro i v H1 hi hv
      rw [List.getElem?_map] at hi
      obtain ⟨y, hy, rfl⟩ := Option.map_eq_some_iff.mp hi
      have my : y ∈ g.ks := List.mem_of_getElem? hy
      refine ⟨rfl, _, rfl, x, _, _, _, _, rfl, hv.sm _ _ e1, T.clK, T.nTold, rfl, _, rfl, _, rfl, Nat.le_trans (by decide : 2 ≤ 4096) hs, fun q3 n3 => ?_⟩
      generalize g3 : upd _ q3 _ = H3
      obtain ⟨s3, f3⟩ := new_of n3 g3
      refine ⟨d, _, rfl, dgetP (.inl (s3 _ _ (hv.sm _ _ e2))) f3 (grid_val ok.kst my my), _, rfl, rfl, _, rfl, ?_⟩
      have tk : (g.ks.take (i + 1)).filter (fun k => decide (g.mul k k = k)) = (g.ks.take i).filter (fun k => decide (g.mul k k = k)) ++ if g.mul y y = y then [y] else [] := by
        rw [List.take_add_one, hy, List.filter_append]
        congr 1
        show List.filter _ [y] = _
        by_cases h : g.mul y y = y <;> simp [h]
      by_cases h : g.mul y y = y
      · rw [h, decide_eq_true rfl]
        rw [if_pos h] at tk
        refine ifT ⟨_, rfl, hv.step s3 ?_ ?_⟩
        · rw [List.length_map]
          have := List.length_filter_le (fun k => decide (g.mul k k = k)) (g.ks.take i)
          rw [List.length_take] at this
          omega
        · rw [tk, List.map_append]; rfl
      · rw [decide_eq_false (fun z => h (by injection z))]
        rw [if_neg h, List.append_nil] at tk
        refine ifF ?_
        rw [tk]
        exact hv.sml s3
    · intro H1 hv
      refine go D H1 hv.sm nD ?_
      have := hv.at_
      rw [List.length_map, List.take_length] at this
      exact this
end
end K12

set_option maxHeartbeats 4000000
/-! Short forms: logs as data, deeds in any order. -/
namespace K12
open PySem PySem.Spec L2
theorem szl' : 4096 ≤ sizeLine := by decide
def unkD : Key × V → Str × Str
  | (.inr x, .str y) => (x, y)
  | _ => ("", "")
theorem dents_perm_of : ∀ {kvs : List (Key × V)} {ds : List (Str × Str)}, kvs.Perm (dents ds) → ∃ es, kvs = dents es ∧ es.Perm ds
  | kvs, ds, h => by
    have all : ∀ x ∈ kvs, ∃ q : Str × Str, x = ((Sum.inr q.1 : Key), V.str q.2) := fun x hx => by
      obtain ⟨q, _, e⟩ := List.mem_map.mp (h.subset hx)
      exact ⟨q, e.symm⟩
    have gen : ∀ l : List (Key × V), (∀ x ∈ l, ∃ q : Str × Str, x = ((Sum.inr q.1 : Key), V.str q.2)) → ∃ es, l = dents es := by
      intro l
      induction l with
      | nil => intro _; exact ⟨[], rfl⟩
      | cons x r ih =>
        intro h
        obtain ⟨q, e⟩ := h x List.mem_cons_self
        obtain ⟨ws, e2⟩ := ih fun y hy => h y (List.mem_cons_of_mem _ hy)
        exact ⟨q :: ws, by rw [e, e2]; rfl⟩
    obtain ⟨es, e⟩ := gen kvs all
    refine ⟨es, e, ?_⟩
    rw [e] at h
    have back : ∀ l : List (Str × Str), (dents l).map unkD = l := fun l => by
      induction l with
      | nil => rfl
      | cons q l ih =>
        show unkD (Sum.inr q.1, V.str q.2) :: (dents l).map unkD = _
        rw [ih]; rfl
    have := h.map unkD
    rw [back, back] at this
    exact this
theorem strs_data {K : PySem.W.Frag} {H : Hp} : ∀ l : List Str, DpAll K H (l.map V.str) (l.map PyData.str)
  | [] => .nil
  | x :: r => .cons (.str x) (strs_data r)
theorem word_ok {x : Str} (h : isWord x) : PyData.strOk x = true := by
  unfold PyData.strOk
  rw [Array.all_eq_true']
  intro c hc
  have hl : ∀ d ∈ lettersS.cps.toList, d < 1114112 := by decide +kernel
  exact decide_eq_true (hl c (h.2.2 c (Array.mem_toList_iff.mpr hc)))
theorem strs_lay : ∀ l : List Str, (∀ y ∈ l, isWord y) → PyData.canLayAll0 (l.map PyData.str) = true
  | [], _ => by unfold PyData.canLayAll0; rfl
  | x :: r, h => by
    rw [List.map_cons]
    unfold PyData.canLayAll0
    rw [strs_lay r fun y hy => h y (List.mem_cons_of_mem _ hy), Bool.and_true]
    unfold PyData.canLay0
    exact word_ok (h x List.mem_cons_self)
theorem strs_dep : ∀ l : List Str, PyData.depthAll (l.map PyData.str) ≤ 1
  | [] => by unfold PyData.depthAll; exact Nat.zero_le _
  | x :: r => by
    have := strs_dep r
    rw [List.map_cons]
    unfold PyData.depthAll PyData.depth
    omega
theorem tw_in {g : Sg} (h : g.Ok) {x : Str} (hx : x ∈ g.tw) : x ∈ g.ks ∧ x ∈ g.sq := by
  have h1 := h.tws.subset hx
  exact ⟨(List.mem_filter.mp h1).1, h1⟩
theorem tw_pw {g : Sg} (h : g.Ok) : g.tw.Pairwise slt := (h.kst.sublist List.filter_sublist).sublist h.tws
theorem tw_len {g : Sg} (h : g.Ok) : g.tw.length ≤ 4 := by
  have h1 := h.tws.length_le
  have h2 : g.sq.length ≤ g.ks.length := List.length_filter_le _ _
  have := h.kn
  omega
theorem kindOf_map (g : Sg) (x : Str) (xs : List Str) : kindOf g (x :: xs) = (xs.map g.kdD).foldl g.mul (g.kdD x) := by
  rw [List.foldl_map]; rfl
theorem KsAt.frz {a : Ad} {p x d : Addr} {H : Hp} {g : Sg} {kvs : List (Key × V)} (h : KsAt a p x H g) (e : H d = some (.dK kvs)) (u : HO) : KsAt a p x (upd H d u) g := by
  obtain ⟨dx, dd, l, n1, n2, n3, e1, e2, e3⟩ := h
  exact ⟨dx, dd, l, n1, n2, n3, by rw [upd_ne (fun z => by subst z; rw [e] at e1; cases e1)]; exact e1, by rw [upd_ne (fun z => by subst z; rw [e] at e2; cases e2)]; exact e2, by rw [upd_ne (fun z => by subst z; rw [e] at e3; cases e3)]; exact e3⟩
end K12

set_option maxHeartbeats 4000000
/-! The program: deeds, settings. -/
namespace K12
open PySem PySem.Spec L2
section
variable {P : Program} {w : World} {K : PySem.W.Frag} {mg : Str → Option Value} {base : Heap} {a : Ad} {n : Nat}
def spTk (a : Ad) : Sp := fun vs H Q _ => ∃ x p, ∃ g : Sg, vs = [.ref x] ∧ g.Ok ∧ KsAt a p x H g ∧ (∃ o, H p = some o) ∧ ∀ q H', Same H H' → H q = none → KsAt a p q H' g.op → Q (.ref q) H'
theorem sc_turned_kinds : FnScope ["kinds", "one", "other"] ["kinds"] (defScope s_turned_kinds) := ⟨rfl, rfl, rfl, by decide +kernel, rfl, by decide +kernel, by decide +kernel⟩
theorem bd_turned_kinds : BindsOf "turned_kinds" "turned_kinds" s_turned_kinds ["kinds"] := fun _ _ _ _ _ _ us hl => match us, hl with | [_], _ => rfl
theorem d_turned_kinds (T : Tp K mg a) (D_Ki : ∃ fd, FnOk P w K mg base CX0 n a.fKi fd ["self", "table"] (spKi a) ∧ Binds K fd ["self", "table"] []) : Df P w K mg base (n + 1 + 1) "turned_kinds" ["kinds"] (spTk a) := by
  obtain ⟨fd, F_Ki, B_Ki⟩ := D_Ki
  refine df_mk T 7 rfl sc_turned_kinds bd_turned_kinds (fun vs H Q E h => ?_) (fun f cdv A outer s H vs Q E hr h => ?_)
  · obtain ⟨x, p, g, rfl, _⟩ := h
    rfl
  · obtain ⟨x, p, g, rfl, ok, ⟨dx, d, l, nx, nd, nl, e1, e2, e3⟩, hpp, go⟩ := h
    have hu := hu1 hr
    have hs := szl
    have gl : (grid g.ks g.mul).length ≤ 16 := by
      rw [perm_len (List.Perm.refl _)]
      exact Nat.mul_le_mul (Nat.le_trans ok.kn (Nat.le_refl 4)) ok.kn
    refine ⟨_, (pss_one (ps_ret (pe_make T.mkK F_Ki hr (by rfl) T.mgK B_Ki .nil pass0 (pa_cons (pe_lock (pe_dcT (own := [("one", 1), ("other", 2)]) rfl hr.units0 sc_turned_kinds.nd (pi_keys (pe_fldK (K := K) rfl (pv 0) rfl)) (blkOk_by (own := [("one", 1), ("other", 2)]) (N := ["kinds", "one", "other"]) (sc := defScope s_turned_kinds) (by decide +kernel)) (fun _ _ _ _ _ => (pg_tb (n := 2) rfl (pgs_cons (pg_name (i := 1) sc_turned_kinds.nd rfl (Or.inl rfl)) (pgs_cons (pg_name (i := 2) sc_turned_kinds.nd rfl (Or.inl rfl)) pgs_nil)))) (fun _ _ _ _ _ => pts_nil) (fun _ _ _ _ _ => (pe_tup (pa_cons (pv 1) (pa_cons (pv 2) pa_nil)))) (fun _ _ _ _ _ => (pe_dget hu (pe_fldK (K := K) rfl (pv 0) rfl) (pe_tup (pa_cons (pv 2) (pa_cons (pv 1) pa_nil))) (fun _ _ => rfl))))) pa_nil)))), ?_⟩
    refine ⟨d, _, e2, trivial, fun od => ?_⟩
    have x0 : upd H d (.frz od (.dT (grid g.ks g.mul))) x = some (.ins a.CK dx [("told", .ref d), ("names", .ref l)]) := by
      rw [upd_ne (fun z => by subst z; rw [e2] at e1; cases e1)]; exact e1
    refine ⟨_, rfl, x, _, _, _, _, rfl, x0, T.clK, T.nTold, rfl, d, od, rfl, .inr ⟨grid g.ks g.mul, upd_same, fun D nD => ?_⟩⟩
    have onow : (grid g.ks g.op.mul).length = (grid g.ks g.mul).length := by unfold grid; rw [List.length_map, List.length_map]
    refine dcT_it walk_keysT (fun i H1 => Gr (upd H d (.frz od (.dT (grid g.ks g.mul)))) D (.dT ((grid g.ks g.op.mul).take i)) H1) (Gr.start nD) (fun i H1 _ hv => hv.sm _ _ upd_same) ?_ ?_
    · rintro i v H1 H2 hi hv ⟨rfl, k, v, q, hk, rfl, hq⟩
      obtain ⟨y, z, hy, hz, rfl, rfl⟩ := perm_ent (List.Perm.refl _) hk
      have gi : (grid g.ks g.op.mul)[i]? = some (keyP (y, z), V.str (g.mul z y)) := by
        unfold grid at hk ⊢
        rw [List.getElem?_map] at hk ⊢
        obtain ⟨q', hq', e⟩ := Option.map_eq_some_iff.mp hk
        rw [hq']
        injection e with e _
        have := keyP_inj e
        subst this
        rfl
      have two : 2 ≤ sizeLine := Nat.le_trans (by decide : 2 ≤ 4096) hs
      refine ⟨q, _, rfl, SqT.of hq, rfl, _, _, rfl, _, _, rfl, rfl, rfl, ?_⟩
      refine ⟨_, rfl, _, rfl, two, fun q1 n1 => ?_⟩
      generalize g1 : upd _ q1 _ = H3
      obtain ⟨s1, f1⟩ := new_of n1 g1
      refine ⟨_, rfl, x, _, _, _, _, rfl, s1 _ _ (hv.sm _ _ x0), T.clK, T.nTold, rfl, _, rfl, _, rfl, two, fun q2 n2 => ?_⟩
      generalize g2 : upd _ q2 _ = H4
      obtain ⟨s2, f2⟩ := new_of n2 g2
      refine ⟨d, _, rfl, dgetP (.inr ⟨od, s2 _ _ (s1 _ _ (hv.sm _ _ upd_same))⟩) f2 (grid_val ok.kst hz hy), _, keyP (y, z), q1, rfl, s2 _ _ f1, s2 _ _ (s1 _ _ hv.at_), ?_, ?_⟩
      · rw [List.length_take]; omega
      · rw [putK_next (grid_nodup ok.kst) gi]
        exact hv.put (s1.trans s2) _
    · rintro H1 hv
      rw [← onow, List.take_length] at hv
      refine ⟨hv.sm _ _ upd_same, ?_⟩
      obtain ⟨n1, n2⟩ := frz_new e2 hv.nw
      have s1 : Same H (upd H1 d (.dT (grid g.ks g.mul))) := Same.unlock e2 hv.sm
      have f1 : upd H1 d (.dT (grid g.ks g.mul)) D = some (.dT (grid g.ks g.op.mul)) := by rw [upd_ne n1]; exact hv.at_
      generalize upd H1 d (.dT (grid g.ks g.mul)) = H2 at s1 f1
      refine fun y dy ny ndy nyd => ⟨y, dy, D, _, p, g.op, rfl, ok.op, upd_same, ?_, List.Perm.refl _, ?_, ?_, fun H' kp ks => ⟨rfl, ?_⟩⟩
      · rw [upd_ne (fun z => by subst z; rw [f1] at ny; cases ny), upd_ne (fun z => by subst z; rw [f1] at ndy; cases ndy)]
        exact f1
      · obtain ⟨o, ho⟩ := hpp
        exact fun z => by subst z; rw [s1 _ _ ho] at ny; cases ny
      · obtain ⟨o, ho⟩ := hpp
        have := s1 _ _ ho
        exact ⟨o, by rw [upd_ne (fun z => by subst z; rw [this] at ny; cases ny), upd_ne (fun z => by subst z; rw [this] at ndy; cases ndy)]; exact this⟩
      · refine go y H' (fun b o e => ?_) (s1.free ny) ks
        have := s1 _ _ e
        have nb : b ≠ y := fun z => by subst z; rw [this] at ny; cases ny
        exact kp b o nb (by rw [upd_ne nb, upd_ne (fun z => by subst z; rw [this] at ndy; cases ndy)]; exact this)
def spAd (a : Ad) : Sp := fun vs H Q _ => ∃ x d p es, ∃ g : Sg, vs = [.ref x, .ref d] ∧ g.Ok ∧ KsAt a p x H g ∧ H d = some (.dK (dents es)) ∧ es.Perm g.ds ∧ ∀ H', Same H H' → Q (.bl true) H'
theorem sc_are_deeds : FnScope ["kinds", "value", "kind", "deed"] ["kinds", "value"] (defScope s_are_deeds) := ⟨rfl, rfl, rfl, by decide +kernel, rfl, by decide +kernel, by decide +kernel⟩
theorem bd_are_deeds : BindsOf "are_deeds" "are_deeds" s_are_deeds ["kinds", "value"] := fun _ _ _ _ _ _ us hl => match us, hl with | [_, _], _ => rfl
theorem d_are_deeds (T : Tp K mg a) (D_is_word : Df P w K mg base n "is_word" ["value"] spWord) (D_is_kind_of : Df P w K mg base n "is_kind_of" ["kinds", "value"] (spKindOf a)) : Df P w K mg base (n + 1) "are_deeds" ["kinds", "value"] (spAd a) := by
  refine df_mk T 8 rfl sc_are_deeds bd_are_deeds (fun vs H Q E h => ?_) (fun f cdv A outer s H vs Q E hr h => ?_)
  · obtain ⟨x, d, p, es, g, rfl, _⟩ := h
    rfl
  · obtain ⟨x, d, p, es, g, rfl, ok, hk, e, hp, go⟩ := h
    have hu := hu1 hr
    have hs := szl
    have kn := ok.kn
    have dn : (dents es).length ≤ 8 := by
      have := hp.length_eq
      have := ok.dn
      unfold dents
      rw [List.length_map]
      omega
    have nd : ((dents es).map (·.1)).Nodup := by
      have : (dents es).Perm (dents g.ds) := hp.map _
      exact ((this.map _).nodup_iff).mpr (ds_nodup ok.dst)
    refine ⟨_, (pss_cons (ps_if (PW.pt (pw_or (pt_not (pt_val (pe_callB (call_isiK_ (K := K) rfl) (by rfl) T.f_isinstance (by decide +kernel) (pa_cons (pv 1) (pa_cons (pe_bltn (v := .ty "dict") (u := .type "dict") (by rfl) T.f_dict (by decide +kernel) rfl) pa_nil))))) (pw_or1 (pt_not (pt_val (pe_callB (cr_allK (K := K) rfl rfl) (by rfl) T.f_all (by decide +kernel) (pa_cons (pe_lock (pe_lc (own := [("deed", 3)]) rfl sc_are_deeds.nd (pi_keys (pv 1)) (blkOk_by (own := [("deed", 3)]) (N := ["kinds", "value", "kind", "deed"]) (sc := defScope s_are_deeds) (by decide +kernel)) (fun _ _ _ _ _ => (pg_name (i := 3) sc_are_deeds.nd rfl (Or.inl rfl))) (fun _ _ _ _ _ => pts_nil) (fun _ _ _ _ _ => (pe_and (pe_f D_is_word hr (by rfl) (pa_cons (pv 3) pa_nil)) (pe_one (pe_f D_is_kind_of hr (by rfl) (pa_cons (pv 0) (pa_cons (pe_dget hu (pv 1) (pv 3) (fun _ _ => rfl)) pa_nil)))))))) pa_nil)))))))
      (pss_one (ps_ret pe_bl))
      pss_nil)
    (pss_one (ps_ret (pe_callB (cr_allK (K := K) rfl rfl) (by rfl) T.f_all (by decide +kernel) (pa_cons (pe_lc (own := [("kind", 2)]) rfl sc_are_deeds.nd (pi_listK (K := K) rfl (pe_fldK (K := K) rfl (pv 0) rfl)) (blkOk_by (own := [("kind", 2)]) (N := ["kinds", "value", "kind", "deed"]) (sc := defScope s_are_deeds) (by decide +kernel)) (fun _ _ _ _ _ => (pg_name (i := 2) sc_are_deeds.nd rfl (Or.inl rfl))) (fun _ _ _ _ _ => pts_nil) (fun _ _ _ _ _ => (pe_cmpR (op_in_seqK (K := K) rfl) (pv 2) (pe_lock (pe_lc (own := [("deed", 3)]) rfl sc_are_deeds.nd (pi_keys (pv 1)) (blkOk_by (own := [("deed", 3)]) (N := ["kinds", "value", "kind", "deed"]) (sc := relS { kind := .function, names := [(".0", .local), ("kind", .local), ("value", .free)], isGenerator := false, isCoroutine := false } (defScope s_are_deeds)) (by decide +kernel)) (fun _ _ _ _ _ => (pg_name (i := 3) sc_are_deeds.nd rfl (Or.inl rfl))) (fun _ _ _ _ _ => pts_nil) (fun _ _ _ _ _ => (pe_dget hu (pv 1) (pv 3) (fun _ _ => rfl))))) (by rfl)))) pa_nil))))), ?_⟩
    refine ⟨_, rfl, _, _, _, _, _, rfl, .ty _, .base (.dK e), kit_ty (by rfl), _, rfl, ?_⟩
    refine ifF ?_
    refine ⟨d, _, e, trivial, fun od => ?_⟩
    refine ⟨_, rfl, d, od, rfl, .inl ⟨_, upd_same, fun D nD => ?_⟩⟩
    refine lc_it walk_keys (fun i H1 => Ac (upd H d (.frz od (.dK (dents es)))) D (trs i) H1) (Ac.start nD) (fun i H1 _ hv => hv.sm _ _ upd_same) ?_ ?_
    · rintro i y H1 H2 hi hv ⟨rfl, k, v, hz, rfl⟩
      obtain ⟨c, hc, e1⟩ := List.mem_map.mp (List.mem_of_getElem? hz)
      have vv := valV_nodup nd (List.mem_of_getElem? hz)
      injection e1 with e1 e2
      subst e1 e2
      have hc' := hp.subset hc
      refine ⟨rfl, _, rfl, c.1, rfl, ok.dw c hc', fun H3 s3 => ⟨_, rfl, ?_⟩⟩
      refine ifT ⟨_, rfl, _, rfl, _, rfl, d, _, rfl, dgetK (.inr ⟨od, s3 _ _ (hv.sm _ _ upd_same)⟩) vv, x, _, g, p, rfl, (hk.frz e _).sm (hv.sm.trans s3), ?_⟩
      rw [decide_eq_true (ok.dk c hc')]
      exact hv.tr s3 (by omega)
    · intro H1 hv
      refine ⟨hv.sm _ _ upd_same, ?_⟩
      obtain ⟨nDd, nD0⟩ := frz_new e nD
      have g1 : Ac H D (trs (dents es).length) (upd H1 d (.dK (dents es))) := ⟨Same.unlock e hv.sm, nD0, by rw [upd_ne nDd]; exact hv.at_⟩
      have s2 := g1.sm
      generalize upd H1 d (.dK (dents es)) = H2 at g1 s2
      refine ⟨D, List.replicate (dents es).length true, rfl, SqL.of g1.at_, ?_⟩
      rw [all_rep]
      refine ⟨_, rfl, ifF ?_⟩
      obtain ⟨dx, dd, l, nx, ndd, nl, e1, e2, e3⟩ := hk.sm s2
      have e4 := s2 _ _ e
      refine ⟨_, rfl, x, _, _, _, _, rfl, e1, T.clK, T.nNames, rfl, l, rfl, ⟨_, SqL.of e3⟩, fun D nD => ?_⟩
      refine lc_list (xs := g.ks.map V.str) (fun i H1 => Ac H2 D (trs i) H1) (Ac.start nD) (fun i H1 _ hv => SqL.of (hv.sm _ _ e3)) ?_ ?_
      · intro i v H3 hi hv
        have hi4 : i < 4 := by
          have := (List.getElem?_eq_some_iff.mp hi).1
          rw [List.length_map] at this
          omega
        rw [List.getElem?_map] at hi
        obtain ⟨y, hy, rfl⟩ := Option.map_eq_some_iff.mp hi
        have my : y ∈ g.ks := List.mem_of_getElem? hy
        refine ⟨rfl, _, rfl, ?_⟩
        have e5 := hv.sm _ _ e4
        refine ⟨d, _, e5, trivial, fun od => ?_⟩
        refine ⟨_, rfl, d, od, rfl, .inl ⟨_, upd_same, fun D2 nD2 => ?_⟩⟩
        refine lc_it walk_keys (fun j H4 => Ac (upd H3 d (.frz od (.dK (dents es)))) D2 ((es.take j).map fun q => V.str q.2) H4) (Ac.start nD2) (fun i H1 _ hv => hv.sm _ _ upd_same) ?_ ?_
        · rintro j z H4 H5 hj hw ⟨rfl, k, v, hz, rfl⟩
          have vv := valV_nodup nd (List.mem_of_getElem? hz)
          unfold dents at hz
          rw [List.getElem?_map] at hz
          obtain ⟨c, hc, e1⟩ := Option.map_eq_some_iff.mp hz
          injection e1 with e1 e2
          subst e1 e2
          refine ⟨rfl, _, rfl, _, rfl, d, _, rfl, dgetK (.inr ⟨od, hw.sm _ _ upd_same⟩) vv, hw.step (Same.refl _) ?_ (take_map_succ _ hc)⟩
          rw [List.length_map, List.length_take]
          omega
        · intro H4 hw
          refine ⟨hw.sm _ _ upd_same, ?_⟩
          obtain ⟨m1, m2⟩ := frz_new e5 nD2
          have s5 : Same H3 (upd H4 d (.dK (dents es))) := Same.unlock e5 hw.sm
          have f5 : upd H4 d (.dK (dents es)) D2 = some (.lst ((es.map (·.2)).map V.str)) := by
            rw [upd_ne m1, hw.at_]
            unfold dents
            rw [List.length_map, List.take_length, List.map_map]
            rfl
          generalize upd H4 d (.dK (dents es)) = H5 at s5 f5
          refine ⟨D2, _, rfl, .inl (SqL.of f5), rfl, flat_strs _, ?_⟩
          obtain ⟨c, hc, hcy⟩ := ok.dall y my
          rw [show (if false = true then !inV (V.str y) ((es.map (·.2)).map V.str) else inV (V.str y) ((es.map (·.2)).map V.str)) = true from
            (inV_strs y _).trans (decide_eq_true (List.mem_map.mpr ⟨c, hp.symm.subset hc, hcy⟩))]
          exact hv.tr s5 (by omega)
      · intro H3 hv
        exact hv.all fun H' s' => go H' (s2.trans s')
end
end K12

set_option maxHeartbeats 4000000
/-! The program: settings. -/
namespace K12
open PySem PySem.Spec L2
section
variable {P : Program} {w : World} {K : PySem.W.Frag} {mg : Str → Option Value} {base : Heap} {a : Ad} {n : Nat}
def spAt (a : Ad) : Sp := fun vs H Q _ => ∃ x l p, ∃ g : Sg, vs = [.ref x, .ref l] ∧ g.Ok ∧ KsAt a p x H g ∧ H l = some (.lst (g.tw.map V.str)) ∧ ∀ H', Same H H' → Q (.bl true) H'
theorem sc_are_twice : FnScope ["kinds", "value", "squares", "rising", "at", "kind"] ["kinds", "value"] (defScope s_are_twice) := ⟨rfl, rfl, rfl, by decide +kernel, rfl, by decide +kernel, by decide +kernel⟩
theorem bd_are_twice : BindsOf "are_twice" "are_twice" s_are_twice ["kinds", "value"] := fun _ _ _ _ _ _ us hl => match us, hl with | [_, _], _ => rfl
theorem d_are_twice (T : Tp K mg a) (D_is_kind_of : Df P w K mg base n "is_kind_of" ["kinds", "value"] (spKindOf a)) (D_squares_of : Df P w K mg base n "squares_of" ["kinds"] (spSqs a)) : Df P w K mg base (n + 1) "are_twice" ["kinds", "value"] (spAt a) := by
  refine df_mk T 9 rfl sc_are_twice bd_are_twice (fun vs H Q E h => ?_) (fun f cdv A outer s H vs Q E hr h => ?_)
  · obtain ⟨x, l, p, g, rfl, _⟩ := h
    rfl
  · obtain ⟨x, l, p, g, rfl, ok, hk, e, go⟩ := h
    have hu := hu1 hr
    have hs := szl
    have tl := tw_len ok
    have tp := tw_pw ok
    refine ⟨_, (pss_cons (ps_if (PW.pt (pw_or (pt_not (pt_val (pe_callB (call_isiK_ (K := K) rfl) (by rfl) T.f_isinstance (by decide +kernel) (pa_cons (pv 1) (pa_cons (pe_bltn (v := .ty "list") (u := .type "list") (by rfl) T.f_list (by decide +kernel) rfl) pa_nil))))) (pw_or1 (pt_not (pt_val (pe_callB (cr_allK (K := K) rfl rfl) (by rfl) T.f_all (by decide +kernel) (pa_cons (pe_lc (own := [("kind", 5)]) rfl sc_are_twice.nd (pi_listK (K := K) rfl (pv 1)) (blkOk_by (own := [("kind", 5)]) (N := ["kinds", "value", "squares", "rising", "at", "kind"]) (sc := defScope s_are_twice) (by decide +kernel)) (fun _ _ _ _ _ => (pg_name (i := 5) sc_are_twice.nd rfl (Or.inl rfl))) (fun _ _ _ _ _ => pts_nil) (fun _ _ _ _ _ => (pe_f D_is_kind_of hr (by rfl) (pa_cons (pv 0) (pa_cons (pv 5) pa_nil))))) pa_nil)))))))
      (pss_one (ps_ret pe_bl))
      pss_nil)
    (pss_cons (ps_set (i := 2) sc_are_twice.nd rfl (Or.inr rfl) (pe_f D_squares_of hr (by rfl) (pa_cons (pv 0) pa_nil)))
    (pss_cons (ps_set (i := 3) sc_are_twice.nd rfl (Or.inl rfl) (pe_callB (cr_allK (K := K) rfl rfl) (by rfl) T.f_all (by decide +kernel) (pa_cons (pe_lc (own := [("at", 4)]) rfl sc_are_twice.nd (pi_range2 (by rfl) T.f_range (pa_cons pe_int (pa_cons (pe_callB (call_len_seqK (K := K) rfl) (by rfl) T.f_len PySem.boot_len (pa_cons (pv 1) pa_nil)) pa_nil))) (blkOk_by (own := [("at", 4)]) (N := ["kinds", "value", "squares", "rising", "at", "kind"]) (sc := defScope s_are_twice) (by decide +kernel)) (fun _ _ _ _ _ => (pg_name (i := 4) sc_are_twice.nd rfl (Or.inl rfl))) (fun _ _ _ _ _ => pts_nil) (fun _ _ _ _ _ => (pe_cmpR op_lt_str (pe_ix (ix_listK (K := K) rfl) (pv 1) (pe_op op_sub (pv 4) pe_int) (fun _ _ => rfl)) (pe_ix (ix_listK (K := K) rfl) (pv 1) (pv 4) (fun _ _ => rfl)) (nomark _)))) pa_nil)))
    (pss_one (ps_ret (pe_and (pv 3) (pe_one (pe_callB (cr_allK (K := K) rfl rfl) (by rfl) T.f_all (by decide +kernel) (pa_cons (pe_lc (own := [("kind", 5)]) rfl sc_are_twice.nd (pi_listK (K := K) rfl (pv 1)) (blkOk_by (own := [("kind", 5)]) (N := ["kinds", "value", "squares", "rising", "at", "kind"]) (sc := defScope s_are_twice) (by decide +kernel)) (fun _ _ _ _ _ => (pg_name (i := 5) sc_are_twice.nd rfl (Or.inl rfl))) (fun _ _ _ _ _ => pts_nil) (fun _ _ _ _ _ => (pe_cmpR (op_in_seqK (K := K) rfl) (pv 5) (pv 2) (by rfl)))) pa_nil))))))))), ?_⟩
    refine ⟨_, rfl, _, _, _, _, _, rfl, .ty _, .base (.lst e), kit_ty (by rfl), _, rfl, ?_⟩
    refine ifF ?_
    refine ⟨_, rfl, l, rfl, ⟨_, SqL.of e⟩, fun D nD => ?_⟩
    refine lc_list (xs := g.tw.map V.str) (fun i H1 => Ac H D (trs i) H1) (Ac.start nD) (fun i H1 _ hv => SqL.of (hv.sm _ _ e)) ?_ ?_
    · intro i v H1 hi hv
      have hi4 : i < 4 := by
        have := (List.getElem?_eq_some_iff.mp hi).1
        rw [List.length_map] at this
        omega
      rw [List.getElem?_map] at hi
      obtain ⟨y, hy, rfl⟩ := Option.map_eq_some_iff.mp hi
      refine ⟨rfl, _, rfl, _, rfl, x, y, g, p, rfl, hk.sm hv.sm, ?_⟩
      rw [decide_eq_true (tw_in ok (List.mem_of_getElem? hy)).1]
      exact hv.tr (Same.refl _) (by omega)
    · intro H1 hv
      refine ⟨D, List.replicate _ true, rfl, SqL.of hv.at_, ?_⟩
      rw [all_rep]
      refine ⟨_, rfl, ?_⟩
      refine ifF ?_
      refine ⟨_, rfl, x, g, p, rfl, hk.sm hv.sm, ok, fun q H2 s2 nq eq => ?_⟩
      have s12 := hv.sm.trans s2
      have e2 := s12 _ _ e
      refine ⟨_, rfl, l, _, rfl, .inl (SqL.of e2), _, _, rfl, ⟨by decide, by decide, ?_, ?_⟩, fun D2 n2 => ?_⟩
      · have : (0 : Int) ≤ ((g.tw.map V.str).length : Nat) := Int.natCast_nonneg _
        omega
      · rw [List.length_map]; omega
      refine lc_range (lo := 1) (n := _) (fun i H3 => Ac H2 D2 (trs i) H3) (Ac.start n2) ?_ ?_
      · intro i H3 hi hv3
        rw [List.length_map] at hi
        have h0 : i < g.tw.length := by omega
        have h1 : i + 1 < g.tw.length := by omega
        have lt : slt g.tw[i] g.tw[i + 1] := List.pairwise_iff_getElem.mp tp i (i + 1) h0 h1 (by omega)
        refine ⟨rfl, _, rfl, _, rfl, _, _, rfl, rfl, l, _, _, .str g.tw[i], rfl, rfl, SqL.of (hv3.sm _ _ e2), at_of (j := i) (by omega) (by rw [List.getElem?_map, List.getElem?_eq_getElem h0]; rfl), ?_⟩
        refine ⟨_, rfl, _, rfl, l, _, _, .str g.tw[i + 1], rfl, rfl, SqL.of (hv3.sm _ _ e2), at_of (j := i + 1) (by omega) (by rw [List.getElem?_map, List.getElem?_eq_getElem h1]; rfl), _, _, rfl, rfl, ?_⟩
        rw [decide_eq_true (show g.tw[i].cps.toList < g.tw[i + 1].cps.toList from lt)]
        exact hv3.tr (Same.refl _) (by omega)
      · intro H3 hv3
        refine ⟨D2, List.replicate _ true, rfl, SqL.of hv3.at_, ?_⟩
        rw [all_rep]
        refine ⟨_, rfl, _, rfl, ?_⟩
        refine ifT ?_
        have s13 := s12.trans hv3.sm
        refine ⟨_, rfl, l, rfl, ⟨_, SqL.of (s13 _ _ e)⟩, fun D4 n4 => ?_⟩
        refine lc_list (xs := g.tw.map V.str) (fun i H5 => Ac H3 D4 (trs i) H5) (Ac.start n4) (fun i H1 _ hv => SqL.of (hv.sm _ _ (s13 _ _ e))) ?_ ?_
        · intro i v H5 hi hv5
          have hi4 : i < 4 := by
            have := (List.getElem?_eq_some_iff.mp hi).1
            rw [List.length_map] at this
            omega
          rw [List.getElem?_map] at hi
          obtain ⟨y, hy, rfl⟩ := Option.map_eq_some_iff.mp hi
          refine ⟨rfl, _, rfl, _, rfl, q, _, rfl, .inl (SqL.of (hv5.sm _ _ (hv3.sm _ _ eq))), rfl, flat_strs _, ?_⟩
          rw [show (if false = true then !inV (V.str y) (g.sq.map V.str) else inV (V.str y) (g.sq.map V.str)) = true from (inV_strs y _).trans (decide_eq_true (tw_in ok (List.mem_of_getElem? hy)).2)]
          exact hv5.tr (Same.refl _) (by omega)
        · intro H5 hv5
          exact hv5.all fun H' s' => go H' (s13.trans s')
def spSi (a : Ad) : Sp := fun vs H Q _ => ∃ x dx k d l p es, ∃ g : Sg, vs = [.ref x, .ref k, .ref d, .ref l] ∧ g.Ok ∧ H x = some (.ins a.CS dx []) ∧ KsAt a p k H g ∧ H d = some (.dK (dents es)) ∧ es.Perm g.ds ∧ H l = some (.lst (g.tw.map V.str)) ∧ x ≠ p ∧ (∃ o, H p = some o) ∧
  ∀ H', (∀ b o, b ≠ x → H b = some o → H' b = some o) → SsAt a p x H' g → Q .non H'
theorem sc_Setting__init_ : FnScope ["self", "kinds", "deeds", "twice", "deed"] ["self", "kinds", "deeds", "twice"] (defScope s_Setting_init_) := ⟨rfl, rfl, rfl, by decide +kernel, rfl, by decide +kernel, by decide +kernel⟩
theorem bd_Setting__init_ : BindsOf "__init__" "Setting.__init__" s_Setting_init_ ["self", "kinds", "deeds", "twice"] := fun _ _ _ _ _ _ us hl => match us, hl with | [_, _, _, _], _ => rfl
theorem d_Si (T : Tp K mg a) (D_check_kinds : Df P w K mg base n "check_kinds" ["value"] (spCkK a)) (D_are_deeds : Df P w K mg base n "are_deeds" ["kinds", "value"] (spAd a)) (D_are_twice : Df P w K mg base n "are_twice" ["kinds", "value"] (spAt a)) :
    ∃ fd, FnOk P w K mg base CX0 (n + 1) a.fSi fd ["self", "kinds", "deeds", "twice"] (spSi a) ∧ Binds K fd ["self", "kinds", "deeds", "twice"] [] := by
  obtain ⟨fd, F⟩ := T.inS
  refine ⟨fd, fn_mk F sc_Setting__init_ (fun vs H Q E h => ?_) (fun f cdv A outer s H vs Q E hr h => ?_), F.bindsN bd_Setting__init_⟩
  · obtain ⟨x, dx, k, d, l, p, es, g, rfl, _⟩ := h
    rfl
  · obtain ⟨x, dx, k, d, l, p, es, g, rfl, ok, ex, hk, ed, hp, el, nx, hpp, go⟩ := h
    have hu := hu1 hr
    have hs := szl
    have dn : (dents es).length ≤ 8 := by
      have := hp.length_eq
      have := ok.dn
      unfold dents
      rw [List.length_map]
      omega
    have hpd : (dents es).Perm (dents g.ds) := hp.map _
    have nd : ((dents es).map (·.1)).Nodup := ((hpd.map _).nodup_iff).mpr (ds_nodup ok.dst)
    have hk' := hk
    obtain ⟨dk, dd, ll, m1, m2, m3, f1, f2, f3⟩ := hk'
    have kx : k ≠ x := fun z => by subst z; rw [ex] at f1; injection f1 with f1; injection f1 with _ _ f1; cases f1
    have ddx : dd ≠ x := fun z => by subst z; rw [ex] at f2; cases f2
    have llx : ll ≠ x := fun z => by subst z; rw [ex] at f3; cases f3
    have dx' : d ≠ x := fun z => by subst z; rw [ex] at ed; cases ed
    have lx' : l ≠ x := fun z => by subst z; rw [ex] at el; cases el
    obtain ⟨op, hop⟩ := hpp
    refine ⟨_, (pss_cons (ps_expr (pe_f D_check_kinds hr (by rfl) (pa_cons (pv 1) pa_nil)))
    (pss_cons (ps_if (pt_not (pt_val (pe_f D_are_deeds hr (by rfl) (pa_cons (pv 1) (pa_cons (pv 2) pa_nil)))))
      (pss_one ps_never)
      pss_nil)
    (pss_cons (ps_if (pt_not (pt_val (pe_f D_are_twice hr (by rfl) (pa_cons (pv 1) (pa_cons (pv 3) pa_nil)))))
      (pss_one ps_never)
      pss_nil)
    (pss_cons (ps_fld (pv 0) (pv 1) rfl)
    (pss_cons (ps_fld (pv 0) (pe_dc (own := [("deed", 4)]) rfl sc_Setting__init_.nd (pi_listK (K := K) rfl (pe_callB (call_sortedD rfl) (by rfl) T.f_sorted (by decide +kernel) (pa_cons (pv 2) pa_nil))) (blkOk_by (own := [("deed", 4)]) (N := ["self", "kinds", "deeds", "twice", "deed"]) (sc := defScope s_Setting_init_) (by decide +kernel)) (fun _ _ _ _ _ => (pg_name (i := 4) sc_Setting__init_.nd rfl (Or.inl rfl))) (fun _ _ _ _ _ => pts_nil) (fun _ _ _ _ _ => (pv 4)) (fun _ _ _ _ _ => (pe_dget hu (pv 2) (pv 4) (fun _ _ => rfl)))) rfl)
    (pss_cons (ps_fld (pv 0) (pe_callTy (call_list_ofK (K := K) rfl) (by rfl) T.f_list (by decide +kernel) (pa_cons (pv 3) pa_nil)) rfl)
    (pss_one (ps_fld (pv 0) pe_dnewK rfl)))))))), ?_⟩
    refine ⟨_, rfl, k, g, p, rfl, hk, ?_⟩
    refine ⟨_, rfl, _, rfl, k, d, p, es, g, rfl, ok, hk, ed, hp, fun H1 s1 => ⟨_, rfl, ?_⟩⟩
    refine ifF ?_
    refine ⟨_, rfl, _, rfl, k, l, p, g, rfl, ok, hk.sm s1, s1 _ _ el, fun H2 s2 => ⟨_, rfl, ?_⟩⟩
    refine ifF ?_
    have s12 := s1.trans s2
    refine ⟨_, rfl, _, rfl, x, _, _, _, rfl, s12 _ _ ex, T.clS, T.nSorts, by decide, ?_⟩
    have sx : ∀ b o, b ≠ x → H b = some o → upd H2 x (.ins a.CS dx (putF "sorts" (.ref k) [])) b = some o := fun b o hb e => by rw [upd_ne hb]; exact s12 _ _ e
    have ex3 : upd H2 x (.ins a.CS dx (putF "sorts" (.ref k) [])) x = some (.ins a.CS dx [("sorts", .ref k)]) := upd_same
    generalize upd H2 x (.ins a.CS dx (putF "sorts" (.ref k) [])) = H3 at sx ex3
    -- named
    refine ⟨_, rfl, d, dents es, es.map (·.1), rfl, .inl (sx _ _ dx' ed), dents_keys es, by rw [List.length_map]; unfold dents at dn; rw [List.length_map] at dn; omega, fun ys q4 yp ys' n4 => ?_⟩
    have yk : ys = g.ds.map (·.1) := sorted_is yp ys' (hp.map _) ok.dst
    subst yk
    generalize g4 : upd _ q4 _ = H4
    obtain ⟨s4, e4⟩ := new_of n4 g4
    refine ⟨q4, rfl, ⟨_, SqL.of e4⟩, fun D nD => ?_⟩
    refine dc_it (walk_list (xs := (g.ds.map (·.1)).map V.str)) (fun i H5 => Gr H4 D (.dK ((dents g.ds).take i)) H5) (Gr.start nD) (fun i H5 _ hv => SqL.of (hv.sm _ _ e4)) ?_ ?_
    · rintro i v H5 H6 hi hv ⟨rfl, hz⟩
      rw [List.getElem?_map, List.getElem?_map] at hz
      obtain ⟨z, hz1, rfl⟩ := Option.map_eq_some_iff.mp hz
      obtain ⟨c, hc, rfl⟩ := Option.map_eq_some_iff.mp hz1
      have gi : (dents g.ds)[i]? = some (Sum.inr c.1, V.str c.2) := by unfold dents; rw [List.getElem?_map, hc]; rfl
      have me : ((Sum.inr c.1 : Key), V.str c.2) ∈ dents es := hpd.symm.subset (List.mem_of_getElem? gi)
      have hi8 : i < 8 := by
        have := (List.getElem?_eq_some_iff.mp hc).1
        have := ok.dn
        omega
      refine ⟨rfl, _, rfl, _, rfl, _, rfl, d, _, rfl, dgetK (.inl (hv.sm _ _ (s4 _ _ (sx _ _ dx' ed)))) (valV_nodup nd me), _, Sum.inr c.1, rfl, hv.at_, ?_, ?_⟩
      · rw [List.length_take]; omega
      · rw [putK_next (ds_nodup ok.dst) gi]
        exact hv.put (Same.refl _) _
    · rintro H5 hv
      rw [List.length_map, List.length_map, show g.ds.length = (dents g.ds).length by unfold dents; rw [List.length_map], List.take_length] at hv
      have s35 := s4.trans hv.sm
      have nDx : D ≠ x := fun z => by subst z; rw [s4 _ _ ex3] at nD; cases nD
      have nDp : D ≠ p := fun z => by subst z; rw [s4 _ _ (sx _ _ nx.symm hop)] at nD; cases nD
      refine ⟨_, rfl, x, _, _, _, rfl, s35 _ _ ex3, T.clS, T.nNamed, (by show 1 < 1000; decide), ?_⟩
      have sx6 : ∀ b o, b ≠ x → H b = some o → upd H5 x (.ins a.CS dx (putF "named" (.ref D) [("sorts", .ref k)])) b = some o := fun b o hb e => by rw [upd_ne hb]; exact s35 _ _ (sx _ _ hb e)
      have ex6 : upd H5 x (.ins a.CS dx (putF "named" (.ref D) [("sorts", .ref k)])) x = some (.ins a.CS dx [("sorts", .ref k), ("named", .ref D)]) := upd_same
      have eD6 : upd H5 x (.ins a.CS dx (putF "named" (.ref D) [("sorts", .ref k)])) D = some (.dK (dents g.ds)) := by rw [upd_ne nDx]; exact hv.at_
      generalize upd H5 x (.ins a.CS dx (putF "named" (.ref D) [("sorts", .ref k)])) = H6 at sx6 ex6 eD6
      -- again
      refine ⟨_, rfl, l, _, rfl, .inl (SqL.of (sx6 _ _ lx' el)), fun q7 n7 => ?_⟩
      generalize g7 : upd _ q7 _ = H7
      obtain ⟨s7, e7⟩ := new_of n7 g7
      refine ⟨_, rfl, x, _, _, _, rfl, s7 _ _ ex6, T.clS, T.nAgain, (by show 2 < 1000; decide), ?_⟩
      have n7x : q7 ≠ x := fun z => by subst z; rw [ex6] at n7; cases n7
      have n7p : q7 ≠ p := fun z => by subst z; rw [sx6 _ _ nx.symm hop] at n7; cases n7
      have sx8 : ∀ b o, b ≠ x → H b = some o → upd H7 x (.ins a.CS dx (putF "again" (.ref q7) [("sorts", .ref k), ("named", .ref D)])) b = some o := fun b o hb e => by rw [upd_ne hb]; exact s7 _ _ (sx6 _ _ hb e)
      have ex8 : upd H7 x (.ins a.CS dx (putF "again" (.ref q7) [("sorts", .ref k), ("named", .ref D)])) x = some (.ins a.CS dx [("sorts", .ref k), ("named", .ref D), ("again", .ref q7)]) := upd_same
      have eD8 : upd H7 x (.ins a.CS dx (putF "again" (.ref q7) [("sorts", .ref k), ("named", .ref D)])) D = some (.dK (dents g.ds)) := by rw [upd_ne nDx]; exact s7 _ _ eD6
      have eq8 : upd H7 x (.ins a.CS dx (putF "again" (.ref q7) [("sorts", .ref k), ("named", .ref D)])) q7 = some (.lst (g.tw.map V.str)) := by rw [upd_ne n7x]; exact e7
      generalize upd H7 x (.ins a.CS dx (putF "again" (.ref q7) [("sorts", .ref k), ("named", .ref D)])) = H8 at sx8 ex8 eD8 eq8
      -- known
      refine fun q9 n9 => ?_
      generalize g9 : upd _ q9 _ = H9
      obtain ⟨s9, e9⟩ := new_of n9 g9
      refine ⟨_, rfl, x, _, _, _, rfl, s9 _ _ ex8, T.clS, T.nKnown, (by show 3 < 1000; decide), ?_⟩
      have n9x : q9 ≠ x := fun z => by subst z; rw [ex8] at n9; cases n9
      have n9p : q9 ≠ p := fun z => by subst z; rw [sx8 _ _ nx.symm hop] at n9; cases n9
      have sxx : ∀ b o, b ≠ x → H b = some o → upd H9 x (.ins a.CS dx (putF "known" (.ref q9) [("sorts", .ref k), ("named", .ref D), ("again", .ref q7)])) b = some o := fun b o hb e => by rw [upd_ne hb]; exact s9 _ _ (sx8 _ _ hb e)
      refine go _ sxx ⟨dx, k, D, q7, q9, nx, nDp, n7p, n9p, upd_same, ⟨dk, dd, ll, m1, m2, m3, sxx _ _ kx f1, sxx _ _ ddx f2, sxx _ _ llx f3⟩, ?_, ?_, ?_⟩
      · rw [upd_ne nDx]; exact s9 _ _ eD8
      · rw [upd_ne n7x]; exact s9 _ _ eq8
      · rw [upd_ne n9x]; exact e9
def RSs (a : Ad) (x y : Addr) (H : Hp) : Prop := ∃ g p, SsAt a p x H g ∧ SsAt a p y H g ∧ g.Ok
theorem sc_Setting__eq_ : FnScope ["self", "other"] ["self", "other"] (defScope s_Setting_eq_) := ⟨rfl, rfl, rfl, by decide +kernel, rfl, by decide +kernel, by decide +kernel⟩
theorem bd_Setting__eq_ : BindsOf "__eq__" "Setting.__eq__" s_Setting_eq_ ["self", "other"] := fun _ _ _ _ _ _ us hl => match us, hl with | [_, _], _ => rfl
theorem d_Se (T : Tp K mg a) (D_Ke : ∃ fd, FnOk P w K mg base CX0 n a.fKe fd ["self", "other"] (spEq (RKs a)) ∧ Binds K fd ["self", "other"] []) : ∃ fd, FnOk P w K mg base CX0 (n + 1) a.fSe fd ["self", "other"] (spEq (RSs a)) ∧ Binds K fd ["self", "other"] [] := by
  obtain ⟨fd, F⟩ := T.qS
  obtain ⟨fk, F_Ke, B_Ke⟩ := D_Ke
  refine ⟨fd, fn_mk F sc_Setting__eq_ (fun vs H Q E h => ?_) (fun f cdv A outer s H vs Q E hr h => ?_), F.bindsN bd_Setting__eq_⟩
  · obtain ⟨x, y, rfl, _⟩ := h
    rfl
  · obtain ⟨x, y, rfl, ⟨g, p, ⟨dx, k, d, l, ee, _, _, _, _, e1, hk, e2, e3, e4⟩, ⟨dy, k', d', l', ee', _, _, _, _, f1, hk', f2, f3, f4⟩, ok⟩, go⟩ := h
    have hu := hu1 hr
    refine ⟨_, (pss_cons (ps_if (pt_not (pt_val (pe_callB (C8.call_isC T.icS) (by rfl) T.f_isinstance (by decide +kernel) (pa_cons (pv 1) (pa_cons (pe_glob (v := .ref a.CS) (by rfl) T.mgS rfl) pa_nil)))))
      (pss_one (ps_ret pe_bl))
      pss_nil)
    (pss_one (ps_ret (pe_and (pe_cmpR (op_eqG (rcG_ins F_Ke T.eqK.1 T.eqK.2 B_Ke (C8.pass0 (E := E0))) hr) (pe_fldK (K := K) rfl (pv 0) rfl) (pe_fldK (K := K) rfl (pv 1) rfl) (nomark _)) (pe_and (pe_cmpR (op_eq_dictA hr.units0) (pe_fldK (K := K) rfl (pv 0) rfl) (pe_fldK (K := K) rfl (pv 1) rfl) (nomark _)) (pe_one (pe_cmpR (op_eqDK (K := K) rfl hr.units) (pe_fldK (K := K) rfl (pv 0) rfl) (pe_fldK (K := K) rfl (pv 1) rfl) (nomark _)))))))), ?_⟩
    refine ⟨_, rfl, y, _, _, rfl, f1, _, rfl, ?_⟩
    refine ifF ?_
    have hk0 := hk
    have hk0' := hk'
    obtain ⟨_, _, _, _, _, _, k1, _⟩ := hk0
    obtain ⟨_, _, _, _, _, _, k2, _⟩ := hk0'
    refine ⟨_, rfl, x, _, _, _, _, rfl, e1, T.clS, T.nSorts, rfl, _, rfl, y, _, _, _, _, rfl, f1, T.clS, T.nSorts, rfl, ⟨k, k', _, _, _, _, rfl, rfl, k1, k2, g, p, hk, hk', ok⟩, fun H1 s1 => ⟨_, rfl, ?_⟩⟩
    refine ifT ?_
    refine ⟨_, rfl, x, _, _, _, _, rfl, s1 _ _ e1, T.clS, T.nNamed, rfl, _, rfl, y, _, _, _, _, rfl, s1 _ _ f1, T.clS, T.nNamed, rfl, d, d', _, _, rfl, rfl, s1 _ _ e2, s1 _ _ f2, rfl, fun q hq => ?_, _, rfl, ?_⟩
    · refine ⟨valV_nodup (ds_nodup ok.dst) hq, ?_⟩
      obtain ⟨q', _, rfl⟩ := List.mem_map.mp hq
      rfl
    refine ifT ?_
    have sh : SeqAt.shaped (.list (g.tw.map PyData.str)) = true := by
      unfold SeqAt.shaped
      rw [Bool.and_eq_true]
      refine ⟨?_, decide_eq_true ?_⟩
      · unfold PyData.canLay0
        exact strs_lay _ fun y hy => ok.kw y (tw_in ok hy).1
      · unfold PyData.depth
        have := strs_dep g.tw
        omega
    refine ⟨_, rfl, x, _, _, _, _, rfl, s1 _ _ e1, T.clS, T.nAgain, rfl, _, rfl, y, _, _, _, _, rfl, s1 _ _ f1, T.clS, T.nAgain, rfl, _, _, .lst (SqL.of (s1 _ _ e3)) (strs_data _), .lst (SqL.of (s1 _ _ f3)) (strs_data _), sh, sh, ?_⟩
    rw [SeqAt.eqv_refl _ (SeqAt.canLay_of_shaped sh)]
    exact go H1 s1
end
end K12

set_option maxHeartbeats 4000000
/-! Trees as they stand in a heap; their sizes. -/
namespace K12
open PySem PySem.Spec L2
section
variable {p : Addr} {H : Hp} {v : V}
theorem At.lf {x : Str} (h : At p H v (T.lf x).dt) : v = .str x := by
  unfold T.dt at h; exact h.s_inv
theorem At.pr {a b : T} (h : At p H v (T.pr a b).dt) : ∃ q va vb, v = .ref q ∧ q ≠ p ∧ H q = some (.tup [.str "pair", va, vb]) ∧ At p H va a.dt ∧ At p H vb b.dt := by
  unfold T.dt at h
  obtain ⟨q, vs, e, n, hq, hl⟩ := h.t_inv
  obtain ⟨v0, ws, e1, h0, hl⟩ := hl.cons_inv
  obtain ⟨v1, ws, e2, h1, hl⟩ := hl.cons_inv
  obtain ⟨v2, ws, e3, h2, hl⟩ := hl.cons_inv
  have e4 := hl.nil_inv
  subst e4 e3 e2 e1
  rw [h0.s_inv] at hq
  exact ⟨q, v1, v2, e, n, hq, h1, h2⟩
theorem At.rn {k : Str} {ps : List T} (h : At p H v (T.rn k ps).dt) : ∃ q l vs, v = .ref q ∧ q ≠ p ∧ H q = some (.tup [.str "run", .str k, .ref l]) ∧ l ≠ p ∧ H l = some (.lst vs) ∧ AtL p H vs (dtL ps) := by
  unfold T.dt at h
  obtain ⟨q, vs, e, n, hq, hl⟩ := h.t_inv
  obtain ⟨v0, ws, e1, h0, hl⟩ := hl.cons_inv
  obtain ⟨v1, ws, e2, h1, hl⟩ := hl.cons_inv
  obtain ⟨v2, ws, e3, h2, hl⟩ := hl.cons_inv
  have e4 := hl.nil_inv
  subst e4 e3 e2 e1
  obtain ⟨l, vs, e5, n5, hl5, h5⟩ := h2.l_inv
  rw [h0.s_inv, h1.s_inv, e5] at hq
  exact ⟨q, l, vs, e, n, hq, n5, hl5, h5⟩
theorem At.mk_lf {x : Str} : At p H (.str x) (T.lf x).dt := by unfold T.dt; exact .s
theorem At.mk_pr {a b : T} {q : Addr} {va vb : V} (n : q ≠ p) (e : H q = some (.tup [.str "pair", va, vb])) (h1 : At p H va a.dt) (h2 : At p H vb b.dt) : At p H (.ref q) (T.pr a b).dt := by
  unfold T.dt
  exact .t n e (.cons .s (.cons h1 (.cons h2 .nil)))
theorem At.mk_rn {k : Str} {ps : List T} {q l : Addr} {vs : List V} (n : q ≠ p) (e : H q = some (.tup [.str "run", .str k, .ref l])) (n2 : l ≠ p) (e2 : H l = some (.lst vs)) (h : AtL p H vs (dtL ps)) : At p H (.ref q) (T.rn k ps).dt := by
  unfold T.dt
  exact .t n e (.cons .s (.cons .s (.cons (.l n2 e2 h) .nil)))
theorem AtL.part {vs : List V} {ps : List T} {j : Nat} {v : V} (h : AtL p H vs (dtL ps)) (e : vs[j]? = some v) : ∃ t, ps[j]? = some t ∧ At p H v t.dt := by
  obtain ⟨d, hd, ha⟩ := h.getV e
  rw [dtL_map, List.getElem?_map] at hd
  obtain ⟨t, ht, e⟩ := Option.map_eq_some_iff.mp hd
  exact ⟨t, ht, by rw [e]; exact ha⟩
theorem AtL.plen {vs : List V} {ps : List T} (h : AtL p H vs (dtL ps)) : vs.length = ps.length := by rw [h.len, dtL_len]
end
/-- a tree of at most 1000 leaves, no run without parts, less deep than m -/
structure T.fit (t : T) (m : Nat) : Prop where
  fu : t.full
  sz : szT t ≤ 1000
  dp : t.dp < m
mutual
theorem full_sz : ∀ {t : T}, t.full → 1 ≤ szT t
  | .lf x, _ => by rw [szT_lf]; exact Nat.le_refl _
  | .pr a b, h => by
    unfold T.full at h
    have := full_sz h.1
    rw [szT_pr]
    omega
  | .rn k ps, h => by
    unfold T.full at h
    rw [szT_rn]
    have := fullL_sz h.2
    have : ps.length ≠ 0 := fun e => h.1 (List.length_eq_zero_iff.mp e)
    omega
theorem fullL_sz : ∀ {ts : List T}, fullL ts → ts.length ≤ szL ts
  | [], _ => Nat.zero_le _
  | t :: ts, h => by
    unfold fullL at h
    have h1 := full_sz h.1
    have h2 := fullL_sz h.2
    rw [szL_cons, List.length_cons]
    omega
end
theorem szL_mem : ∀ {ts : List T} {t : T}, t ∈ ts → szT t ≤ szL ts
  | u :: ts, t, h => by
    rw [szL_cons]
    rcases List.mem_cons.mp h with e | h
    · subst e; omega
    · have := szL_mem h; omega
theorem T.fit.pr {a b : T} {m : Nat} (h : (T.pr a b).fit (m + 1)) : a.fit m ∧ b.fit m := by
  have h1 := h.fu
  have h2 := h.sz
  have h3 := h.dp
  unfold T.full at h1
  rw [szT_pr] at h2
  unfold T.dp at h3
  exact ⟨⟨h1.1, by omega, by omega⟩, ⟨h1.2, by omega, by omega⟩⟩
theorem T.fit.rn {k : Str} {ps : List T} {m : Nat} (h : (T.rn k ps).fit (m + 1)) : (∀ t ∈ ps, t.fit m) ∧ ps ≠ [] ∧ ps.length ≤ 1000 ∧ szL ps ≤ 1000 := by
  have h1 := h.fu
  have h2 := h.sz
  have h3 := h.dp
  unfold T.full at h1
  rw [szT_rn] at h2
  unfold T.dp at h3
  have := fullL_sz h1.2
  refine ⟨fun t ht => ⟨fullL_iff.mp h1.2 t ht, ?_, ?_⟩, h1.1, by omega, h2⟩
  · have := szL_mem ht; omega
  · have := dpL_mem ht; omega
theorem T.fit.mono {t : T} {m m' : Nat} (h : t.fit m) (l : m ≤ m') : t.fit m' := ⟨h.fu, h.sz, Nat.lt_of_lt_of_le h.dp l⟩
mutual
theorem logT_len {g : Sg} : ∀ {t : T} {l : List Str}, logT g t = some l → l.length = szT t
  | .lf x, l, h => by
    unfold logT at h
    split at h
    · cases h; rw [szT_lf]; rfl
    · cases h
  | .pr a b, l, h => by
    unfold logT at h
    cases ha : logT g a with
    | none => rw [ha] at h; cases h
    | some la =>
      rw [ha] at h
      cases hb : logT g b with
      | none => rw [hb] at h; cases h
      | some lb =>
        rw [hb] at h
        cases h
        rw [szT_pr, List.length_append, logT_len ha, logT_len hb]
  | .rn k ps, l, h => by
    unfold logT at h
    split at h
    · rw [szT_rn]; exact logL_len h
    · cases h
theorem logL_len {g : Sg} {k : Str} : ∀ {ts : List T} {l : List Str}, logL g k ts = some l → l.length = szL ts
  | [], l, h => by
    unfold logL at h
    cases h
    rw [szL_nil]; rfl
  | t :: ts, l, h => by
    rw [logL_cons] at h
    cases ht : logT g t with
    | none => rw [ht] at h; cases h
    | some lt =>
      rw [ht] at h
      simp only at h
      split at h
      · obtain ⟨m, hm, e⟩ := Option.map_eq_some_iff.mp h
        subst e
        rw [szL_cons, List.length_append, logT_len ht, logL_len hm]
      · cases h
end
theorem szL_app : ∀ ts us : List T, szL (ts ++ us) = szL ts + szL us
  | [], us => by rw [szL_nil]; simp
  | t :: ts, us => by rw [List.cons_append, szL_cons, szL_cons, szL_app ts us]; omega
theorem at2 (x y z : V) (r : List V) : atI (x :: y :: z :: r) 2 = some z := at_of (z := 2) (j := 2) rfl rfl
theorem drop_at {α : Type} {l : List α} {i : Nat} {x : α} (h : l[i]? = some x) : l.drop i = x :: l.drop (i + 1) := by
  obtain ⟨hi, e⟩ := List.getElem?_eq_some_iff.mp h
  rw [List.drop_eq_getElem_cons hi, e]
/-- the logs of the parts so far, one more -/
theorem logL_next {g : Sg} {k : Str} {ps : List T} {i : Nat} {t : T} {l m : List Str} (h : logL g k (ps.take i) = some l) (e : ps[i]? = some t) (ht : logT g t = some m) (hk : kindOf g m = k) : logL g k (ps.take (i + 1)) = some (l ++ m) := by
  rw [List.take_add_one, e, logL_app, h]
  show cat2 (some l) (logL g k [t]) = _
  rw [logL_cons, ht, logL_nil]
  simp [cat2, hk]
theorem logL_stop {g : Sg} {k : Str} {ps : List T} {i : Nat} {t : T} {l : List Str} (h : logL g k (ps.take i) = some l) (e : ps[i]? = some t) (ht : logT g t = none ∨ ∃ m, logT g t = some m ∧ kindOf g m ≠ k) : logL g k ps = none := by
  rw [← List.take_append_drop i ps, logL_app, h, drop_at e, logL_cons]
  rcases ht with ht | ⟨m, ht, hk⟩
  · rw [ht]; rfl
  · rw [ht]; simp [hk, cat2]
end K12

set_option maxHeartbeats 4000000
/-! The program: logs of trees. -/
namespace K12
open PySem PySem.Spec L2
theorem deq {c : Bool} {x y : V} (h : decide (x = y) = c) : decide (x = y) = c := h
section
variable {P : Program} {w : World} {K : PySem.W.Frag} {mg : Str → Option Value} {base : Heap} {a : Ad} {n : Nat}
def spCkS (a : Ad) : Sp := fun vs H Q _ => ∃ x g p, vs = [.ref x] ∧ SsAt a p x H g ∧ Q .non H
theorem sc_check_setting : FnScope ["value"] ["value"] (defScope s_check_setting) := ⟨rfl, rfl, rfl, by decide +kernel, rfl, by decide +kernel, by decide +kernel⟩
theorem bd_check_setting : BindsOf "check_setting" "check_setting" s_check_setting ["value"] := fun _ _ _ _ _ _ us hl => match us, hl with | [_], _ => rfl
theorem d_check_setting (T : Tp K mg a) : Df P w K mg base (n + 1) "check_setting" ["value"] (spCkS a) := by
  refine df_mk T 10 rfl sc_check_setting bd_check_setting (fun vs H Q E h => ?_) (fun f cdv A outer s H vs Q E hr h => ?_)
  · obtain ⟨x, g, p, rfl, _⟩ := h
    rfl
  · obtain ⟨x, g, p, rfl, ⟨dx, k, d, l, ee, _, _, _, _, e1, _⟩, go⟩ := h
    refine ⟨_, (pss_one (ps_if (pt_not (pt_val (pe_callB (C8.call_isC T.icS) (by rfl) T.f_isinstance (by decide +kernel) (pa_cons (pv 0) (pa_cons (pe_glob (v := .ref a.CS) (by rfl) T.mgS rfl) pa_nil)))))
      (pss_one ps_never)
      pss_nil)), ?_⟩
    refine ⟨_, rfl, x, _, _, rfl, e1, _, rfl, ifF ?_⟩
    exact go
def spRow (a : Ad) : Sp := fun vs H Q _ => ∃ x l p, ∃ (g : Sg) (log : List Str), vs = [.ref x, .ref l] ∧ g.Ok ∧ SsAt a p x H g ∧ H l = some (.lst (log.map V.str)) ∧ IsLog g log ∧ log.length ≤ 1000 ∧
  ∀ q H', Same H H' → H q = none → H' q = some (.lst ((log.map g.kdD).map V.str)) → Q (.ref q) H'
theorem sc_row_of : FnScope ["setting", "log", "deed"] ["setting", "log"] (defScope s_row_of) := ⟨rfl, rfl, rfl, by decide +kernel, rfl, by decide +kernel, by decide +kernel⟩
theorem bd_row_of : BindsOf "row_of" "row_of" s_row_of ["setting", "log"] := fun _ _ _ _ _ _ us hl => match us, hl with | [_, _], _ => rfl
theorem d_row_of (T : Tp K mg a) : Df P w K mg base (n + 1) "row_of" ["setting", "log"] (spRow a) := by
  refine df_mk T 11 rfl sc_row_of bd_row_of (fun vs H Q E h => ?_) (fun f cdv A outer s H vs Q E hr h => ?_)
  · obtain ⟨x, l, p, g, log, rfl, _⟩ := h
    rfl
  · obtain ⟨x, l, p, g, log, rfl, ok, ⟨dx, k, d, l', ee, _, _, _, _, e1, _, e2, _, _⟩, el, il, len, go⟩ := h
    have hu := hu1 hr
    have hs := szl
    refine ⟨_, (pss_one (ps_ret (pe_lc (own := [("deed", 2)]) rfl sc_row_of.nd (pi_listK (K := K) rfl (pv 1)) (blkOk_by (own := [("deed", 2)]) (N := ["setting", "log", "deed"]) (sc := defScope s_row_of) (by decide +kernel)) (fun _ _ _ _ _ => (pg_name (i := 2) sc_row_of.nd rfl (Or.inl rfl))) (fun _ _ _ _ _ => pts_nil) (fun _ _ _ _ _ => (pe_dget hu (pe_fldK (K := K) rfl (pv 0) rfl) (pv 2) (fun _ _ => rfl)))))), ?_⟩
    refine ⟨_, rfl, l, rfl, ⟨_, SqL.of el⟩, fun D nD => ?_⟩
    refine lc_list (xs := log.map V.str) (fun i H1 => Ac H D ((log.take i).map fun y => V.str (g.kdD y)) H1) (Ac.start nD) (fun i H1 _ hv => SqL.of (hv.sm _ _ el)) ?_ ?_
    · intro i v H1 hi hv
      rw [List.getElem?_map] at hi
      obtain ⟨y, hy, rfl⟩ := Option.map_eq_some_iff.mp hi
      have hi' := (List.getElem?_eq_some_iff.mp hy).1
      have my := il y (List.mem_of_getElem? hy)
      obtain ⟨kk, hkk⟩ := Option.isSome_iff_exists.mp my
      have hkD : g.kdD y = kk := by unfold Sg.kdD; rw [hkk]; rfl
      refine ⟨rfl, _, rfl, x, _, _, _, _, rfl, hv.sm _ _ e1, T.clS, T.nNamed, rfl, _, rfl, d, _, rfl, dgetK (.inl (hv.sm _ _ e2)) (by rw [dents_val, hkk]; rfl), ?_⟩
      refine hv.step (Same.refl _) ?_ ?_
      · rw [List.length_map, List.length_take]; omega
      · rw [take_map_succ (fun y => V.str (g.kdD y)) hy, hkD]
    · intro H1 hv
      refine go D H1 hv.sm nD ?_
      rw [hv.at_, List.length_map, List.take_length, List.map_map]
      rfl
def spKindIn (a : Ad) : Sp := fun vs H Q _ => ∃ x l p, ∃ (g : Sg) (log : List Str), vs = [.ref x, .ref l] ∧ g.Ok ∧ SsAt a p x H g ∧ H l = some (.lst (log.map V.str)) ∧ IsLog g log ∧ log ≠ [] ∧ log.length ≤ 1000 ∧
  ∀ H', Same H H' → Q (.str (kindOf g log)) H'
theorem sc_kind_in : FnScope ["setting", "log"] ["setting", "log"] (defScope s_kind_in) := ⟨rfl, rfl, rfl, by decide +kernel, rfl, by decide +kernel, by decide +kernel⟩
theorem bd_kind_in : BindsOf "kind_in" "kind_in" s_kind_in ["setting", "log"] := fun _ _ _ _ _ _ us hl => match us, hl with | [_, _], _ => rfl
theorem d_kind_in (T : Tp K mg a) (D_row_of : Df P w K mg base n "row_of" ["setting", "log"] (spRow a)) (D_together : Df P w K mg base n "together" ["kinds", "row"] (spTog a)) : Df P w K mg base (n + 1) "kind_in" ["setting", "log"] (spKindIn a) := by
  refine df_mk T 12 rfl sc_kind_in bd_kind_in (fun vs H Q E h => ?_) (fun f cdv A outer s H vs Q E hr h => ?_)
  · obtain ⟨x, l, p, g, log, rfl, _⟩ := h
    rfl
  · obtain ⟨x, l, p, g, log, rfl, ok, hS, el, il, ne, len, go⟩ := h
    have hS' := hS
    obtain ⟨dx, k, d, l', ee, _, _, _, _, e1, hk, _, _, _⟩ := hS'
    refine ⟨_, (pss_one (ps_ret (pe_f D_together hr (by rfl) (pa_cons (pe_fldK (K := K) rfl (pv 0) rfl) (pa_cons (pe_f D_row_of hr (by rfl) (pa_cons (pv 0) (pa_cons (pv 1) pa_nil))) pa_nil))))), ?_⟩
    refine ⟨_, rfl, x, _, _, _, _, rfl, e1, T.clS, T.nSorts, rfl, _, rfl, _, rfl, x, l, p, g, log, rfl, ok, hS, el, il, len, fun q H1 s1 nq eq => ?_⟩
    cases log with
    | nil => exact absurd rfl ne
    | cons y ys =>
      refine ⟨k, q, g, p, g.kdD y, ys.map g.kdD, rfl, hk.sm s1, ok, eq, fun z hz => ?_, fun H2 s2 => ?_⟩
      · rw [← List.map_cons] at hz
        obtain ⟨u, hu, rfl⟩ := List.mem_map.mp hz
        exact kdD_in ok (il u hu)
      · have := go H2 (s1.trans s2)
        rw [kindOf_map] at this
        exact this
def spOs (a : Ad) : Sp := fun vs H Q _ => ∃ x p, ∃ g : Sg, vs = [.ref x] ∧ g.Ok ∧ SsAt a p x H g ∧ (∃ o, H p = some o) ∧ ∀ q H', Same H H' → H q = none → SsAt a p q H' g.op → Q (.ref q) H'
theorem sc_opposite_setting : FnScope ["setting"] ["setting"] (defScope s_opposite_setting) := ⟨rfl, rfl, rfl, by decide +kernel, rfl, by decide +kernel, by decide +kernel⟩
theorem bd_opposite_setting : BindsOf "opposite_setting" "opposite_setting" s_opposite_setting ["setting"] := fun _ _ _ _ _ _ us hl => match us, hl with | [_], _ => rfl
theorem d_opposite_setting (T : Tp K mg a) (D_check_setting : Df P w K mg base (n + 1) "check_setting" ["value"] (spCkS a)) (D_turned_kinds : Df P w K mg base (n + 1) "turned_kinds" ["kinds"] (spTk a))
    (D_Si : ∃ fd, FnOk P w K mg base CX0 n a.fSi fd ["self", "kinds", "deeds", "twice"] (spSi a) ∧ Binds K fd ["self", "kinds", "deeds", "twice"] []) : Df P w K mg base (n + 1 + 1) "opposite_setting" ["setting"] (spOs a) := by
  obtain ⟨fd, F_Si, B_Si⟩ := D_Si
  refine df_mk T 13 rfl sc_opposite_setting bd_opposite_setting (fun vs H Q E h => ?_) (fun f cdv A outer s H vs Q E hr h => ?_)
  · obtain ⟨x, p, g, rfl, _⟩ := h
    rfl
  · obtain ⟨x, p, g, rfl, ok, hS, hpp, go⟩ := h
    have hS' := hS
    obtain ⟨dx, k, d, l, ee, _, _, _, _, e1, hk, e2, e3, e4⟩ := hS'
    obtain ⟨o, ho⟩ := hpp
    refine ⟨_, (pss_cons (ps_expr (pe_f D_check_setting hr (by rfl) (pa_cons (pv 0) pa_nil)))
    (pss_one (ps_ret (pe_make T.mkS F_Si hr (by rfl) T.mgS B_Si .nil pass0 (pa_cons (pe_f D_turned_kinds hr (by rfl) (pa_cons (pe_fldK (K := K) rfl (pv 0) rfl) pa_nil)) (pa_cons (pe_fldK (K := K) rfl (pv 0) rfl) (pa_cons (pe_fldK (K := K) rfl (pv 0) rfl) pa_nil))))))), ?_⟩
    refine ⟨_, rfl, x, g, p, rfl, hS, ?_⟩
    refine ⟨_, rfl, x, _, _, _, _, rfl, e1, T.clS, T.nSorts, rfl, k, p, g, rfl, ok, hk, ⟨o, ho⟩, fun q H1 s1 nq kq => ?_⟩
    refine ⟨_, rfl, x, _, _, _, _, rfl, s1 _ _ e1, T.clS, T.nNamed, rfl, _, rfl, x, _, _, _, _, rfl, s1 _ _ e1, T.clS, T.nAgain, rfl, ?_⟩
    refine fun y dy ny ndy nyd => ?_
    have up : ∀ b o, H1 b = some o → upd (upd H1 dy (.own y)) y (.ins a.CS dy []) b = some o := fun b o e => by
      rw [upd_ne (fun z => by subst z; rw [ny] at e; cases e), upd_ne (fun z => by subst z; rw [ndy] at e; cases e)]; exact e
    refine ⟨y, dy, q, d, l, p, g.ds, g.op, rfl, ok.op, upd_same, kq.keep fun b o _ e => up b o e, up _ _ (s1 _ _ e2), List.Perm.refl _, up _ _ (s1 _ _ e3), ?_, ⟨o, up _ _ (s1 _ _ ho)⟩, fun H' kp ks => ⟨rfl, ?_⟩⟩
    · exact fun z => by subst z; rw [s1 _ _ ho] at ny; cases ny
    · refine go y H' (fun b o e => ?_) (s1.free ny) ks
      have := s1 _ _ e
      exact kp b o (fun z => by subst z; rw [this] at ny; cases ny) (up _ _ this)
def spLog (a : Ad) (m : Nat) : Sp := fun vs H Q _ => ∃ x v p, ∃ (g : Sg) (t : T), vs = [.ref x, v] ∧ g.Ok ∧ SsAt a p x H g ∧ At p H v t.dt ∧ t.fit m ∧ (logT g t = none → ∀ H', Same H H' → Q .non H') ∧
  ∀ l, logT g t = some l → ∀ q H', Same H H' → H q = none → H' q = some (.lst (l.map V.str)) → Q (.ref q) H'
def spRun (a : Ad) (m : Nat) : Sp := fun vs H Q _ => ∃ x v p, ∃ (g : Sg) (k : Str) (ps : List T), vs = [.ref x, v] ∧ g.Ok ∧ SsAt a p x H g ∧ At p H v (T.rn k ps).dt ∧ (T.rn k ps).fit m ∧ (logT g (.rn k ps) = none → ∀ H', Same H H' → Q .non H') ∧
  ∀ l, logT g (.rn k ps) = some l → ∀ q H', Same H H' → H q = none → H' q = some (.lst (l.map V.str)) → Q (.ref q) H'
theorem sc_log_in : FnScope ["setting", "value", "one", "other"] ["setting", "value"] (defScope s_log_in) := ⟨rfl, rfl, rfl, by decide +kernel, rfl, by decide +kernel, by decide +kernel⟩
theorem bd_log_in : BindsOf "log_in" "log_in" s_log_in ["setting", "value"] := fun _ _ _ _ _ _ us hl => match us, hl with | [_, _], _ => rfl
theorem sc_run_log : FnScope ["setting", "value", "found", "part", "word", "kind", "parts", "log"] ["setting", "value"] (defScope s_run_log) := ⟨rfl, rfl, rfl, by decide +kernel, rfl, by decide +kernel, by decide +kernel⟩
theorem bd_run_log : BindsOf "run_log" "run_log" s_run_log ["setting", "value"] := fun _ _ _ _ _ _ us hl => match us, hl with | [_, _], _ => rfl
theorem d_run_log {m : Nat} (T : Tp K mg a) (D_log_in : Df P w K mg base n "log_in" ["setting", "value"] (spLog a m)) (D_kind_in : Df P w K mg base n "kind_in" ["setting", "log"] (spKindIn a)) (D_squares_of : Df P w K mg base n "squares_of" ["kinds"] (spSqs a)) :
    Df P w K mg base (n + 1) "run_log" ["setting", "value"] (spRun a (m + 1)) := by
  refine df_mk T 15 rfl sc_run_log bd_run_log (fun vs H Q E h => ?_) (fun f cdv A outer s H vs Q E hr h => ?_)
  · obtain ⟨x, v, p, g, k, ps, rfl, _⟩ := h
    rfl
  · obtain ⟨x, v, p, g, k, ps, rfl, ok, hS, hv, ft, gN, gS⟩ := h
    have hs := szl
    obtain ⟨q, l, xs, rfl, nq, eq, nl, el, hp⟩ := hv.rn
    obtain ⟨fp, pne, pl, psz⟩ := ft.rn
    have plen := hp.plen
    have hS' := hS
    obtain ⟨dx, kk, d, l', ee, _, _, _, _, e1, hk, e2, e3, e4⟩ := hS'
    have un : logT g (.rn k ps) = if k ∈ g.sq ∧ 2 ≤ ps.length then logL g k ps else none := by conv => lhs; unfold logT
    refine ⟨_, (pss_cons (ps_asg (pv 1) (pg_tup rfl (pgs_cons (pg_name (i := 4) sc_run_log.nd rfl (Or.inl rfl)) (pgs_cons (pg_name (i := 5) sc_run_log.nd rfl (Or.inl rfl)) (pgs_cons (pg_name (i := 6) sc_run_log.nd rfl (Or.inl rfl)) pgs_nil)))))
    (pss_cons (ps_if (PW.pt (pw_or (pt_not (pt_val (pe_callB (call_isiK_ (K := K) rfl) (by rfl) T.f_isinstance (by decide +kernel) (pa_cons (pv 5) (pa_cons (pe_bltn (v := .ty "str") (u := .type "str") (by rfl) T.f_str (by decide +kernel) rfl) pa_nil))))) (pw_or1 (pt_cmpR (op_notIn_seqK (K := K) rfl) (pv 5) (pe_f D_squares_of hr (by rfl) (pa_cons (pe_fldK (K := K) rfl (pv 0) rfl) pa_nil)) (by rfl)))))
      (pss_one (ps_ret pe_non))
      pss_nil)
    (pss_cons (ps_if (PW.pt (pw_or (pt_not (pt_val (pe_callB (call_isiK_ (K := K) rfl) (by rfl) T.f_isinstance (by decide +kernel) (pa_cons (pv 6) (pa_cons (pe_bltn (v := .ty "list") (u := .type "list") (by rfl) T.f_list (by decide +kernel) rfl) pa_nil))))) (pw_or1 (pt_cmpR op_lt (pe_callB (call_len_seqK (K := K) rfl) (by rfl) T.f_len PySem.boot_len (pa_cons (pv 6) pa_nil)) pe_int (nomark _)))))
      (pss_one (ps_ret pe_non))
      pss_nil)
    (pss_cons (ps_set (i := 2) sc_run_log.nd rfl (Or.inl rfl) (pe_lst pa_nil))
    (pss_cons (ps_for PassesOwn.never rfl (pi_listK (K := K) rfl (pv 6)) (pg_name (i := 3) sc_run_log.nd rfl (Or.inl rfl))
      (pss_cons (ps_set (i := 7) sc_run_log.nd rfl (Or.inl rfl) (pe_f D_log_in hr (by rfl) (pa_cons (pv 0) (pa_cons (pv 3) pa_nil))))
      (pss_cons (ps_if (PW.pt (pw_or (pt_cmp (pc_isN (pv 7))) (pw_or1 (pt_cmpR op_ne (pe_f D_kind_in hr (by rfl) (pa_cons (pv 0) (pa_cons (pv 7) pa_nil))) (pv 5) (nomark _)))))
        (pss_one (ps_ret pe_non))
        pss_nil)
      (pss_one (ps_set (i := 2) sc_run_log.nd rfl (Or.inl rfl) (pe_op op_cat (pv 2) (pv 7)))))))
    (pss_one (ps_ret (pv 2)))))))), ?_⟩
    refine ⟨_, rfl, q, _, rfl, SqT.of eq, rfl, _, _, rfl, _, _, rfl, _, _, rfl, rfl, ?_⟩
    refine ⟨_, rfl, _, _, _, _, _, rfl, .ty _, .base (.str _), kit_ty (by rfl), _, rfl, ?_⟩
    refine ifF ?_
    refine ⟨_, rfl, _, rfl, x, _, _, _, _, rfl, e1, T.clS, T.nSorts, rfl, kk, g, p, rfl, hk, ok, fun q1 H1 s1 n1 f1 => ?_⟩
    refine ⟨q1, _, rfl, .inl (SqL.of f1), rfl, flat_strs _, _, rfl, ?_⟩
    rw [show (if true = true then !inV (V.str k) (g.sq.map V.str) else inV (V.str k) (g.sq.map V.str)) = !decide (k ∈ g.sq) from by rw [if_pos rfl, inV_strs]]
    by_cases hks : k ∈ g.sq
    case neg =>
      rw [decide_eq_false hks]
      refine ifT ?_
      exact gN (by rw [un, if_neg (fun z => hks z.1)]) H1 s1
    rw [decide_eq_true hks]
    refine ifF ?_
    refine ⟨_, rfl, _, _, _, _, _, rfl, .ty _, .base (.lst (s1 _ _ el)), kit_ty (by rfl), _, rfl, ?_⟩
    refine ifF ?_
    refine ⟨_, rfl, l, _, rfl, .inl (SqL.of (s1 _ _ el)), _, _, rfl, rfl, _, rfl, ?_⟩
    by_cases h2 : 2 ≤ ps.length
    case neg =>
      rw [decide_eq_true (by rw [plen]; omega)]
      refine ifT ?_
      exact gN (by rw [un, if_neg (fun z => h2 z.2)]) H1 s1
    rw [decide_eq_false (by rw [plen]; omega)]
    refine ifF ?_
    rw [if_pos ⟨hks, h2⟩] at un
    refine ⟨Nat.zero_le _, fun q2 n2 => ?_⟩
    generalize g2 : upd _ q2 _ = H2
    obtain ⟨s2, f2⟩ := new_of n2 g2
    have s12 := s1.trans s2
    refine ⟨_, rfl, l, rfl, ⟨_, SqL.of (s12 _ _ el)⟩, ?_⟩
    refine for_list (xs := xs) (fun i σ H3 => Same H H3 ∧ ∃ (la : List Str) (fa : Addr) (u y : Option V), logL g k (ps.take i) = some la ∧ H fa = none ∧ H3 fa = some (.lst (la.map V.str)) ∧ σ = [some (.ref x), some (.ref q), some (.ref fa), u, some (.str "run"), some (.str k), some (.ref l), y])
      ⟨s12, [], q2, _, _, logL_nil _ _, s1.free n2, f2, rfl⟩ (fun i σ H3 _ hv => SqL.of (hv.1 _ _ el)) ?_ ?_
    · rintro i v σ H3 hi ⟨s3, la, fa, u, y, hla, nfa, efa, rfl⟩
      obtain ⟨t, ht, hat⟩ := hp.part hi
      have mt := List.mem_of_getElem? ht
      have lla := logL_len hla
      refine ⟨_, rfl, _, rfl, x, v, p, g, t, rfl, ok, hS.sm s3, hat.sm s3, fp t mt, fun hno H4 s4 => ?_, fun lt hlt q4 H4 s4 n4 f4 => ?_⟩
      · refine ⟨_, rfl, _, rfl, ?_⟩
        refine ifT ?_
        exact gN (by rw [un]; exact logL_stop hla ht (.inl hno)) H4 (s3.trans s4)
      · have hok := logT_ok hlt
        have hlen := logT_len hlt
        have hsz := (fp t mt).sz
        refine ⟨_, rfl, _, rfl, ?_⟩
        refine ifF ?_
        have s34 := s3.trans s4
        refine ⟨_, rfl, _, rfl, x, q4, p, g, lt, rfl, ok, hS.sm s34, f4, hok.2, hok.1, by omega, fun H5 s5 => ⟨_, rfl, rfl, _, rfl, ?_⟩⟩
        by_cases hkd : kindOf g lt = k
        · rw [hkd]
          rw [show (!decide (V.str k = V.str k)) = false by simp]
          refine ifF ?_
          have s35 := s34.trans s5
          have hnext := logL_next hla ht hlt hkd
          have ltot : la.length + lt.length ≤ 1000 := by
            have h1 := logL_len hnext
            rw [List.length_append] at h1
            have h3 : szL ps = szL (ps.take (i + 1)) + szL (ps.drop (i + 1)) := by
              rw [← szL_app, List.take_append_drop]
            omega
          refine ⟨_, rfl, _, rfl, fa, q4, _, _, rfl, rfl, s5 _ _ (s4 _ _ efa), s5 _ _ f4, by rw [List.length_map, List.length_map]; omega, fun q6 n6 => ?_⟩
          rw [← List.map_append]
          generalize g6 : upd _ q6 _ = H6
          obtain ⟨s6, f6⟩ := new_of n6 g6
          exact ⟨s35.trans s6, _, q6, _, _, hnext, s35.free n6, f6, rfl⟩
        · rw [show (!decide (V.str (kindOf g lt) = V.str k)) = true by simp [hkd]]
          refine ifT ?_
          exact gN (by rw [un]; exact logL_stop hla ht (.inr ⟨lt, hlt, hkd⟩)) H5 (s34.trans s5)
    · rintro σ H3 ⟨s3, la, fa, u, y, hla, nfa, efa, rfl⟩
      rw [plen, List.take_length] at hla
      exact ⟨_, rfl, gS la (by rw [un]; exact hla) fa H3 s3 nfa efa⟩
theorem d_log_in {m : Nat} (T : Tp K mg a) (D_log_in : Df P w K mg base n "log_in" ["setting", "value"] (spLog a m)) (D_run_log : Df P w K mg base n "run_log" ["setting", "value"] (spRun a (m + 1))) :
    Df P w K mg base (n + 1) "log_in" ["setting", "value"] (spLog a (m + 1)) := by
  refine df_mk T 14 rfl sc_log_in bd_log_in (fun vs H Q E h => ?_) (fun f cdv A outer s H vs Q E hr h => ?_)
  · obtain ⟨x, v, p, g, t, rfl, _⟩ := h
    rfl
  · obtain ⟨x, v, p, g, t, rfl, ok, hS, hv, ft, gN, gS⟩ := h
    have hs := szl
    have hu := hu1 hr
    have hS' := hS
    obtain ⟨dx, kk, d, l', ee, _, _, _, _, e1, hk, e2, e3, e4⟩ := hS'
    refine ⟨_, (pss_cons (ps_if (pt_val (pe_callB (call_isiK_ (K := K) rfl) (by rfl) T.f_isinstance (by decide +kernel) (pa_cons (pv 1) (pa_cons (pe_bltn (v := .ty "str") (u := .type "str") (by rfl) T.f_str (by decide +kernel) rfl) pa_nil))))
      (pss_one (ps_ret (pe_ifExp (pt_cmp (pc_din hu (pv 1) (pe_fldK (K := K) rfl (pv 0) rfl))) (pe_lst (pa_cons (pv 1) pa_nil)) pe_non)))
      pss_nil)
    (pss_cons (ps_if (PW.pt (pw_or (pt_not (pt_val (pe_callB (call_isiK_ (K := K) rfl) (by rfl) T.f_isinstance (by decide +kernel) (pa_cons (pv 1) (pa_cons (pe_bltn (v := .ty "tuple") (u := .type "tuple") (by rfl) T.f_tuple (by decide +kernel) rfl) pa_nil))))) (pw_or (pt_cmpR op_ne (pe_callB (call_len_seqK (K := K) rfl) (by rfl) T.f_len PySem.boot_len (pa_cons (pv 1) pa_nil)) pe_int (nomark _)) (pw_or1 (pt_not (pt_val (pe_callB (call_isiK_ (K := K) rfl) (by rfl) T.f_isinstance (by decide +kernel) (pa_cons (pe_ix (ix_tupK (K := K) rfl) (pv 1) pe_int (fun _ _ => rfl)) (pa_cons (pe_bltn (v := .ty "str") (u := .type "str") (by rfl) T.f_str (by decide +kernel) rfl) pa_nil)))))))))
      (pss_one (ps_ret pe_non))
      pss_nil)
    (pss_cons (ps_if (pt_cmpR op_eq (pe_ix (ix_tupK (K := K) rfl) (pv 1) pe_int (fun _ _ => rfl)) pe_str (nomark _))
      (pss_one (ps_ret (pe_f D_run_log hr (by rfl) (pa_cons (pv 0) (pa_cons (pv 1) pa_nil)))))
      pss_nil)
    (pss_cons (ps_set (i := 2) sc_log_in.nd rfl (Or.inl rfl) (pe_ifExp (pt_cmpR op_eq (pe_ix (ix_tupK (K := K) rfl) (pv 1) pe_int (fun _ _ => rfl)) pe_str (nomark _)) (pe_f D_log_in hr (by rfl) (pa_cons (pv 0) (pa_cons (pe_ix (ix_tupK (K := K) rfl) (pv 1) pe_int (fun _ _ => rfl)) pa_nil))) pe_non))
    (pss_cons (ps_set (i := 3) sc_log_in.nd rfl (Or.inl rfl) (pe_ifExp (pt_cmp (pc_notN (pv 2))) (pe_f D_log_in hr (by rfl) (pa_cons (pv 0) (pa_cons (pe_ix (ix_tupK (K := K) rfl) (pv 1) pe_int (fun _ _ => rfl)) pa_nil))) pe_non))
    (pss_one (ps_ret (pe_ifExp (pt_cmp (pc_notN (pv 3))) (pe_op op_cat (pv 2) (pv 3)) pe_non)))))))), ?_⟩
    cases t with
    | lf z =>
      obtain rfl := hv.lf
      have un : logT g (.lf z) = if (g.kd z).isSome = true then some [z] else none := by conv => lhs; unfold logT
      refine ⟨_, rfl, _, _, _, _, _, rfl, .ty _, .base (.str _), kit_ty (by rfl), _, rfl, ?_⟩
      refine ifT ?_
      refine ⟨_, rfl, _, rfl, x, _, _, _, _, rfl, e1, T.clS, T.nNamed, rfl, d, _, rfl, dgetK (.inl e2) (dents_val g z), _, rfl, ?_⟩
      rw [Option.isSome_map]
      by_cases hz : (g.kd z).isSome = true
      · rw [hz]
        refine ifT ?_
        refine ⟨_, rfl, Nat.le_trans (by decide : 1 ≤ 4096) hs, fun q n1 => ?_⟩
        generalize g1 : upd _ q _ = H1
        obtain ⟨s1, f1⟩ := new_of n1 g1
        exact gS [z] (by rw [un, if_pos hz]) q H1 s1 n1 f1
      · rw [Bool.eq_false_iff.mpr hz]
        refine ifF ?_
        exact gN (by rw [un, if_neg hz]) H (Same.refl H)
    | rn k ps =>
      obtain ⟨q, l, xs, rfl, nq, eq, nl, el, hp⟩ := hv.rn
      refine ⟨_, rfl, _, _, _, _, _, rfl, .ty _, .base (.tup eq), kit_ty (by rfl), _, rfl, ?_⟩
      refine ifF ?_
      refine ⟨_, rfl, _, _, _, _, _, rfl, .ty _, .base (.tup eq), kit_ty (by rfl), _, rfl, ?_⟩
      refine ifF ?_
      refine ⟨_, rfl, q, _, rfl, .inr (SqT.of eq), rfl, _, rfl, ?_⟩
      refine ifF ?_
      refine ⟨_, rfl, q, _, 0, _, rfl, rfl, SqT.of eq, at0 _ _, _, _, _, _, _, rfl, .ty _, .base (.str _), kit_ty (by rfl), _, rfl, ?_⟩
      refine ifF ?_
      refine ⟨_, rfl, q, _, 0, _, rfl, rfl, SqT.of eq, at0 _ _, rfl, _, rfl, ?_⟩
      refine ifT ?_
      exact ⟨_, rfl, _, rfl, x, _, p, g, k, ps, rfl, ok, hS, hv, ft, gN, gS⟩
    | pr u v =>
      obtain ⟨q, va, vb, rfl, nq, eq, ha, hb⟩ := hv.pr
      obtain ⟨fa, fb⟩ := ft.pr
      have un : logT g (.pr u v) = match logT g u with
        | none => none
        | some l => match logT g v with
          | none => none
          | some m => some (l ++ m) := by
        conv => lhs; unfold logT
        all_goals rfl
      have hsz := ft.sz
      rw [szT_pr] at hsz
      refine ⟨_, rfl, _, _, _, _, _, rfl, .ty _, .base (.tup eq), kit_ty (by rfl), _, rfl, ?_⟩
      refine ifF ?_
      refine ⟨_, rfl, _, _, _, _, _, rfl, .ty _, .base (.tup eq), kit_ty (by rfl), _, rfl, ?_⟩
      refine ifF ?_
      refine ⟨_, rfl, q, _, rfl, .inr (SqT.of eq), rfl, _, rfl, ?_⟩
      refine ifF ?_
      refine ⟨_, rfl, q, _, 0, _, rfl, rfl, SqT.of eq, at0 _ _, _, _, _, _, _, rfl, .ty _, .base (.str _), kit_ty (by rfl), _, rfl, ?_⟩
      refine ifF ?_
      refine ⟨_, rfl, q, _, 0, _, rfl, rfl, SqT.of eq, at0 _ _, rfl, _, rfl, ?_⟩
      refine ifF ?_
      refine ⟨_, rfl, q, _, 0, _, rfl, rfl, SqT.of eq, at0 _ _, rfl, _, rfl, ?_⟩
      refine ifT ?_
      refine ⟨_, rfl, _, rfl, q, _, 1, _, rfl, rfl, SqT.of eq, at1 _ _ _, x, va, p, g, u, rfl, ok, hS, ha, fa, fun hno H1 s1 => ?_, fun lu hlu q1 H1 s1 n1 f1 => ?_⟩
      · refine ⟨_, rfl, _, rfl, ?_⟩
        refine ifF ?_
        refine ⟨_, rfl, _, rfl, ?_⟩
        refine ifF ?_
        exact gN (by rw [un, hno]) H1 s1
      · refine ⟨_, rfl, _, rfl, ?_⟩
        refine ifT ?_
        refine ⟨_, rfl, _, rfl, q, _, 2, _, rfl, rfl, SqT.of (s1 _ _ eq), at2 _ _ _ _, x, vb, p, g, v, rfl, ok, hS.sm s1, hb.sm s1, fb, fun hno H2 s2 => ?_, fun lv hlv q2 H2 s2 n2 f2 => ?_⟩
        · refine ⟨_, rfl, _, rfl, ?_⟩
          refine ifF ?_
          exact gN (by rw [un, hlu, hno]) H2 (s1.trans s2)
        · refine ⟨_, rfl, _, rfl, ?_⟩
          refine ifT ?_
          have h1 := logT_len hlu
          have h2 := logT_len hlv
          refine ⟨_, rfl, _, rfl, q1, q2, _, _, rfl, rfl, s2 _ _ f1, f2, by rw [List.length_map, List.length_map]; omega, fun q6 n6 => ?_⟩
          rw [← List.map_append]
          have s12 := s1.trans s2
          generalize g6 : upd _ q6 _ = H6
          obtain ⟨s6, f6⟩ := new_of n6 g6
          exact gS _ (by rw [un, hlu, hlv]) q6 H6 (s12.trans s6) (s12.free n6) f6
/-- log_in and run_log at any depth -/
theorem d_logs (T : Tp K mg a) (D_kind_in : Df P w K mg base n "kind_in" ["setting", "log"] (spKindIn a)) (D_squares_of : Df P w K mg base n "squares_of" ["kinds"] (spSqs a)) : ∀ m, Df P w K mg base (n + 2 * m + 1) "log_in" ["setting", "value"] (spLog a m)
  | 0 => df_mk T 14 rfl sc_log_in bd_log_in (fun vs H Q E ⟨x, v, p, g, t, _, _, _, _, ft, _⟩ => absurd ft.dp (Nat.not_lt_zero _)) fun f cdv A outer s H vs Q E hr ⟨x, v, p, g, t, _, _, _, _, ft, _⟩ => absurd ft.dp (Nat.not_lt_zero _)
  | m + 1 => by
    have ih := d_logs T D_kind_in D_squares_of m
    have hrun := d_run_log T ih (D_kind_in.mono (by omega)) (D_squares_of.mono (by omega))
    have := d_log_in T (ih.mono (by omega : n + 2 * m + 1 ≤ n + 2 * m + 1 + 1)) hrun
    exact this
end
end K12

set_option maxHeartbeats 4000000
/-! New data: it stands apart from all that was there. -/
namespace K12
open PySem PySem.Spec L2
mutual
/-- data that was there stands apart from an address that was free -/
theorem At.free {p D : Addr} {H : Hp} (n : H D = none) : ∀ {v : V} {d : Dt}, At p H v d → At D H v d
  | v, .s x, h => by unfold At at h ⊢; exact h
  | v, .i _, h => by unfold At at h ⊢; exact h
  | v, .b _, h => by unfold At at h ⊢; exact h
  | v, .l ds, h => by
    unfold At at h ⊢
    obtain ⟨a, vs, e, _, q, r⟩ := h
    exact ⟨a, vs, e, fun z => (by subst z; rw [n] at q; cases q), q, AtL.free n r⟩
  | v, .t ds, h => by
    unfold At at h ⊢
    obtain ⟨a, vs, e, _, q, r⟩ := h
    exact ⟨a, vs, e, fun z => (by subst z; rw [n] at q; cases q), q, AtL.free n r⟩
theorem AtL.free {p D : Addr} {H : Hp} (n : H D = none) : ∀ {vs : List V} {ds : List Dt}, AtL p H vs ds → AtL D H vs ds
  | [], [], h => by unfold AtL; trivial
  | v :: vs, d :: ds, h => by
    unfold AtL at h ⊢
    exact ⟨At.free n h.1, AtL.free n h.2⟩
  | [], _ :: _, h => by unfold AtL at h; exact h.elim
  | _ :: _, [], h => by unfold AtL at h; exact h.elim
end
mutual
/-- another object is written -/
theorem At.upd {p D : Addr} {H : Hp} {o : HO} : ∀ {v : V} {d : Dt}, At p H v d → At D H v d → At p (upd H D o) v d
  | v, .s x, h, _ => by unfold At at h ⊢; exact h
  | v, .i _, h, _ => by unfold At at h ⊢; exact h
  | v, .b _, h, _ => by unfold At at h ⊢; exact h
  | v, .l ds, h, k => by
    unfold At at h k ⊢
    obtain ⟨a, vs, e, m, q, r⟩ := h
    obtain ⟨a', vs', e', m', q', r'⟩ := k
    rw [e] at e'
    injection e' with e'
    subst e'
    rw [q] at q'
    injection q' with q'
    injection q' with q'
    subst q'
    exact ⟨a, vs, e, m, by rw [upd_ne m']; exact q, AtL.upd r r'⟩
  | v, .t ds, h, k => by
    unfold At at h k ⊢
    obtain ⟨a, vs, e, m, q, r⟩ := h
    obtain ⟨a', vs', e', m', q', r'⟩ := k
    rw [e] at e'
    injection e' with e'
    subst e'
    rw [q] at q'
    injection q' with q'
    injection q' with q'
    subst q'
    exact ⟨a, vs, e, m, by rw [upd_ne m']; exact q, AtL.upd r r'⟩
theorem AtL.upd {p D : Addr} {H : Hp} {o : HO} : ∀ {vs : List V} {ds : List Dt}, AtL p H vs ds → AtL D H vs ds → AtL p (upd H D o) vs ds
  | [], [], h, _ => by unfold AtL; trivial
  | v :: vs, d :: ds, h, k => by
    unfold AtL at h k ⊢
    exact ⟨At.upd h.1 k.1, AtL.upd h.2 k.2⟩
  | [], _ :: _, h, _ => by unfold AtL at h; exact h.elim
  | _ :: _, [], h, _ => by unfold AtL at h; exact h.elim
end
/-- it was there -/
abbrev Is (H : Hp) (q : Addr) : Prop := ∃ o, H q = some o
theorem Is.up {H H' : Hp} {q : Addr} (h : Is H q) (s : Same H H') : Is H' q := h.elim fun o e => ⟨o, s _ _ e⟩
theorem Is.ne {H : Hp} {q r : Addr} (h : Is H q) (n : H r = none) : r ≠ q := fun z => by
  obtain ⟨o, e⟩ := h
  subst z
  rw [n] at e
  cases e
theorem Is.upE {H H' : Hp} {q p : Addr} {c m : Nat} (h : Is H q) (hp : Pu p m H) (x : Ext p c H H') : Is H' q := by
  by_cases e : q = p
  · subst e
    exact (x.pu m hp).here
  · exact h.elim fun o e' => ⟨o, x.keep _ _ e e'⟩
/-- new data -/
abbrev Fr (H H' : Hp) (v : V) (d : Dt) : Prop := ∀ q, Is H q → At q H' v d
abbrev FrL (H H' : Hp) (vs : List V) (ds : List Dt) : Prop := ∀ q, Is H q → AtL q H' vs ds
/-- a new list D that grows by data: each item stands apart from what was there before D, and from D -/
structure Bd (H : Hp) (D : Addr) (ds : List Dt) (H1 : Hp) : Prop where
  sm : Same H H1
  nw : H D = none
  ex : ∃ vs, H1 D = some (.lst vs) ∧ FrL H H1 vs ds ∧ AtL D H1 vs ds
theorem Bd.start {H : Hp} {D : Addr} (n : H D = none) : Bd H D [] (upd H D (.lst [])) := ⟨same_new n, n, [], upd_same, fun _ _ => .nil, .nil⟩
theorem Bd.sml {H H1 H2 : Hp} {D : Addr} {ds : List Dt} (h : Bd H D ds H1) (s : Same H1 H2) : Bd H D ds H2 := by
  obtain ⟨vs, e, f, g⟩ := h.ex
  exact ⟨h.sm.trans s, h.nw, vs, s _ _ e, fun q i => (f q i).sm s, g.sm s⟩
/-- one more, itself new, or there before D -/
theorem Bd.step {H H1 H2 : Hp} {D : Addr} {ds es : List Dt} {v : V} {d : Dt} (h : Bd H D ds H1) (s : Same H1 H2) (f : ∀ q, Is H q ∨ q = D → At q H2 v d) (l : ds.length < sizeLine) (e : es = ds ++ [d]) :
    ∃ acc, H2 D = some (.lst acc) ∧ acc.length < sizeLine ∧ Bd H D es (upd H2 D (.lst (acc ++ [v]))) := by
  obtain ⟨vs, e1, f1, g1⟩ := h.ex
  have hl : vs.length = ds.length := g1.len
  refine ⟨vs, s _ _ e1, by omega, Same.upd0 (h.sm.trans s) h.nw, h.nw, vs ++ [v], upd_same, fun q i => ?_, ?_⟩
  · rw [e]
    exact AtL.upd (((f1 q i).sm s).snoc (f q (.inl i))) ((g1.sm s).snoc (f D (.inr rfl)))
  · rw [e]
    exact AtL.upd ((g1.sm s).snoc (f D (.inr rfl))) ((g1.sm s).snoc (f D (.inr rfl)))
/-- the new thing of a call, within D's growth -/
theorem Bd.fr {H H1 H2 : Hp} {D : Addr} {ds : List Dt} {v : V} {d : Dt} (h : Bd H D ds H1) (f : Fr H1 H2 v d) : ∀ q, Is H q ∨ q = D → At q H2 v d := fun q i => by
  rcases i with i | rfl
  · exact f q (i.up h.sm)
  · exact f q (h.ex.elim fun vs e => ⟨_, e.1⟩)
theorem Bd.fin {H H1 : Hp} {D : Addr} {ds : List Dt} (h : Bd H D ds H1) : Fr H H1 (.ref D) (.l ds) := fun q i => by
  obtain ⟨vs, e, f, g⟩ := h.ex
  exact .l (i.ne h.nw) e (f q i)
theorem knL_app : ∀ (ts us : List T) (f : Int), knL (ts ++ us) f = knL ts f ++ knL us (f + (szL ts : Nat))
  | [], us, f => by rw [knL_nil, szL_nil]; simp
  | t :: ts, us, f => by
    rw [List.cons_append, knL_cons, knL_cons, knL_app ts us, szL_cons, List.append_assoc]
    congr 3
    omega
theorem knL_one (t : T) (f : Int) : knL [t] f = knT t f := by rw [knL_cons, knL_nil, List.append_nil]
mutual
theorem knT_len : ∀ {t : T} {f : Int}, t.full → (knT t f).length ≤ szT t * (t.dp + 1)
  | .lf x, f, h => by unfold knT; rw [szT_lf]; unfold T.dp; exact Nat.le_refl _
  | .pr a b, f, h => by
    have hf := h
    unfold T.full at h
    have h1 := knT_len (f := f) h.1
    have h2 := knT_len (f := f + (szT a : Nat)) h.2
    have h3 := full_sz hf
    have e : knT (.pr a b) f = kn f (f + (szT a + szT b : Nat)) (1 + max (heT a) (heT b) : Nat) :: (knT a f ++ knT b (f + (szT a : Nat))) := by conv => lhs; unfold knT
    rw [e, List.length_cons, List.length_append]
    rw [szT_pr] at h3 ⊢
    unfold T.dp
    have q1 : szT a * (a.dp + 1) ≤ szT a * (max a.dp b.dp + 1) := Nat.mul_le_mul (Nat.le_refl _) (by omega)
    have q2 : szT b * (b.dp + 1) ≤ szT b * (max a.dp b.dp + 1) := Nat.mul_le_mul (Nat.le_refl _) (by omega)
    rw [show (szT a + szT b) * (max a.dp b.dp + 1 + 1) = szT a * (max a.dp b.dp + 1) + szT b * (max a.dp b.dp + 1) + (szT a + szT b) by rw [Nat.mul_succ, Nat.add_mul]]
    omega
  | .rn k ps, f, h => by
    have hf := h
    unfold T.full at h
    have h1 := knL_len (f := f) h.2
    have h3 := full_sz hf
    have e : knT (.rn k ps) f = kn f (f + (szL ps : Nat)) (1 + heL ps : Nat) :: knL ps f := by conv => lhs; unfold knT
    rw [e, List.length_cons]
    rw [szT_rn] at h3 ⊢
    unfold T.dp
    rw [Nat.mul_succ]
    omega
theorem knL_len : ∀ {ts : List T} {f : Int}, fullL ts → (knL ts f).length ≤ szL ts * (dpL ts + 1)
  | [], f, _ => by rw [knL_nil]; exact Nat.zero_le _
  | t :: ts, f, h => by
    unfold fullL at h
    have h1 := knT_len (f := f) h.1
    have h2 := knL_len (f := f + (szT t : Nat)) h.2
    rw [knL_cons, List.length_append, szL_cons]
    unfold dpL
    have q1 : szT t * (t.dp + 1) ≤ szT t * (max t.dp (dpL ts) + 1) := Nat.mul_le_mul (Nat.le_refl _) (by omega)
    have q2 : szL ts * (dpL ts + 1) ≤ szL ts * (max t.dp (dpL ts) + 1) := Nat.mul_le_mul (Nat.le_refl _) (by omega)
    rw [Nat.add_mul]
    omega
end
/-- the most knots a tree can have here -/
theorem kn_max {t : T} {m : Nat} {f : Int} (h : t.fit m) (hm : m ≤ 1000) : (knT t f).length ≤ 1000000 := by
  have h1 := knT_len (f := f) h.fu
  have h2 := h.sz
  have h3 := h.dp
  have : szT t * (t.dp + 1) ≤ 1000 * 1000 := Nat.mul_le_mul h2 (by omega)
  omega
theorem parts_fit {t : T} {m : Nat} (h : t.fit (m + 1)) : ∀ u ∈ t.parts, u.fit m := by
  cases t with
  | lf x => intro u hu; cases hu
  | pr a b =>
    intro u hu
    rcases List.mem_cons.mp hu with e | hu
    · rw [e]; exact h.pr.1
    · rw [List.mem_singleton.mp hu]; exact h.pr.2
  | rn k ps => exact h.rn.1
theorem At.node {p : Addr} {H : Hp} {v : V} {t : T} (h : At p H v t.dt) (fu : t.full) : (∃ z, t = .lf z ∧ v = .str z) ∨ ∃ q xs, v = .ref q ∧ H q = some (.tup xs) ∧ t.parts ≠ [] := by
  cases t with
  | lf z => exact .inl ⟨z, rfl, h.lf⟩
  | pr a b =>
    obtain ⟨q, va, vb, e, nq, eq, _⟩ := h.pr
    exact .inr ⟨q, _, e, eq, List.cons_ne_nil _ _⟩
  | rn k ps =>
    obtain ⟨q, l, xs, e, nq, eq, _⟩ := h.rn
    unfold T.full at fu
    exact .inr ⟨q, _, e, eq, fu.1⟩
theorem parts_len {t : T} {m : Nat} (h : t.fit (m + 1)) : t.parts.length ≤ 1000 := by
  cases t with
  | lf x => exact Nat.zero_le _
  | pr a b => exact (by decide : 2 ≤ 1000)
  | rn k ps => exact h.rn.2.2.1
end K12

set_option maxHeartbeats 4000000
/-! The program: heights, knots, trees turned. -/
namespace K12
open PySem PySem.Spec L2
section
variable {P : Program} {w : World} {K : PySem.W.Frag} {mg : Str → Option Value} {base : Heap} {a : Ad} {n : Nat}
def spParts : Sp := fun vs H Q _ => ∃ v p, ∃ (t : T), vs = [v] ∧ At p H v t.dt ∧ Is H p ∧ ∀ l xs H', Same H H' → l ≠ p → H' l = some (.lst xs) → AtL p H' xs (dtL t.parts) → Q (.ref l) H'
theorem cut_tup {x y z : V} : cutV [x, y, z] (some 1) none = [y, z] := cut1 x [y, z]
theorem sc_parts_of : FnScope ["tree"] ["tree"] (defScope s_parts_of) := ⟨rfl, rfl, rfl, by decide +kernel, rfl, by decide +kernel, by decide +kernel⟩
theorem bd_parts_of : BindsOf "parts_of" "parts_of" s_parts_of ["tree"] := fun _ _ _ _ _ _ us hl => match us, hl with | [_], _ => rfl
theorem d_parts_of (T : Tp K mg a) : Df P w K mg base (n + 1) "parts_of" ["tree"] spParts := by
  refine df_mk T 18 rfl sc_parts_of bd_parts_of (fun vs H Q E h => ?_) (fun f cdv A outer s H vs Q E hr h => ?_)
  · obtain ⟨v, p, t, rfl, _⟩ := h
    rfl
  · obtain ⟨v, p, t, rfl, hv, ip, go⟩ := h
    refine ⟨_, (pss_cons (ps_if (pt_val (pe_callB (call_isiK_ (K := K) rfl) (by rfl) T.f_isinstance (by decide +kernel) (pa_cons (pv 0) (pa_cons (pe_bltn (v := .ty "str") (u := .type "str") (by rfl) T.f_str (by decide +kernel) rfl) pa_nil))))
      (pss_one (ps_ret (pe_lst pa_nil)))
      pss_nil)
    (pss_one (ps_ret (pe_ifExp (pt_cmpR op_eq (pe_ix (ix_tupK (K := K) rfl) (pv 0) pe_int (fun _ _ => rfl)) pe_str (nomark _)) (pe_callTy (call_list_ofK (K := K) rfl) (by rfl) T.f_list (by decide +kernel) (pa_cons (pe_slice (sl_tupK (K := K) rfl) (pv 0) (po_some pe_int) po_none) pa_nil)) (pe_ix (ix_tupK (K := K) rfl) (pv 0) pe_int (fun _ _ => rfl)))))), ?_⟩
    cases t with
    | lf z =>
      obtain rfl := hv.lf
      refine ⟨_, rfl, _, _, _, _, _, rfl, .ty _, .base (.str _), kit_ty (by rfl), _, rfl, ?_⟩
      refine ifT ?_
      refine ⟨Nat.zero_le _, fun q n1 => ?_⟩
      generalize g1 : upd _ q _ = H1
      obtain ⟨s1, f1⟩ := new_of n1 g1
      exact go q [] H1 s1 (ip.ne n1) f1 (by show AtL p H1 [] (dtL []); unfold dtL; exact .nil)
    | pr u v =>
      obtain ⟨q, va, vb, rfl, nq, eq, ha, hb⟩ := hv.pr
      refine ⟨_, rfl, _, _, _, _, _, rfl, .ty _, .base (.tup eq), kit_ty (by rfl), _, rfl, ?_⟩
      refine ifF ?_
      refine ⟨_, rfl, q, _, 0, _, rfl, rfl, SqT.of eq, at0 _ _, rfl, _, rfl, ?_⟩
      refine ifT ?_
      refine ⟨_, rfl, _, rfl, q, _, rfl, SqT.of eq, (by show ¬(HT.sIx 3 0 (some 1) = 0 ∧ HT.sIx 3 3 none = 3); decide), fun q1 n1 => ?_⟩
      rw [cut_tup]
      generalize g1 : upd _ q1 _ = H1
      obtain ⟨s1, f1⟩ := new_of n1 g1
      refine ⟨q1, _, rfl, .inr (SqT.of f1), fun q2 n2 => ?_⟩
      generalize g2 : upd _ q2 _ = H2
      obtain ⟨s2, f2⟩ := new_of n2 g2
      refine go q2 [va, vb] H2 (s1.trans s2) ((ip.up s1).ne n2) f2 ?_
      show AtL p H2 [va, vb] (dtL [u, v])
      rw [dtL_map]
      exact .cons (ha.sm (s1.trans s2)) (.cons (hb.sm (s1.trans s2)) .nil)
    | rn k ps =>
      obtain ⟨q, l, xs, rfl, nq, eq, nl, el, hp⟩ := hv.rn
      refine ⟨_, rfl, _, _, _, _, _, rfl, .ty _, .base (.tup eq), kit_ty (by rfl), _, rfl, ?_⟩
      refine ifF ?_
      refine ⟨_, rfl, q, _, 0, _, rfl, rfl, SqT.of eq, at0 _ _, rfl, _, rfl, ?_⟩
      refine ifF ?_
      refine ⟨_, rfl, q, _, 2, _, rfl, rfl, SqT.of eq, at2 _ _ _ _, ?_⟩
      exact go l xs H (Same.refl H) nl el hp
def spHe (m : Nat) : Sp := fun vs H Q _ => ∃ v p, ∃ (t : T), vs = [v] ∧ At p H v t.dt ∧ Is H p ∧ t.fit m ∧ ∀ H', Same H H' → Q (.int (heT t : Nat)) H'
theorem he_list {ts : List T} (h : ts ≠ []) : ∀ m : Int, m ∈ ts.map (fun t => ((heT t : Nat) : Int)) → (∀ y, y ∈ ts.map (fun t => ((heT t : Nat) : Int)) → y ≤ m) → m = ((heL ts : Nat) : Int) := by
  intro m hm hle
  obtain ⟨t, ht, e⟩ := List.mem_map.mp hm
  obtain ⟨u, hu, e2⟩ := heL_in h
  have h1 := heL_ge ht
  have h2 := hle _ (List.mem_map.mpr ⟨u, hu, rfl⟩)
  omega
theorem sc_height_in : FnScope ["tree", "part"] ["tree"] (defScope s_height_in) := ⟨rfl, rfl, rfl, by decide +kernel, rfl, by decide +kernel, by decide +kernel⟩
theorem bd_height_in : BindsOf "height_in" "height_in" s_height_in ["tree"] := fun _ _ _ _ _ _ us hl => match us, hl with | [_], _ => rfl
theorem d_height_in {m : Nat} (T : Tp K mg a) (D_parts_of : Df P w K mg base n "parts_of" ["tree"] spParts) (D_height_in : Df P w K mg base n "height_in" ["tree"] (spHe m)) : Df P w K mg base (n + 1) "height_in" ["tree"] (spHe (m + 1)) := by
  refine df_mk T 19 rfl sc_height_in bd_height_in (fun vs H Q E h => ?_) (fun f cdv A outer s H vs Q E hr h => ?_)
  · obtain ⟨v, p, t, rfl, _⟩ := h
    rfl
  · obtain ⟨v, p, t, rfl, hv, ip, ft, go⟩ := h
    have hs := szl
    have fp := parts_fit ft
    have fl := parts_len ft
    refine ⟨_, (pss_one (ps_ret (pe_ifExp (pt_not (pt_val (pe_callB (call_isiK_ (K := K) rfl) (by rfl) T.f_isinstance (by decide +kernel) (pa_cons (pv 0) (pa_cons (pe_bltn (v := .ty "str") (u := .type "str") (by rfl) T.f_str (by decide +kernel) rfl) pa_nil))))) (pe_op op_add pe_int (pe_callB (cr_maxK (K := K) rfl rfl) (by rfl) T.f_max (by decide +kernel) (pa_cons (pe_lc (own := [("part", 1)]) rfl sc_height_in.nd (pi_listK (K := K) rfl (pe_f D_parts_of hr (by rfl) (pa_cons (pv 0) pa_nil))) (blkOk_by (own := [("part", 1)]) (N := ["tree", "part"]) (sc := defScope s_height_in) (by decide +kernel)) (fun _ _ _ _ _ => (pg_name (i := 1) sc_height_in.nd rfl (Or.inl rfl))) (fun _ _ _ _ _ => pts_nil) (fun _ _ _ _ _ => (pe_f D_height_in hr (by rfl) (pa_cons (pv 1) pa_nil)))) pa_nil))) pe_int))), ?_⟩
    rcases hv.node ft.fu with ⟨z, rfl, rfl⟩ | ⟨q, xs, rfl, eq, ne⟩
    case inl =>
      refine ⟨_, rfl, _, _, _, _, _, rfl, .ty _, .base (.str _), kit_ty (by rfl), _, rfl, ?_⟩
      refine ifF ?_
      have := go H (Same.refl H)
      rw [heT_lf] at this
      exact this
    refine ⟨_, rfl, _, _, _, _, _, rfl, .ty _, .base (.tup eq), kit_ty (by rfl), _, rfl, ?_⟩
    refine ifT ?_
    refine ⟨_, rfl, _, p, t, rfl, hv, ip, fun l ys H1 s1 nl el hp => ?_⟩
    refine ⟨l, rfl, ⟨_, SqL.of el⟩, fun D nD => ?_⟩
    have pl := hp.plen
    refine lc_list (xs := ys) (fun i H2 => Ac H1 D ((t.parts.take i).map fun u => V.int (heT u : Nat)) H2) (Ac.start nD) (fun i H2 _ hv => SqL.of (hv.sm _ _ el)) ?_ ?_
    · intro i y H2 hi hv2
      obtain ⟨u, hu, hat⟩ := hp.part hi
      refine ⟨rfl, _, rfl, y, p, u, rfl, hat.sm hv2.sm, (ip.up s1).up hv2.sm, fp u (List.mem_of_getElem? hu), fun H3 s3 => ?_⟩
      refine hv2.step s3 ?_ (take_map_succ _ hu)
      rw [List.length_map, List.length_take]; omega
    · intro H2 hv2
      refine ⟨D, t.parts.map fun u => ((heT u : Nat) : Int), rfl, SqL.of ?_, ?_, fun mx h1 h2 => ?_⟩
      · rw [hv2.at_, pl, List.take_length, List.map_map]; rfl
      · rw [List.length_map]; exact List.length_pos_iff.mpr ne
      · rw [he_list ne mx h1 h2]
        have := go H2 (s1.trans hv2.sm)
        rw [heT_parts ne] at this
        refine ⟨_, _, rfl, rfl, ?_⟩
        rw [show ((1 + heL t.parts : Nat) : Int) = (1 : Int) + ((heL t.parts : Nat) : Int) by omega] at this
        exact this
def spSz (m : Nat) : Sp := fun vs H Q _ => ∃ v p, ∃ (t : T), vs = [v] ∧ At p H v t.dt ∧ Is H p ∧ t.fit m ∧ ∀ H', Same H H' → Q (.int (szT t : Nat)) H'
theorem sz_list : ∀ ts : List T, (ts.map (fun t => ((szT t : Nat) : Int))).sum = ((szL ts : Nat) : Int)
  | [] => by rw [szL_nil]; rfl
  | t :: ts => by rw [List.map_cons, List.sum_cons, sz_list ts, szL_cons]; omega
theorem sc_size_of : FnScope ["tree", "part"] ["tree"] (defScope s_size_of) := ⟨rfl, rfl, rfl, by decide +kernel, rfl, by decide +kernel, by decide +kernel⟩
theorem bd_size_of : BindsOf "size_of" "size_of" s_size_of ["tree"] := fun _ _ _ _ _ _ us hl => match us, hl with | [_], _ => rfl
theorem d_size_of {m : Nat} (T : Tp K mg a) (D_parts_of : Df P w K mg base n "parts_of" ["tree"] spParts) (D_size_of : Df P w K mg base n "size_of" ["tree"] (spSz m)) : Df P w K mg base (n + 1) "size_of" ["tree"] (spSz (m + 1)) := by
  refine df_mk T 23 rfl sc_size_of bd_size_of (fun vs H Q E h => ?_) (fun f cdv A outer s H vs Q E hr h => ?_)
  · obtain ⟨v, p, t, rfl, _⟩ := h
    rfl
  · obtain ⟨v, p, t, rfl, hv, ip, ft, go⟩ := h
    have hs := szl
    have fp := parts_fit ft
    have fl := parts_len ft
    refine ⟨_, (pss_one (ps_ret (pe_ifExp (pt_val (pe_callB (call_isiK_ (K := K) rfl) (by rfl) T.f_isinstance (by decide +kernel) (pa_cons (pv 0) (pa_cons (pe_bltn (v := .ty "str") (u := .type "str") (by rfl) T.f_str (by decide +kernel) rfl) pa_nil)))) pe_int (pe_callB (cr_sumK (K := K) rfl rfl) (by rfl) T.f_sum (by decide +kernel) (pa_cons (pe_lc (own := [("part", 1)]) rfl sc_size_of.nd (pi_listK (K := K) rfl (pe_f D_parts_of hr (by rfl) (pa_cons (pv 0) pa_nil))) (blkOk_by (own := [("part", 1)]) (N := ["tree", "part"]) (sc := defScope s_size_of) (by decide +kernel)) (fun _ _ _ _ _ => (pg_name (i := 1) sc_size_of.nd rfl (Or.inl rfl))) (fun _ _ _ _ _ => pts_nil) (fun _ _ _ _ _ => (pe_f D_size_of hr (by rfl) (pa_cons (pv 1) pa_nil)))) pa_nil))))), ?_⟩
    rcases hv.node ft.fu with ⟨z, rfl, rfl⟩ | ⟨q, xs, rfl, eq, ne⟩
    case inl =>
      refine ⟨_, rfl, _, _, _, _, _, rfl, .ty _, .base (.str _), kit_ty (by rfl), _, rfl, ?_⟩
      refine ifT ?_
      have := go H (Same.refl H)
      rw [szT_lf] at this
      exact this
    refine ⟨_, rfl, _, _, _, _, _, rfl, .ty _, .base (.tup eq), kit_ty (by rfl), _, rfl, ?_⟩
    refine ifF ?_
    refine ⟨_, rfl, _, p, t, rfl, hv, ip, fun l ys H1 s1 nl el hp => ?_⟩
    refine ⟨l, rfl, ⟨_, SqL.of el⟩, fun D nD => ?_⟩
    have pl := hp.plen
    refine lc_list (xs := ys) (fun i H2 => Ac H1 D ((t.parts.take i).map fun u => V.int (szT u : Nat)) H2) (Ac.start nD) (fun i H2 _ hv => SqL.of (hv.sm _ _ el)) ?_ ?_
    · intro i y H2 hi hv2
      obtain ⟨u, hu, hat⟩ := hp.part hi
      refine ⟨rfl, _, rfl, y, p, u, rfl, hat.sm hv2.sm, (ip.up s1).up hv2.sm, fp u (List.mem_of_getElem? hu), fun H3 s3 => ?_⟩
      refine hv2.step s3 ?_ (take_map_succ _ hu)
      rw [List.length_map, List.length_take]; omega
    · intro H2 hv2
      refine ⟨D, t.parts.map fun u => ((szT u : Nat) : Int), rfl, SqL.of ?_, ?_⟩
      · rw [hv2.at_, pl, List.take_length, List.map_map]; rfl
      · rw [sz_list]
        have := go H2 (s1.trans hv2.sm)
        rw [szT_parts ne] at this
        exact this
def spKn (m : Nat) : Sp := fun vs H Q _ => ∃ v p, ∃ (t : T) (f : Int), vs = [v, .int f] ∧ At p H v t.dt ∧ Is H p ∧ t.fit m ∧ ∀ q ks H', Same H H' → H q = none → H' q = some (.lst ks) → FrL H H' ks (knT t f) → Q (.ref q) H'
theorem sc_knots_in : FnScope ["tree", "first", "part", "found", "point"] ["tree", "first"] (defScope s_knots_in) := ⟨rfl, rfl, rfl, by decide +kernel, rfl, by decide +kernel, by decide +kernel⟩
theorem bd_knots_in : BindsOf "knots_in" "knots_in" s_knots_in ["tree", "first"] := fun _ _ _ _ _ _ us hl => match us, hl with | [_, _], _ => rfl
theorem d_knots_in {m : Nat} (hm : m + 1 ≤ 1000) (T : Tp K mg a) (D_parts_of : Df P w K mg base n "parts_of" ["tree"] spParts) (D_height_in : Df P w K mg base n "height_in" ["tree"] (spHe (m + 1))) (D_size_of : Df P w K mg base n "size_of" ["tree"] (spSz (m + 1)))
    (D_knots_in : Df P w K mg base n "knots_in" ["tree", "first"] (spKn m)) : Df P w K mg base (n + 1) "knots_in" ["tree", "first"] (spKn (m + 1)) := by
  refine df_mk T 24 rfl sc_knots_in bd_knots_in (fun vs H Q E h => ?_) (fun f cdv A outer s H vs Q E hr h => ?_)
  · obtain ⟨v, p, t, f, rfl, _⟩ := h
    rfl
  · obtain ⟨v, p, t, f, rfl, hv, ip, ft, go⟩ := h
    have hs := szl
    have szb : 4000000 ≤ sizeLine := by decide
    have fp := parts_fit ft
    have fl := parts_len ft
    have kmax := kn_max (f := f) ft hm
    refine ⟨_, (pss_cons (ps_par (i := 3) (j := 4) (by rfl) sc_knots_in.nd rfl rfl (by decide) rfl rfl (pa_cons (pe_lst (pa_cons (pe_tup (pa_cons (pv 1) (pa_cons (pe_op op_add (pv 1) (pe_f D_size_of hr (by rfl) (pa_cons (pv 0) pa_nil))) (pa_cons (pe_f D_height_in hr (by rfl) (pa_cons (pv 0) pa_nil)) pa_nil)))) pa_nil)) (pa_cons (pv 1) pa_nil)) (by rfl))
    (pss_cons (ps_for PassesOwn.never rfl (pi_listK (K := K) rfl (pe_f D_parts_of hr (by rfl) (pa_cons (pv 0) pa_nil))) (pg_name (i := 2) sc_knots_in.nd rfl (Or.inl rfl))
      (pss_cons (ps_set (i := 3) sc_knots_in.nd rfl (Or.inl rfl) (pe_op op_cat (pv 3) (pe_f D_knots_in hr (by rfl) (pa_cons (pv 2) (pa_cons (pv 4) pa_nil)))))
      (pss_one (ps_aug (i := 4) sc_knots_in.nd rfl (Or.inl rfl) (pe_f D_size_of hr (by rfl) (pa_cons (pv 2) pa_nil)) ip_add))))
    (pss_one (ps_ret (pv 3))))), ?_⟩
    refine ⟨_, rfl, _, rfl, _, rfl, v, p, t, rfl, hv, ip, ft, fun H1 s1 => ⟨_, _, rfl, rfl, _, rfl, v, p, t, rfl, hv.sm s1, ip.up s1, ft, fun H2 s2 => ?_⟩⟩
    have s12 := s1.trans s2
    refine ⟨Nat.le_trans (by decide : 3 ≤ 4096) hs, fun q1 n1 => ?_⟩
    generalize g1 : upd _ q1 _ = H3
    obtain ⟨s3, f3⟩ := new_of n1 g1
    refine ⟨Nat.le_trans (by decide : 1 ≤ 4096) hs, fun q2 n2 => ?_⟩
    generalize g2 : upd _ q2 _ = H4
    obtain ⟨s4, f4⟩ := new_of n2 g2
    have s14 := s12.trans (s3.trans s4)
    refine ⟨_, rfl, _, _, rfl, ?_⟩
    refine ⟨_, rfl, v, p, t, rfl, hv.sm s14, ip.up s14, fun l ys H5 s5 nl el hp => ?_⟩
    refine ⟨l, rfl, ⟨_, SqL.of el⟩, ?_⟩
    have s15 := s14.trans s5
    have pl := hp.plen
    refine for_list (xs := ys) (fun i σ H6 => Same H5 H6 ∧ ∃ (u : Option V) (fa : Addr) (ks : List V), H fa = none ∧ H6 fa = some (.lst ks) ∧ FrL H H6 ks (kn f (f + (szT t : Nat)) (heT t : Nat) :: knL (t.parts.take i) f) ∧
      σ = [some v, some (.int f), u, some (.ref fa), some (.int (f + (szL (t.parts.take i) : Nat)))]) ⟨Same.refl _, none, q2, _, s12.free (s3.free n2), s5 _ _ f4, ?_, ?_⟩ (fun i σ H6 _ hv => SqL.of (hv.1 _ _ el)) ?_ ?_
    · intro q iq
      rw [List.take_zero, knL_nil]
      exact .cons (.t ((iq.up s12).ne n1) (s5 _ _ (s4 _ _ f3)) (.cons .i (.cons .i (.cons .i .nil)))) .nil
    · rw [List.take_zero, szL_nil]
      show [some v, some (.int f), none, some (.ref q2), some (.int f)] = _
      rw [show f + ((0 : Nat) : Int) = f by omega]
    · rintro i y σ H6 hi ⟨s6, u, fa, ks, nfa, efa, fr, rfl⟩
      obtain ⟨t', ht, hat⟩ := hp.part hi
      have ft' := fp t' (List.mem_of_getElem? ht)
      have kmax' := kn_max (f := f + (szL (t.parts.take i) : Nat)) ft' (by omega)
      have tk : t.parts.take (i + 1) = t.parts.take i ++ [t'] := by rw [List.take_add_one, ht]; rfl
      refine ⟨_, rfl, _, rfl, _, rfl, y, p, t', _, rfl, hat.sm s6, (ip.up s15).up s6, ft'.mono (by omega), fun q7 kq H7 s7 n7 e7 fr7 => ?_⟩
      have s07 := s15.trans (s6.trans s7)
      have s06 := s15.trans s6
      have l1 : ks.length ≤ 1000000 := by
        have := (fr p ip).len
        rw [this, List.length_cons]
        have h1 : (knT t f).length = (knL t.parts f).length + 1 := by rw [knT_eq, List.length_cons]
        have h2 : knL t.parts f = knL (t.parts.take i) f ++ knL (t.parts.drop i) (f + (szL (t.parts.take i) : Nat)) := by rw [← knL_app, List.take_append_drop]
        rw [h2, List.length_append] at h1
        omega
      have l2 : kq.length ≤ 1000000 := by
        have := (fr7 p (ip.up s06)).len
        omega
      refine ⟨fa, q7, _, _, rfl, rfl, s7 _ _ efa, e7, by omega, fun q8 n8 => ?_⟩
      generalize g8 : upd _ q8 _ = H8
      obtain ⟨s8, f8⟩ := new_of n8 g8
      refine ⟨_, rfl, _, rfl, y, p, t', rfl, hat.sm (s6.trans (s7.trans s8)), (ip.up s15).up (s6.trans (s7.trans s8)), ft'.mono (by omega), fun H9 s9 => ⟨_, _, rfl, rfl, ?_⟩⟩
      refine ⟨s6.trans (s7.trans (s8.trans s9)), some y, q8, ks ++ kq, s07.free n8, s9 _ _ f8, fun q iq => ?_, ?_⟩
      · rw [tk, knL_app, knL_one, ← List.cons_append]
        exact ((fr q iq).sm (s7.trans (s8.trans s9))).app ((fr7 q (iq.up s06)).sm (s8.trans s9))
      · rw [tk, szL_app, szL_cons, szL_nil]
        show [some v, some (.int f), some y, some (.ref q8), some (.int (f + ((szL (t.parts.take i) : Nat) : Int) + ((szT t' : Nat) : Int)))] = _
        rw [show f + ((szL (t.parts.take i) : Nat) : Int) + ((szT t' : Nat) : Int) = f + ((szL (t.parts.take i) + (szT t' + 0) : Nat) : Int) by omega]
    · rintro σ H6 ⟨s6, u, fa, ks, nfa, efa, fr, rfl⟩
      rw [pl, List.take_length, ← knT_eq] at fr
      exact ⟨_, rfl, go fa ks H6 (s15.trans s6) nfa efa fr⟩
end
end K12

set_option maxHeartbeats 4000000
/-! The program: trees turned; what asks a tree of a setting. -/
namespace K12
open PySem PySem.Spec L2
theorem rev_get {α : Type} {l : List α} {i : Nat} {x : α} (hi : i < l.length) (h : l[l.length - 1 - i]? = some x) : l.reverse[i]? = some x := by
  rw [List.getElem?_reverse hi]; exact h
theorem dtL_app (ts us : List T) : dtL (ts ++ us) = dtL ts ++ dtL us := by rw [dtL_map, dtL_map, dtL_map, List.map_append]
section
variable {P : Program} {w : World} {K : PySem.W.Frag} {mg : Str → Option Value} {base : Heap} {a : Ad} {n : Nat}
def spTu (m : Nat) : Sp := fun vs H Q _ => ∃ v p, ∃ (t : T), vs = [v] ∧ At p H v t.dt ∧ Is H p ∧ t.fit m ∧ ∀ v' H', Same H H' → Fr H H' v' (turnT t).dt → Q v' H'
theorem sc_turned : FnScope ["tree", "part"] ["tree"] (defScope s_turned) := ⟨rfl, rfl, rfl, by decide +kernel, rfl, by decide +kernel, by decide +kernel⟩
theorem bd_turned : BindsOf "turned" "turned" s_turned ["tree"] := fun _ _ _ _ _ _ us hl => match us, hl with | [_], _ => rfl
theorem d_turned {m : Nat} (T : Tp K mg a) (D_turned : Df P w K mg base n "turned" ["tree"] (spTu m)) : Df P w K mg base (n + 1) "turned" ["tree"] (spTu (m + 1)) := by
  refine df_mk T 26 rfl sc_turned bd_turned (fun vs H Q E h => ?_) (fun f cdv A outer s H vs Q E hr h => ?_)
  · obtain ⟨v, p, t, rfl, _⟩ := h
    rfl
  · obtain ⟨v, p, t, rfl, hv, ip, ft, go⟩ := h
    have hs := szl
    refine ⟨_, (pss_cons (ps_if (pt_val (pe_callB (call_isiK_ (K := K) rfl) (by rfl) T.f_isinstance (by decide +kernel) (pa_cons (pv 0) (pa_cons (pe_bltn (v := .ty "str") (u := .type "str") (by rfl) T.f_str (by decide +kernel) rfl) pa_nil))))
      (pss_one (ps_ret (pv 0)))
      pss_nil)
    (pss_cons (ps_if (pt_cmpR op_eq (pe_ix (ix_tupK (K := K) rfl) (pv 0) pe_int (fun _ _ => rfl)) pe_str (nomark _))
      (pss_one (ps_ret (pe_tup (pa_cons pe_str (pa_cons (pe_f D_turned hr (by rfl) (pa_cons (pe_ix (ix_tupK (K := K) rfl) (pv 0) pe_int (fun _ _ => rfl)) pa_nil)) (pa_cons (pe_f D_turned hr (by rfl) (pa_cons (pe_ix (ix_tupK (K := K) rfl) (pv 0) pe_int (fun _ _ => rfl)) pa_nil)) pa_nil))))))
      pss_nil)
    (pss_one (ps_ret (pe_tup (pa_cons pe_str (pa_cons (pe_ix (ix_tupK (K := K) rfl) (pv 0) pe_int (fun _ _ => rfl)) (pa_cons (pe_lc (own := [("part", 1)]) rfl sc_turned.nd (pi_reversed (by rfl) T.f_reversed (pa_cons (pe_ix (ix_tupK (K := K) rfl) (pv 0) pe_int (fun _ _ => rfl)) pa_nil)) (blkOk_by (own := [("part", 1)]) (N := ["tree", "part"]) (sc := defScope s_turned) (by decide +kernel)) (fun _ _ _ _ _ => (pg_name (i := 1) sc_turned.nd rfl (Or.inl rfl))) (fun _ _ _ _ _ => pts_nil) (fun _ _ _ _ _ => (pe_f D_turned hr (by rfl) (pa_cons (pv 1) pa_nil)))) pa_nil)))))))), ?_⟩
    cases t with
    | lf z =>
      obtain rfl := hv.lf
      refine ⟨_, rfl, _, _, _, _, _, rfl, .ty _, .base (.str _), kit_ty (by rfl), _, rfl, ?_⟩
      refine ifT ?_
      exact ⟨_, rfl, go (.str z) H (Same.refl H) fun q _ => by unfold turnT; exact .mk_lf⟩
    | pr u v =>
      obtain ⟨q, va, vb, rfl, nq, eq, ha, hb⟩ := hv.pr
      obtain ⟨fa, fb⟩ := ft.pr
      refine ⟨_, rfl, _, _, _, _, _, rfl, .ty _, .base (.tup eq), kit_ty (by rfl), _, rfl, ?_⟩
      refine ifF ?_
      refine ⟨_, rfl, q, _, 0, _, rfl, rfl, SqT.of eq, at0 _ _, rfl, _, rfl, ?_⟩
      refine ifT ?_
      refine ⟨_, rfl, q, _, 2, _, rfl, rfl, SqT.of eq, at2 _ _ _ _, vb, p, v, rfl, hb, ip, fb, fun v1 H1 s1 f1 => ?_⟩
      refine ⟨_, rfl, q, _, 1, _, rfl, rfl, SqT.of (s1 _ _ eq), at1 _ _ _, va, p, u, rfl, ha.sm s1, ip.up s1, fa, fun v2 H2 s2 f2 => ?_⟩
      refine ⟨Nat.le_trans (by decide : 3 ≤ 4096) hs, fun q3 n3 => ?_⟩
      generalize g3 : upd _ q3 _ = H3
      obtain ⟨s3, e3⟩ := new_of n3 g3
      have s12 := s1.trans s2
      refine go (.ref q3) H3 (s12.trans s3) fun r ir => ?_
      unfold turnT
      exact .mk_pr ((ir.up s12).ne n3) e3 ((f1 r ir).sm (s2.trans s3)) ((f2 r (ir.up s1)).sm s3)
    | rn k ps =>
      obtain ⟨q, l, xs, rfl, nq, eq, nl, el, hp⟩ := hv.rn
      obtain ⟨fp, pne, pl, psz⟩ := ft.rn
      have plen := hp.plen
      refine ⟨_, rfl, _, _, _, _, _, rfl, .ty _, .base (.tup eq), kit_ty (by rfl), _, rfl, ?_⟩
      refine ifF ?_
      refine ⟨_, rfl, q, _, 0, _, rfl, rfl, SqT.of eq, at0 _ _, rfl, _, rfl, ?_⟩
      refine ifF ?_
      refine ⟨_, rfl, q, _, 1, _, rfl, rfl, SqT.of eq, at1 _ _ _, _, rfl, q, _, 2, _, rfl, rfl, SqT.of eq, at2 _ _ _ _, l, _, rfl, SqL.of el, fun D nD => ?_⟩
      refine lc_it walk_rev (fun i H1 => Bd H D (dtL ((turnL ps).reverse.take i)) H1) (by rw [List.take_zero]; unfold dtL; exact Bd.start nD) (fun i H1 _ hv => SqL.of (hv.sm _ _ el)) ?_ ?_
      · rintro i y H1 H2 hi hv1 ⟨rfl, hy⟩
        obtain ⟨t', ht, hat⟩ := hp.part hy
        have mt := List.mem_of_getElem? ht
        refine ⟨rfl, _, rfl, y, p, t', rfl, hat.sm hv1.sm, ip.up hv1.sm, fp t' mt, fun v3 H3 s3 f3 => ?_⟩
        refine hv1.step s3 (hv1.fr f3) ?_ ?_
        · rw [dtL_len, List.length_take]; omega
        · have g1 : (turnL ps).reverse[i]? = some (turnT t') := by
            refine rev_get (by rw [turnL_map, List.length_map]; omega) ?_
            rw [turnL_map, List.length_map, List.getElem?_map, ← plen, ht]
            rfl
          rw [List.take_add_one, g1, dtL_app]
          rw [show dtL (some (turnT t')).toList = [(turnT t').dt] by rw [dtL_map]; rfl]
      · intro H1 hv1
        rw [show xs.length = (turnL ps).reverse.length by rw [List.length_reverse, turnL_map, List.length_map]; exact plen, List.take_length] at hv1
        refine ⟨Nat.le_trans (by decide : 3 ≤ 4096) hs, fun q3 n3 => ?_⟩
        generalize g3 : upd _ q3 _ = H3
        obtain ⟨s3, e3⟩ := new_of n3 g3
        refine go (.ref q3) H3 (hv1.sm.trans s3) fun r ir => ?_
        obtain ⟨vs, e1, f1, _⟩ := hv1.ex
        unfold turnT
        exact .mk_rn ((ir.up hv1.sm).ne n3) e3 (ir.ne nD) (s3 _ _ e1) ((f1 r ir).sm s3)
/-! ### at any depth -/
theorem d_heights (T : Tp K mg a) (D_parts_of : Df P w K mg base n "parts_of" ["tree"] spParts) : ∀ m, Df P w K mg base (n + m + 1) "height_in" ["tree"] (spHe m)
  | 0 => df_mk T 19 rfl sc_height_in bd_height_in (fun vs H Q E ⟨v, p, t, _, _, _, ft, _⟩ => absurd ft.dp (Nat.not_lt_zero _)) fun f cdv A outer s H vs Q E hr ⟨v, p, t, _, _, _, ft, _⟩ => absurd ft.dp (Nat.not_lt_zero _)
  | m + 1 => d_height_in T (D_parts_of.mono (by omega)) (d_heights T D_parts_of m)
theorem d_sizes (T : Tp K mg a) (D_parts_of : Df P w K mg base n "parts_of" ["tree"] spParts) : ∀ m, Df P w K mg base (n + m + 1) "size_of" ["tree"] (spSz m)
  | 0 => df_mk T 23 rfl sc_size_of bd_size_of (fun vs H Q E ⟨v, p, t, _, _, _, ft, _⟩ => absurd ft.dp (Nat.not_lt_zero _)) fun f cdv A outer s H vs Q E hr ⟨v, p, t, _, _, _, ft, _⟩ => absurd ft.dp (Nat.not_lt_zero _)
  | m + 1 => d_size_of T (D_parts_of.mono (by omega)) (d_sizes T D_parts_of m)
theorem d_turneds (T : Tp K mg a) : ∀ m, Df P w K mg base (n + m + 1) "turned" ["tree"] (spTu m)
  | 0 => df_mk T 26 rfl sc_turned bd_turned (fun vs H Q E ⟨v, p, t, _, _, _, ft, _⟩ => absurd ft.dp (Nat.not_lt_zero _)) fun f cdv A outer s H vs Q E hr ⟨v, p, t, _, _, _, ft, _⟩ => absurd ft.dp (Nat.not_lt_zero _)
  | m + 1 => d_turned T (d_turneds T m)
theorem d_knotss (T : Tp K mg a) (D_parts_of : Df P w K mg base n "parts_of" ["tree"] spParts) : ∀ m, m ≤ 1000 → Df P w K mg base (n + m + 2) "knots_in" ["tree", "first"] (spKn m)
  | 0, _ => df_mk T 24 rfl sc_knots_in bd_knots_in (fun vs H Q E ⟨v, p, t, _, _, _, _, ft, _⟩ => absurd ft.dp (Nat.not_lt_zero _)) fun f cdv A outer s H vs Q E hr ⟨v, p, t, _, _, _, _, ft, _⟩ => absurd ft.dp (Nat.not_lt_zero _)
  | m + 1, hm => d_knots_in hm T (D_parts_of.mono (by omega)) ((d_heights T D_parts_of (m + 1)).mono (by omega)) ((d_sizes T D_parts_of (m + 1)).mono (by omega)) (d_knotss T D_parts_of m (by omega))
/-! ### asked of a setting -/
def spIsT (a : Ad) (m : Nat) : Sp := fun vs H Q _ => ∃ x v p, ∃ (g : Sg) (t : T), vs = [.ref x, v] ∧ g.Ok ∧ SsAt a p x H g ∧ At p H v t.dt ∧ t.fit m ∧ ∀ H', Same H H' → Q (.bl (logT g t).isSome) H'
theorem sc_is_tree : FnScope ["setting", "value"] ["setting", "value"] (defScope s_is_tree) := ⟨rfl, rfl, rfl, by decide +kernel, rfl, by decide +kernel, by decide +kernel⟩
theorem bd_is_tree : BindsOf "is_tree" "is_tree" s_is_tree ["setting", "value"] := fun _ _ _ _ _ _ us hl => match us, hl with | [_, _], _ => rfl
theorem d_is_tree {m : Nat} (T : Tp K mg a) (D_check_setting : Df P w K mg base n "check_setting" ["value"] (spCkS a)) (D_log_in : Df P w K mg base n "log_in" ["setting", "value"] (spLog a m)) : Df P w K mg base (n + 1) "is_tree" ["setting", "value"] (spIsT a m) := by
  refine df_mk T 16 rfl sc_is_tree bd_is_tree (fun vs H Q E h => ?_) (fun f cdv A outer s H vs Q E hr h => ?_)
  · obtain ⟨x, v, p, g, t, rfl, _⟩ := h
    rfl
  · obtain ⟨x, v, p, g, t, rfl, ok, hS, hv, ft, go⟩ := h
    refine ⟨_, (pss_cons (ps_expr (pe_f D_check_setting hr (by rfl) (pa_cons (pv 0) pa_nil)))
    (pss_one (ps_ret (pe_cmp (pc_notN (pe_f D_log_in hr (by rfl) (pa_cons (pv 0) (pa_cons (pv 1) pa_nil)))))))), ?_⟩
    refine ⟨_, rfl, x, g, p, rfl, hS, ?_⟩
    refine ⟨_, rfl, _, rfl, x, v, p, g, t, rfl, ok, hS, hv, ft, fun hno H1 s1 => ?_, fun l hl q H1 s1 n1 f1 => ?_⟩
    · have := go H1 s1
      rw [hno] at this
      exact this
    · have := go H1 s1
      rw [hl] at this
      exact this
def spCkT (a : Ad) (m : Nat) : Sp := fun vs H Q _ => ∃ x v p, ∃ (g : Sg) (t : T), vs = [.ref x, v] ∧ g.Ok ∧ SsAt a p x H g ∧ At p H v t.dt ∧ t.fit m ∧ (logT g t).isSome = true ∧ ∀ H', Same H H' → Q .non H'
theorem sc_check_tree : FnScope ["setting", "value"] ["setting", "value"] (defScope s_check_tree) := ⟨rfl, rfl, rfl, by decide +kernel, rfl, by decide +kernel, by decide +kernel⟩
theorem bd_check_tree : BindsOf "check_tree" "check_tree" s_check_tree ["setting", "value"] := fun _ _ _ _ _ _ us hl => match us, hl with | [_, _], _ => rfl
theorem d_check_tree {m : Nat} (T : Tp K mg a) (D_check_setting : Df P w K mg base n "check_setting" ["value"] (spCkS a)) (D_log_in : Df P w K mg base n "log_in" ["setting", "value"] (spLog a m)) : Df P w K mg base (n + 1) "check_tree" ["setting", "value"] (spCkT a m) := by
  refine df_mk T 17 rfl sc_check_tree bd_check_tree (fun vs H Q E h => ?_) (fun f cdv A outer s H vs Q E hr h => ?_)
  · obtain ⟨x, v, p, g, t, rfl, _⟩ := h
    rfl
  · obtain ⟨x, v, p, g, t, rfl, ok, hS, hv, ft, hl, go⟩ := h
    refine ⟨_, (pss_cons (ps_expr (pe_f D_check_setting hr (by rfl) (pa_cons (pv 0) pa_nil)))
    (pss_one (ps_if (pt_cmp (pc_isN (pe_f D_log_in hr (by rfl) (pa_cons (pv 0) (pa_cons (pv 1) pa_nil)))))
      (pss_one ps_never)
      pss_nil))), ?_⟩
    refine ⟨_, rfl, x, g, p, rfl, hS, ?_⟩
    refine ⟨_, rfl, _, rfl, x, v, p, g, t, rfl, ok, hS, hv, ft, fun hno H1 s1 => ?_, fun l hl q H1 s1 n1 f1 => ?_⟩
    · rw [hno] at hl
      cases hl
    · refine ⟨_, rfl, ?_⟩
      refine ifF ?_
      exact go H1 s1
def spLogOf (a : Ad) (m : Nat) : Sp := fun vs H Q _ => ∃ x v p, ∃ (g : Sg) (t : T) (l : List Str), vs = [.ref x, v] ∧ g.Ok ∧ SsAt a p x H g ∧ At p H v t.dt ∧ t.fit m ∧ logT g t = some l ∧ ∀ q H', Same H H' → H q = none → H' q = some (.lst (l.map V.str)) → Q (.ref q) H'
theorem sc_log_of : FnScope ["setting", "tree"] ["setting", "tree"] (defScope s_log_of) := ⟨rfl, rfl, rfl, by decide +kernel, rfl, by decide +kernel, by decide +kernel⟩
theorem bd_log_of : BindsOf "log_of" "log_of" s_log_of ["setting", "tree"] := fun _ _ _ _ _ _ us hl => match us, hl with | [_, _], _ => rfl
theorem d_log_of {m : Nat} (T : Tp K mg a) (D_check_tree : Df P w K mg base n "check_tree" ["setting", "value"] (spCkT a m)) (D_log_in : Df P w K mg base n "log_in" ["setting", "value"] (spLog a m)) : Df P w K mg base (n + 1) "log_of" ["setting", "tree"] (spLogOf a m) := by
  refine df_mk T 20 rfl sc_log_of bd_log_of (fun vs H Q E h => ?_) (fun f cdv A outer s H vs Q E hr h => ?_)
  · obtain ⟨x, v, p, g, t, l, rfl, _⟩ := h
    rfl
  · obtain ⟨x, v, p, g, t, l, rfl, ok, hS, hv, ft, hl, go⟩ := h
    refine ⟨_, (pss_cons (ps_expr (pe_f D_check_tree hr (by rfl) (pa_cons (pv 0) (pa_cons (pv 1) pa_nil))))
    (pss_one (ps_ret (pe_f D_log_in hr (by rfl) (pa_cons (pv 0) (pa_cons (pv 1) pa_nil)))))), ?_⟩
    refine ⟨_, rfl, _, rfl, x, v, p, g, t, rfl, ok, hS, hv, ft, by rw [hl]; rfl, fun H1 s1 => ?_⟩
    refine ⟨_, rfl, _, rfl, x, v, p, g, t, rfl, ok, hS.sm s1, hv.sm s1, ft, fun hno => (by rw [hl] at hno; cases hno), fun l' hl' q H2 s2 n2 f2 => ?_⟩
    rw [hl] at hl'
    cases hl'
    exact go q H2 (s1.trans s2) (s1.free n2) f2
def spKb (a : Ad) (m : Nat) : Sp := fun vs H Q _ => ∃ x v p, ∃ (g : Sg) (t : T) (l : List Str), vs = [.ref x, v] ∧ g.Ok ∧ SsAt a p x H g ∧ At p H v t.dt ∧ t.fit m ∧ logT g t = some l ∧ ∀ H', Same H H' → Q (.str (kindOf g l)) H'
theorem sc_kind_by : FnScope ["setting", "tree"] ["setting", "tree"] (defScope s_kind_by) := ⟨rfl, rfl, rfl, by decide +kernel, rfl, by decide +kernel, by decide +kernel⟩
theorem bd_kind_by : BindsOf "kind_by" "kind_by" s_kind_by ["setting", "tree"] := fun _ _ _ _ _ _ us hl => match us, hl with | [_, _], _ => rfl
theorem d_kind_by {m : Nat} (T : Tp K mg a) (D_check_tree : Df P w K mg base n "check_tree" ["setting", "value"] (spCkT a m)) (D_kind_in : Df P w K mg base n "kind_in" ["setting", "log"] (spKindIn a)) (D_log_in : Df P w K mg base n "log_in" ["setting", "value"] (spLog a m)) : Df P w K mg base (n + 1) "kind_by" ["setting", "tree"] (spKb a m) := by
  refine df_mk T 21 rfl sc_kind_by bd_kind_by (fun vs H Q E h => ?_) (fun f cdv A outer s H vs Q E hr h => ?_)
  · obtain ⟨x, v, p, g, t, l, rfl, _⟩ := h
    rfl
  · obtain ⟨x, v, p, g, t, l, rfl, ok, hS, hv, ft, hl, go⟩ := h
    refine ⟨_, (pss_cons (ps_expr (pe_f D_check_tree hr (by rfl) (pa_cons (pv 0) (pa_cons (pv 1) pa_nil))))
    (pss_one (ps_ret (pe_f D_kind_in hr (by rfl) (pa_cons (pv 0) (pa_cons (pe_f D_log_in hr (by rfl) (pa_cons (pv 0) (pa_cons (pv 1) pa_nil))) pa_nil)))))), ?_⟩
    refine ⟨_, rfl, _, rfl, x, v, p, g, t, rfl, ok, hS, hv, ft, by rw [hl]; rfl, fun H1 s1 => ?_⟩
    refine ⟨_, rfl, _, rfl, _, rfl, x, v, p, g, t, rfl, ok, hS.sm s1, hv.sm s1, ft, fun hno => (by rw [hl] at hno; cases hno), fun l' hl' q H2 s2 n2 f2 => ?_⟩
    rw [hl] at hl'
    cases hl'
    have hok := logT_ok hl
    have hlen := logT_len hl
    have hsz := ft.sz
    exact ⟨x, q, p, g, l, rfl, ok, hS.sm (s1.trans s2), f2, hok.2, hok.1, by omega, fun H3 s3 => go H3 ((s1.trans s2).trans s3)⟩
def spHo (a : Ad) (m : Nat) : Sp := fun vs H Q _ => ∃ x v p, ∃ (g : Sg) (t : T), vs = [.ref x, v] ∧ g.Ok ∧ SsAt a p x H g ∧ At p H v t.dt ∧ Is H p ∧ t.fit m ∧ (logT g t).isSome = true ∧ ∀ H', Same H H' → Q (.int (heT t : Nat)) H'
theorem sc_height_of : FnScope ["setting", "tree"] ["setting", "tree"] (defScope s_height_of) := ⟨rfl, rfl, rfl, by decide +kernel, rfl, by decide +kernel, by decide +kernel⟩
theorem bd_height_of : BindsOf "height_of" "height_of" s_height_of ["setting", "tree"] := fun _ _ _ _ _ _ us hl => match us, hl with | [_, _], _ => rfl
theorem d_height_of {m : Nat} (T : Tp K mg a) (D_check_tree : Df P w K mg base n "check_tree" ["setting", "value"] (spCkT a m)) (D_height_in : Df P w K mg base n "height_in" ["tree"] (spHe m)) : Df P w K mg base (n + 1) "height_of" ["setting", "tree"] (spHo a m) := by
  refine df_mk T 22 rfl sc_height_of bd_height_of (fun vs H Q E h => ?_) (fun f cdv A outer s H vs Q E hr h => ?_)
  · obtain ⟨x, v, p, g, t, rfl, _⟩ := h
    rfl
  · obtain ⟨x, v, p, g, t, rfl, ok, hS, hv, ip, ft, hl, go⟩ := h
    refine ⟨_, (pss_cons (ps_expr (pe_f D_check_tree hr (by rfl) (pa_cons (pv 0) (pa_cons (pv 1) pa_nil))))
    (pss_one (ps_ret (pe_f D_height_in hr (by rfl) (pa_cons (pv 1) pa_nil))))), ?_⟩
    refine ⟨_, rfl, _, rfl, x, v, p, g, t, rfl, ok, hS, hv, ft, hl, fun H1 s1 => ?_⟩
    exact ⟨_, rfl, v, p, t, rfl, hv.sm s1, ip.up s1, ft, fun H2 s2 => go H2 (s1.trans s2)⟩
def spKo (a : Ad) (m : Nat) : Sp := fun vs H Q _ => ∃ x v p, ∃ (g : Sg) (t : T), vs = [.ref x, v] ∧ g.Ok ∧ SsAt a p x H g ∧ At p H v t.dt ∧ Is H p ∧ t.fit m ∧ (logT g t).isSome = true ∧
  ∀ q ks H', Same H H' → H q = none → H' q = some (.lst ks) → FrL H H' ks (knT t 0) → Q (.ref q) H'
theorem FrL.pre {H H1 H2 : Hp} {vs : List V} {ds : List Dt} (s : Same H H1) (f : FrL H1 H2 vs ds) : FrL H H2 vs ds := fun q i => f q (i.up s)
theorem sc_knots_of : FnScope ["setting", "tree"] ["setting", "tree"] (defScope s_knots_of) := ⟨rfl, rfl, rfl, by decide +kernel, rfl, by decide +kernel, by decide +kernel⟩
theorem bd_knots_of : BindsOf "knots_of" "knots_of" s_knots_of ["setting", "tree"] := fun _ _ _ _ _ _ us hl => match us, hl with | [_, _], _ => rfl
theorem d_knots_of {m : Nat} (T : Tp K mg a) (D_check_tree : Df P w K mg base n "check_tree" ["setting", "value"] (spCkT a m)) (D_knots_in : Df P w K mg base n "knots_in" ["tree", "first"] (spKn m)) : Df P w K mg base (n + 1) "knots_of" ["setting", "tree"] (spKo a m) := by
  refine df_mk T 25 rfl sc_knots_of bd_knots_of (fun vs H Q E h => ?_) (fun f cdv A outer s H vs Q E hr h => ?_)
  · obtain ⟨x, v, p, g, t, rfl, _⟩ := h
    rfl
  · obtain ⟨x, v, p, g, t, rfl, ok, hS, hv, ip, ft, hl, go⟩ := h
    refine ⟨_, (pss_cons (ps_expr (pe_f D_check_tree hr (by rfl) (pa_cons (pv 0) (pa_cons (pv 1) pa_nil))))
    (pss_one (ps_ret (pe_f D_knots_in hr (by rfl) (pa_cons (pv 1) (pa_cons pe_int pa_nil)))))), ?_⟩
    refine ⟨_, rfl, _, rfl, x, v, p, g, t, rfl, ok, hS, hv, ft, hl, fun H1 s1 => ?_⟩
    exact ⟨_, rfl, v, p, t, 0, rfl, hv.sm s1, ip.up s1, ft, fun q ks H2 s2 n2 e2 f2 => go q ks H2 (s1.trans s2) (s1.free n2) e2 (f2.pre s1)⟩
def spOt (a : Ad) (m : Nat) : Sp := fun vs H Q _ => ∃ x v p, ∃ (g : Sg) (t : T), vs = [.ref x, v] ∧ g.Ok ∧ SsAt a p x H g ∧ At p H v t.dt ∧ Is H p ∧ t.fit m ∧ (logT g t).isSome = true ∧
  ∀ v' H', Same H H' → Fr H H' v' (turnT t).dt → Q v' H'
theorem Fr.pre {H H1 H2 : Hp} {v : V} {d : Dt} (s : Same H H1) (f : Fr H1 H2 v d) : Fr H H2 v d := fun q i => f q (i.up s)
theorem sc_opposite_tree : FnScope ["setting", "tree"] ["setting", "tree"] (defScope s_opposite_tree) := ⟨rfl, rfl, rfl, by decide +kernel, rfl, by decide +kernel, by decide +kernel⟩
theorem bd_opposite_tree : BindsOf "opposite_tree" "opposite_tree" s_opposite_tree ["setting", "tree"] := fun _ _ _ _ _ _ us hl => match us, hl with | [_, _], _ => rfl
theorem d_opposite_tree {m : Nat} (T : Tp K mg a) (D_check_tree : Df P w K mg base n "check_tree" ["setting", "value"] (spCkT a m)) (D_turned : Df P w K mg base n "turned" ["tree"] (spTu m)) : Df P w K mg base (n + 1) "opposite_tree" ["setting", "tree"] (spOt a m) := by
  refine df_mk T 27 rfl sc_opposite_tree bd_opposite_tree (fun vs H Q E h => ?_) (fun f cdv A outer s H vs Q E hr h => ?_)
  · obtain ⟨x, v, p, g, t, rfl, _⟩ := h
    rfl
  · obtain ⟨x, v, p, g, t, rfl, ok, hS, hv, ip, ft, hl, go⟩ := h
    refine ⟨_, (pss_cons (ps_expr (pe_f D_check_tree hr (by rfl) (pa_cons (pv 0) (pa_cons (pv 1) pa_nil))))
    (pss_one (ps_ret (pe_f D_turned hr (by rfl) (pa_cons (pv 1) pa_nil))))), ?_⟩
    refine ⟨_, rfl, _, rfl, x, v, p, g, t, rfl, ok, hS, hv, ft, hl, fun H1 s1 => ?_⟩
    exact ⟨_, rfl, v, p, t, rfl, hv.sm s1, ip.up s1, ft, fun v' H2 s2 f2 => go v' H2 (s1.trans s2) (f2.pre s1)⟩
end
end K12

set_option maxHeartbeats 4000000
/-! The law's mirrors: parts, heights, knots, trees turned. -/
namespace K12
open PySem PySem.Spec L2
theorem AtL.rev {p : Addr} {H : Hp} : ∀ {vs : List V} {ds : List Dt}, AtL p H vs ds → AtL p H vs.reverse ds.reverse
  | [], [], _ => .nil
  | v :: vs, d :: ds, h => by
    unfold AtL at h
    rw [List.reverse_cons, List.reverse_cons]
    exact h.2.rev.snoc h.1
  | [], _ :: _, h => by unfold AtL at h; exact h.elim
  | _ :: _, [], h => by unfold AtL at h; exact h.elim
theorem dtL_rev (ts : List T) : dtL ts.reverse = (dtL ts).reverse := by rw [dtL_map, dtL_map, List.map_reverse]
section
variable {P : Program} {w : World} {K : PySem.W.Frag} {mg : Str → Option Value} {base : Heap} {a : Ad} {n : Nat}
def spTp : Sp := fun vs H Q _ => ∃ v, ∃ (t : T), vs = [v] ∧ (∃ p, At p H v t.dt) ∧ ∀ l xs H', Same H H' → H l = none → H' l = some (.lst xs) → (∀ p, At p H v t.dt → AtL p H' xs (dtL t.parts)) → Q (.ref l) H'
theorem sc_law_tree_parts : FnScope ["_law_tree"] ["_law_tree"] (defScope s_law_tree_parts) := ⟨rfl, rfl, rfl, by decide +kernel, rfl, by decide +kernel, by decide +kernel⟩
theorem bd_law_tree_parts : BindsOf "_law_tree_parts" "_law_tree_parts" s_law_tree_parts ["_law_tree"] := fun _ _ _ _ _ _ us hl => match us, hl with | [_], _ => rfl
theorem d_tree_parts (T : Tp K mg a) : Df P w K mg base (n + 1) "_law_tree_parts" ["_law_tree"] spTp := by
  refine df_mk T 49 rfl sc_law_tree_parts bd_law_tree_parts (fun vs H Q E h => ?_) (fun f cdv A outer s H vs Q E hr h => ?_)
  · obtain ⟨v, t, rfl, _⟩ := h
    rfl
  · obtain ⟨v, t, rfl, ⟨p, hv⟩, go⟩ := h
    refine ⟨_, (pss_cons (ps_if (pt_val (pe_callB (call_isiK_ (K := K) rfl) (by rfl) T.f_isinstance (by decide +kernel) (pa_cons (pv 0) (pa_cons (pe_bltn (v := .ty "str") (u := .type "str") (by rfl) T.f_str (by decide +kernel) rfl) pa_nil))))
      (pss_one (ps_ret (pe_lst pa_nil)))
      pss_nil)
    (pss_one (ps_ret (pe_ifExp (pt_cmpR op_eq (pe_ix (ix_tupK (K := K) rfl) (pv 0) pe_int (fun _ _ => rfl)) pe_str (nomark _)) (pe_callTy (call_list_ofK (K := K) rfl) (by rfl) T.f_list (by decide +kernel) (pa_cons (pe_slice (sl_tupK (K := K) rfl) (pv 0) (po_some pe_int) po_none) pa_nil)) (pe_callTy (call_list_ofK (K := K) rfl) (by rfl) T.f_list (by decide +kernel) (pa_cons (pe_ix (ix_tupK (K := K) rfl) (pv 0) pe_int (fun _ _ => rfl)) pa_nil)))))), ?_⟩
    cases t with
    | lf z =>
      obtain rfl := hv.lf
      refine ⟨_, rfl, _, _, _, _, _, rfl, .ty _, .base (.str _), kit_ty (by rfl), _, rfl, ?_⟩
      refine ifT ?_
      refine ⟨Nat.zero_le _, fun q n1 => ?_⟩
      generalize g1 : upd _ q _ = H1
      obtain ⟨s1, f1⟩ := new_of n1 g1
      exact go q [] H1 s1 n1 f1 fun p _ => by show AtL p H1 [] (dtL []); unfold dtL; exact .nil
    | pr u v =>
      obtain ⟨q, va, vb, rfl, nq, eq, ha, hb⟩ := hv.pr
      refine ⟨_, rfl, _, _, _, _, _, rfl, .ty _, .base (.tup eq), kit_ty (by rfl), _, rfl, ?_⟩
      refine ifF ?_
      refine ⟨_, rfl, q, _, 0, _, rfl, rfl, SqT.of eq, at0 _ _, rfl, _, rfl, ?_⟩
      refine ifT ?_
      refine ⟨_, rfl, _, rfl, q, _, rfl, SqT.of eq, (by show ¬(HT.sIx 3 0 (some 1) = 0 ∧ HT.sIx 3 3 none = 3); decide), fun q1 n1 => ?_⟩
      rw [cut_tup]
      generalize g1 : upd _ q1 _ = H1
      obtain ⟨s1, f1⟩ := new_of n1 g1
      refine ⟨q1, _, rfl, .inr (SqT.of f1), fun q2 n2 => ?_⟩
      generalize g2 : upd _ q2 _ = H2
      obtain ⟨s2, f2⟩ := new_of n2 g2
      refine go q2 [va, vb] H2 (s1.trans s2) (s1.free n2) f2 fun p hv => ?_
      obtain ⟨q', va', vb', e', _, eq', ha, hb⟩ := hv.pr
      injection e' with e'
      subst e'
      rw [eq] at eq'
      injection eq' with eq'
      injection eq' with eq'
      injection eq' with _ eq'
      injection eq' with ea eq'
      injection eq' with eb _
      subst ea eb
      show AtL p H2 [va, vb] (dtL [u, v])
      rw [dtL_map]
      exact .cons (ha.sm (s1.trans s2)) (.cons (hb.sm (s1.trans s2)) .nil)
    | rn k ps =>
      obtain ⟨q, l, xs, rfl, nq, eq, nl, el, hp⟩ := hv.rn
      refine ⟨_, rfl, _, _, _, _, _, rfl, .ty _, .base (.tup eq), kit_ty (by rfl), _, rfl, ?_⟩
      refine ifF ?_
      refine ⟨_, rfl, q, _, 0, _, rfl, rfl, SqT.of eq, at0 _ _, rfl, _, rfl, ?_⟩
      refine ifF ?_
      refine ⟨_, rfl, q, _, 2, _, rfl, rfl, SqT.of eq, at2 _ _ _ _, l, _, rfl, .inl (SqL.of el), fun q2 n2 => ?_⟩
      generalize g2 : upd _ q2 _ = H2
      obtain ⟨s2, f2⟩ := new_of n2 g2
      refine go q2 xs H2 s2 n2 f2 fun p hv => ?_
      obtain ⟨q', l', xs', e', _, eq', _, el', hp⟩ := hv.rn
      injection e' with e'
      subst e'
      rw [eq] at eq'
      injection eq' with eq'
      injection eq' with eq'
      injection eq' with _ eq'
      injection eq' with _ eq'
      injection eq' with el2 _
      injection el2 with el2
      subst el2
      rw [el] at el'
      injection el' with el'
      injection el' with el'
      subst el'
      exact hp.sm s2
theorem sc_law_tree_height : FnScope ["_law_tree", "_law_part"] ["_law_tree"] (defScope s_law_tree_height) := ⟨rfl, rfl, rfl, by decide +kernel, rfl, by decide +kernel, by decide +kernel⟩
theorem bd_law_tree_height : BindsOf "_law_tree_height" "_law_tree_height" s_law_tree_height ["_law_tree"] := fun _ _ _ _ _ _ us hl => match us, hl with | [_], _ => rfl
theorem d_tree_height {m : Nat} (T : Tp K mg a) (D_law_tree_parts : Df P w K mg base n "_law_tree_parts" ["_law_tree"] spTp) (D_law_tree_height : Df P w K mg base n "_law_tree_height" ["_law_tree"] (spHe m)) : Df P w K mg base (n + 1) "_law_tree_height" ["_law_tree"] (spHe (m + 1)) := by
  refine df_mk T 50 rfl sc_law_tree_height bd_law_tree_height (fun vs H Q E h => ?_) (fun f cdv A outer s H vs Q E hr h => ?_)
  · obtain ⟨v, p, t, rfl, _⟩ := h
    rfl
  · obtain ⟨v, p, t, rfl, hv, ip, ft, go⟩ := h
    have hs := szl
    have fp := parts_fit ft
    have fl := parts_len ft
    refine ⟨_, (pss_one (ps_ret (pe_ifExp (pt_val (pe_callB (call_isiK_ (K := K) rfl) (by rfl) T.f_isinstance (by decide +kernel) (pa_cons (pv 0) (pa_cons (pe_bltn (v := .ty "str") (u := .type "str") (by rfl) T.f_str (by decide +kernel) rfl) pa_nil)))) pe_int (pe_op op_add pe_int (pe_callB (cr_maxK (K := K) rfl rfl) (by rfl) T.f_max (by decide +kernel) (pa_cons (pe_lc (own := [("_law_part", 1)]) rfl sc_law_tree_height.nd (pi_listK (K := K) rfl (pe_f D_law_tree_parts hr (by rfl) (pa_cons (pv 0) pa_nil))) (blkOk_by (own := [("_law_part", 1)]) (N := ["_law_tree", "_law_part"]) (sc := defScope s_law_tree_height) (by decide +kernel)) (fun _ _ _ _ _ => (pg_name (i := 1) sc_law_tree_height.nd rfl (Or.inl rfl))) (fun _ _ _ _ _ => pts_nil) (fun _ _ _ _ _ => (pe_f D_law_tree_height hr (by rfl) (pa_cons (pv 1) pa_nil)))) pa_nil)))))), ?_⟩
    rcases hv.node ft.fu with ⟨z, rfl, rfl⟩ | ⟨q, xs, rfl, eq, ne⟩
    case inl =>
      refine ⟨_, rfl, _, _, _, _, _, rfl, .ty _, .base (.str _), kit_ty (by rfl), _, rfl, ?_⟩
      refine ifT ?_
      have := go H (Same.refl H)
      rw [heT_lf] at this
      exact this
    refine ⟨_, rfl, _, _, _, _, _, rfl, .ty _, .base (.tup eq), kit_ty (by rfl), _, rfl, ?_⟩
    refine ifF ?_
    refine ⟨_, rfl, _, t, rfl, ⟨p, hv⟩, fun l ys H1 s1 nl el hp' => ?_⟩
    have hp := hp' p hv
    refine ⟨l, rfl, ⟨_, SqL.of el⟩, fun D nD => ?_⟩
    have pl := hp.plen
    refine lc_list (xs := ys) (fun i H2 => Ac H1 D ((t.parts.take i).map fun u => V.int (heT u : Nat)) H2) (Ac.start nD) (fun i H2 _ hv => SqL.of (hv.sm _ _ el)) ?_ ?_
    · intro i y H2 hi hv2
      obtain ⟨u, hu, hat⟩ := hp.part hi
      refine ⟨rfl, _, rfl, y, p, u, rfl, hat.sm hv2.sm, (ip.up s1).up hv2.sm, fp u (List.mem_of_getElem? hu), fun H3 s3 => ?_⟩
      refine hv2.step s3 ?_ (take_map_succ _ hu)
      rw [List.length_map, List.length_take]; omega
    · intro H2 hv2
      refine ⟨D, t.parts.map fun u => ((heT u : Nat) : Int), rfl, SqL.of ?_, ?_, fun mx h1 h2 => ?_⟩
      · rw [hv2.at_, pl, List.take_length, List.map_map]; rfl
      · rw [List.length_map]; exact List.length_pos_iff.mpr ne
      · rw [he_list ne mx h1 h2]
        have := go H2 (s1.trans hv2.sm)
        rw [heT_parts ne] at this
        refine ⟨_, _, rfl, rfl, ?_⟩
        rw [show ((1 + heL t.parts : Nat) : Int) = (1 : Int) + ((heL t.parts : Nat) : Int) by omega] at this
        exact this
theorem sc_law_turned : FnScope ["_law_tree", "_law_parts", "_law_part"] ["_law_tree"] (defScope s_law_turned) := ⟨rfl, rfl, rfl, by decide +kernel, rfl, by decide +kernel, by decide +kernel⟩
theorem bd_law_turned : BindsOf "_law_turned" "_law_turned" s_law_turned ["_law_tree"] := fun _ _ _ _ _ _ us hl => match us, hl with | [_], _ => rfl
theorem d_lturned {m : Nat} (T : Tp K mg a) (D_law_tree_parts : Df P w K mg base n "_law_tree_parts" ["_law_tree"] spTp) (D_law_turned : Df P w K mg base n "_law_turned" ["_law_tree"] (spTu m)) : Df P w K mg base (n + 1) "_law_turned" ["_law_tree"] (spTu (m + 1)) := by
  refine df_mk T 58 rfl sc_law_turned bd_law_turned (fun vs H Q E h => ?_) (fun f cdv A outer s H vs Q E hr h => ?_)
  · obtain ⟨v, p, t, rfl, _⟩ := h
    rfl
  · obtain ⟨v, p, t, rfl, hv, ip, ft, go⟩ := h
    have hs := szl
    have fp := parts_fit ft
    have fl := parts_len ft
    refine ⟨_, (pss_cons (ps_if (pt_val (pe_callB (call_isiK_ (K := K) rfl) (by rfl) T.f_isinstance (by decide +kernel) (pa_cons (pv 0) (pa_cons (pe_bltn (v := .ty "str") (u := .type "str") (by rfl) T.f_str (by decide +kernel) rfl) pa_nil))))
      (pss_one (ps_ret (pv 0)))
      pss_nil)
    (pss_cons (ps_set (i := 1) sc_law_turned.nd rfl (Or.inl rfl) (pe_revLK (K := K) rfl (pe_lc (own := [("_law_part", 2)]) rfl sc_law_turned.nd (pi_listK (K := K) rfl (pe_f D_law_tree_parts hr (by rfl) (pa_cons (pv 0) pa_nil))) (blkOk_by (own := [("_law_part", 2)]) (N := ["_law_tree", "_law_parts", "_law_part"]) (sc := defScope s_law_turned) (by decide +kernel)) (fun _ _ _ _ _ => (pg_name (i := 2) sc_law_turned.nd rfl (Or.inl rfl))) (fun _ _ _ _ _ => pts_nil) (fun _ _ _ _ _ => (pe_f D_law_turned hr (by rfl) (pa_cons (pv 2) pa_nil))))))
    (pss_one (ps_ret (pe_ifExp (pt_cmpR op_eq (pe_ix (ix_tupK (K := K) rfl) (pv 0) pe_int (fun _ _ => rfl)) pe_str (nomark _)) (pe_tup (pa_cons pe_str (pa_cons (pe_ix (ix_listK (K := K) rfl) (pv 1) pe_int (fun _ _ => rfl)) (pa_cons (pe_ix (ix_listK (K := K) rfl) (pv 1) pe_int (fun _ _ => rfl)) pa_nil)))) (pe_tup (pa_cons pe_str (pa_cons (pe_ix (ix_tupK (K := K) rfl) (pv 0) pe_int (fun _ _ => rfl)) (pa_cons (pv 1) pa_nil))))))))), ?_⟩
    rcases hv.node ft.fu with ⟨z, rfl, rfl⟩ | ⟨q, xs, rfl, eq, ne⟩
    case inl =>
      refine ⟨_, rfl, _, _, _, _, _, rfl, .ty _, .base (.str _), kit_ty (by rfl), _, rfl, ?_⟩
      refine ifT ?_
      exact ⟨_, rfl, go (.str z) H (Same.refl H) fun q _ => by unfold turnT; exact .mk_lf⟩
    refine ⟨_, rfl, _, _, _, _, _, rfl, .ty _, .base (.tup eq), kit_ty (by rfl), _, rfl, ?_⟩
    refine ifF ?_
    refine ⟨_, rfl, _, t, rfl, ⟨p, hv⟩, fun l ys H1 s1 nl el hp' => ?_⟩
    have hp := hp' p hv
    refine ⟨l, rfl, ⟨_, SqL.of el⟩, fun D nD => ?_⟩
    have pl := hp.plen
    refine lc_list (xs := ys) (fun i H2 => Bd H1 D (dtL ((t.parts.map turnT).take i)) H2) (by rw [List.take_zero]; unfold dtL; exact Bd.start nD) (fun i H2 _ hv => SqL.of (hv.sm _ _ el)) ?_ ?_
    · intro i y H2 hi hv2
      obtain ⟨u, hu, hat⟩ := hp.part hi
      refine ⟨rfl, _, rfl, y, p, u, rfl, hat.sm hv2.sm, (ip.up s1).up hv2.sm, fp u (List.mem_of_getElem? hu), fun v3 H3 s3 f3 => ?_⟩
      refine hv2.step s3 (hv2.fr f3) ?_ ?_
      · rw [dtL_len, List.length_take, List.length_map]; omega
      · have g1 : (t.parts.map turnT)[i]? = some (turnT u) := by rw [List.getElem?_map, hu]; rfl
        rw [List.take_add_one, g1, dtL_app]
        rw [show dtL (some (turnT u)).toList = [(turnT u).dt] by rw [dtL_map]; rfl]
    · intro H2 hv2
      rw [show ys.length = (t.parts.map turnT).length by rw [List.length_map]; exact pl, List.take_length] at hv2
      obtain ⟨vs, e2, f2, _⟩ := hv2.ex
      refine ⟨D, vs, rfl, SqL.of e2, fun q3 n3 => ?_⟩
      generalize g3 : upd _ q3 _ = H3
      obtain ⟨s3, e3⟩ := new_of n3 g3
      have s13 := s1.trans (hv2.sm.trans s3)
      have s12 := s1.trans hv2.sm
      have f3 : ∀ r, Is H r → AtL r H3 vs.reverse (dtL (t.parts.map turnT).reverse) := fun r ir => by
        rw [dtL_rev]; exact ((f2 r (ir.up s1)).sm s3).rev
      cases t with
      | lf z => exact absurd rfl ne
      | pr u v =>
        obtain ⟨q', va, vb, e', nq, eq', ha, hb⟩ := hv.pr
        injection e' with e'
        subst e'
        refine ⟨_, rfl, q, _, 0, .str "pair", rfl, rfl, SqT.of (s13 _ _ eq'), at0 _ _, rfl, _, rfl, ?_⟩
        refine ifT ?_
        have l3 := (f3 p ip).len
        obtain ⟨w1, ws, ew1, _, l4⟩ := (show AtL p H3 vs.reverse [(turnT v).dt, (turnT u).dt] by
          have := f3 p ip
          rw [dtL_map] at this
          exact this).cons_inv
        obtain ⟨w2, ws2, ew2, _, l5⟩ := l4.cons_inv
        have ew3 := l5.nil_inv
        subst ew3 ew2
        rw [ew1] at e3
        refine ⟨_, rfl, q3, _, 0, _, rfl, rfl, SqL.of e3, at0 _ _, _, rfl, q3, _, 1, _, rfl, rfl, SqL.of e3, at1 _ _ _, Nat.le_trans (by decide : 3 ≤ 4096) hs, fun q4 n4 => ?_⟩
        generalize g4 : upd _ q4 _ = H4
        obtain ⟨s4, e4⟩ := new_of n4 g4
        refine go (.ref q4) H4 (s13.trans s4) fun r ir => ?_
        have fr := f3 r ir
        rw [ew1, dtL_map] at fr
        unfold turnT
        have fr2 : AtL r H3 [w1, w2] [(turnT v).dt, (turnT u).dt] := fr
        unfold AtL at fr2
        have fr3 := fr2.2
        unfold AtL at fr3
        exact .mk_pr ((ir.up s13).ne n4) e4 (fr2.1.sm s4) (fr3.1.sm s4)
      | rn k ps =>
        obtain ⟨q', l', xs', e', nq, eq', nl', el', hp2⟩ := hv.rn
        injection e' with e'
        subst e'
        refine ⟨_, rfl, q, _, 0, .str "run", rfl, rfl, SqT.of (s13 _ _ eq'), at0 _ _, rfl, _, rfl, ?_⟩
        refine ifF ?_
        refine ⟨_, rfl, q, _, 1, .str k, rfl, rfl, SqT.of (s13 _ _ eq'), at1 _ _ _, _, rfl, Nat.le_trans (by decide : 3 ≤ 4096) hs, fun q4 n4 => ?_⟩
        generalize g4 : upd _ q4 _ = H4
        obtain ⟨s4, e4⟩ := new_of n4 g4
        refine go (.ref q4) H4 (s13.trans s4) fun r ir => ?_
        unfold turnT
        rw [turnL_map]
        exact .mk_rn ((ir.up s13).ne n4) e4 ((ir.up s12).ne n3) (s4 _ _ e3) ((f3 r ir).sm s4)
theorem sc_law_tree_knots : FnScope ["_law_tree", "_law_first", "_law_part", "_law_found", "_law_point", "_law_late"] ["_law_tree", "_law_first"] (defScope s_law_tree_knots) := ⟨rfl, rfl, rfl, by decide +kernel, rfl, by decide +kernel, by decide +kernel⟩
theorem bd_law_tree_knots : BindsOf "_law_tree_knots" "_law_tree_knots" s_law_tree_knots ["_law_tree", "_law_first"] := fun _ _ _ _ _ _ us hl => match us, hl with | [_, _], _ => rfl
theorem kns_lay : ∀ l : List (Int × Int × Int), PyData.canLayAll0 (l.map fun z => PyData.tuple [.int z.1, .int z.2.1, .int z.2.2]) = true
  | [] => by unfold PyData.canLayAll0; rfl
  | x :: r => by
    rw [List.map_cons]
    unfold PyData.canLayAll0
    rw [kns_lay r, Bool.and_true]
    simp [PyData.canLay0, PyData.canLayAll0]
theorem kns_dep : ∀ l : List (Int × Int × Int), PyData.depthAll (l.map fun z => PyData.tuple [.int z.1, .int z.2.1, .int z.2.2]) ≤ 3
  | [] => by unfold PyData.depthAll; exact Nat.zero_le _
  | x :: r => by
    have := kns_dep r
    rw [List.map_cons]
    simp only [PyData.depthAll, PyData.depth] at this ⊢
    omega
theorem kn_all : ∀ {n : Nat} {t : T}, t.dp < n → ∀ (f : Int) (d : Dt), d ∈ knT t f → ∃ i j h, d = kn i j h
  | 0, _, h => absurd h (Nat.not_lt_zero _)
  | n + 1, t, h => by
    intro f d hd
    rw [knT_eq] at hd
    rcases List.mem_cons.mp hd with e | hd
    · exact ⟨_, _, _, e⟩
    · have hp : ∀ u ∈ t.parts, u.dp < n := by
        cases t with
        | lf x => intro u hu; cases hu
        | pr a b =>
          unfold T.dp at h
          intro u hu
          rcases List.mem_cons.mp hu with e | hu
          · rw [e]; omega
          · rw [List.mem_singleton.mp hu]; omega
        | rn k ps =>
          unfold T.dp at h
          intro u hu
          have := dpL_mem (ts := ps) hu
          omega
      have gen : ∀ (ts : List T) (f : Int), (∀ u ∈ ts, u.dp < n) → d ∈ knL ts f → ∃ i j h, d = kn i j h := by
        intro ts
        induction ts with
        | nil => intro f _ h; rw [knL_nil] at h; cases h
        | cons t ts ih =>
          intro f hu hd
          rw [knL_cons] at hd
          rcases List.mem_append.mp hd with hd | hd
          · exact kn_all (hu t List.mem_cons_self) _ _ hd
          · exact ih _ (fun u m => hu u (List.mem_cons_of_mem _ m)) hd
      exact gen _ _ hp hd
theorem knL_all {ts : List T} {f : Int} {d : Dt} (h : d ∈ knL ts f) : ∃ i j h, d = kn i j h := by
  have hd : d ∈ knT (.rn "" ts) f := by rw [knT_eq]; exact List.mem_cons_of_mem _ h
  exact kn_all (Nat.lt_succ_self _) _ _ hd
theorem kn_zs : ∀ {ds : List Dt}, (∀ d ∈ ds, ∃ i j h, d = kn i j h) → ∃ zs : List (Int × Int × Int), ds = zs.map fun z => kn z.1 z.2.1 z.2.2
  | [], _ => ⟨[], rfl⟩
  | d :: ds, h => by
    obtain ⟨i, j, k, e⟩ := h d List.mem_cons_self
    obtain ⟨zs, e2⟩ := kn_zs fun d m => h d (List.mem_cons_of_mem _ m)
    exact ⟨(i, j, k) :: zs, by rw [e, e2]; rfl⟩
theorem kn_inv {p : Addr} {H : Hp} {v : V} {i j k : Int} (h : At p H v (kn i j k)) : ∃ q, v = .ref q ∧ H q = some (.tup [.int i, .int j, .int k]) := by
  unfold kn at h
  obtain ⟨q, vs, e, n, hq, hl⟩ := h.t_inv
  obtain ⟨v0, ws, e1, h0, hl⟩ := hl.cons_inv
  obtain ⟨v1, ws, e2, h1, hl⟩ := hl.cons_inv
  obtain ⟨v2, ws, e3, h2, hl⟩ := hl.cons_inv
  have e4 := hl.nil_inv
  subst e4 e3 e2 e1
  unfold At at h0 h1 h2
  subst h0 h1 h2
  exact ⟨q, e, hq⟩
theorem kn_data {K : PySem.W.Frag} {p : Addr} {H : Hp} : ∀ {vs : List V} {zs : List (Int × Int × Int)}, AtL p H vs (zs.map fun z => kn z.1 z.2.1 z.2.2) → DpAll K H vs (zs.map fun z => PyData.tuple [.int z.1, .int z.2.1, .int z.2.2])
  | vs, [], h => by
    have := h.nil_inv
    subst this
    exact .nil
  | vs, z :: zs, h => by
    obtain ⟨v, ws, e, h0, hl⟩ := h.cons_inv
    subst e
    obtain ⟨q, e, hq⟩ := kn_inv h0
    subst e
    exact .cons (.tup (SqT.of hq) (.cons (.int _) (.cons (.int _) (.cons (.int _) .nil)))) (kn_data hl)
theorem pt_of {t : K12.T} {m : Nat} (ft : t.fit (m + 1)) {f : Int} {zs : List (Int × Int × Int)} (hzs : knL t.parts f = zs.map fun z => kn z.1 z.2.1 z.2.2) :
    (if zs = [] then f + 1 else f + ((szL t.parts : Nat) : Int)) = f + ((szT t : Nat) : Int) := by
  cases t with
  | lf z =>
    have : zs = [] := by
      have e : knL (K12.T.lf z).parts f = [] := knL_nil f
      rw [e] at hzs
      exact List.map_eq_nil_iff.mp hzs.symm
    rw [if_pos this, szT_lf]; rfl
  | pr a b =>
    have : zs ≠ [] := fun e => by
      rw [e] at hzs
      have e2 : knL (K12.T.pr a b).parts f = knT a f ++ knL [b] (f + (szT a : Nat)) := knL_cons a [b] f
      rw [e2, knT_eq] at hzs
      cases hzs
    rw [if_neg this, szT_parts (t := .pr a b) (List.cons_ne_nil _ _)]
  | rn k ps =>
    have ne : (K12.T.rn k ps).parts ≠ [] := ft.rn.2.1
    have : zs ≠ [] := fun e => by
      rw [e] at hzs
      cases hps : ps with
      | nil => exact ft.rn.2.1 hps
      | cons b bs =>
        have e2 : knL (K12.T.rn k ps).parts f = knT b f ++ knL bs (f + (szT b : Nat)) := by
          show knL ps f = _
          rw [hps]; exact knL_cons b bs f
        rw [e2, knT_eq] at hzs
        cases hzs
    rw [if_neg this, szT_parts ne]
theorem if_int {c : Bool} {ta tb : TE} {σ : L2.St} {H : Hp} {Q : VK} (x : Int) (h1 : c = true → ∀ Q : VK, Q (.int x) H → ta σ H Q) (h2 : c = false → ∀ Q : VK, Q (.int x) H → tb σ H Q) (q : Q (.int x) H) : if c = true then ta σ H Q else tb σ H Q := by
  cases c with
  | true => exact ifT (h1 rfl Q q)
  | false => exact ifF (h2 rfl Q q)
theorem d_tree_knots {m : Nat} (hm : m + 1 ≤ 1000) (T : Tp K mg a) (D_law_tree_parts : Df P w K mg base n "_law_tree_parts" ["_law_tree"] spTp) (D_law_tree_height : Df P w K mg base n "_law_tree_height" ["_law_tree"] (spHe (m + 1)))
    (D_law_tree_knots : Df P w K mg base n "_law_tree_knots" ["_law_tree", "_law_first"] (spKn m)) : Df P w K mg base (n + 1) "_law_tree_knots" ["_law_tree", "_law_first"] (spKn (m + 1)) := by
  refine df_mk T 52 rfl sc_law_tree_knots bd_law_tree_knots (fun vs H Q E h => ?_) (fun f cdv A outer s H vs Q E hr h => ?_)
  · obtain ⟨v, p, t, f, rfl, _⟩ := h
    rfl
  · obtain ⟨v, p, t, f, rfl, hv, ip, ft, go⟩ := h
    have hs := szl
    have szb : 4000000 ≤ sizeLine := by decide
    have fp := parts_fit ft
    have fl := parts_len ft
    have kmax := kn_max (f := f) ft hm
    refine ⟨_, (pss_cons (ps_par (i := 3) (j := 4) (by rfl) sc_law_tree_knots.nd rfl rfl (by decide) rfl rfl (pa_cons (pe_lst pa_nil) (pa_cons (pv 1) pa_nil)) (by rfl))
    (pss_cons (ps_for PassesOwn.never rfl (pi_listK (K := K) rfl (pe_f D_law_tree_parts hr (by rfl) (pa_cons (pv 0) pa_nil))) (pg_name (i := 2) sc_law_tree_knots.nd rfl (Or.inl rfl))
      (pss_cons (ps_set (i := 5) sc_law_tree_knots.nd rfl (Or.inl rfl) (pe_f D_law_tree_knots hr (by rfl) (pa_cons (pv 2) (pa_cons (pv 4) pa_nil))))
      (pss_one (ps_par (i := 3) (j := 4) (by rfl) sc_law_tree_knots.nd rfl rfl (by decide) rfl rfl (pa_cons (pe_op op_cat (pv 3) (pv 5)) (pa_cons (pe_ix (ix_tupK (K := K) rfl) (pe_ix (ix_listK (K := K) rfl) (pv 5) pe_int (fun _ _ => rfl)) pe_int (fun _ _ => rfl)) pa_nil)) (by rfl)))))
    (pss_one (ps_ret (pe_op op_cat (pe_lst (pa_cons (pe_tup (pa_cons (pv 1) (pa_cons (pe_ifExp (pt_cmpR (op_neDK (K := K) rfl hr.units) (pv 3) (pe_lst pa_nil) (nomark _)) (pv 4) (pe_op op_add (pv 1) pe_int)) (pa_cons (pe_f D_law_tree_height hr (by rfl) (pa_cons (pv 0) pa_nil)) pa_nil)))) pa_nil)) (pv 3)))))), ?_⟩
    refine ⟨Nat.zero_le _, fun q0 n0 => ?_⟩
    generalize g0 : upd _ q0 _ = H0
    obtain ⟨s0, f0⟩ := new_of n0 g0
    refine ⟨_, rfl, _, _, rfl, ?_⟩
    refine ⟨_, rfl, v, t, rfl, ⟨p, hv.sm s0⟩, fun l ys H5 s5 nl el hp' => ?_⟩
    have hp := hp' p (hv.sm s0)
    refine ⟨l, rfl, ⟨_, SqL.of el⟩, ?_⟩
    have s15 := s0.trans s5
    have pl := hp.plen
    refine for_list (xs := ys) (fun i σ H6 => Same H5 H6 ∧ ∃ (u u' : Option V) (fa : Addr) (ks : List V), H fa = none ∧ H6 fa = some (.lst ks) ∧ FrL H H6 ks (knL (t.parts.take i) f) ∧
      σ = [some v, some (.int f), u, some (.ref fa), some (.int (f + (szL (t.parts.take i) : Nat))), u']) ⟨Same.refl _, none, none, q0, _, n0, s5 _ _ f0, ?_, ?_⟩ (fun i σ H6 _ hv => SqL.of (hv.1 _ _ el)) ?_ ?_
    · intro q iq
      rw [List.take_zero, knL_nil]
      exact .nil
    · rw [List.take_zero, szL_nil]
      show [some v, some (.int f), none, some (.ref q0), some (.int f), none] = _
      rw [show f + ((0 : Nat) : Int) = f by omega]
    · rintro i y σ H6 hi ⟨s6, u, u', fa, ks, nfa, efa, fr, rfl⟩
      obtain ⟨t', ht, hat⟩ := hp.part hi
      have ft' := fp t' (List.mem_of_getElem? ht)
      have kmax' := kn_max (f := f + (szL (t.parts.take i) : Nat)) ft' (by omega)
      have tk : t.parts.take (i + 1) = t.parts.take i ++ [t'] := by rw [List.take_add_one, ht]; rfl
      have s06 := s15.trans s6
      refine ⟨_, rfl, _, rfl, y, p, t', _, rfl, hat.sm s6, ip.up s06, ft', fun q7 kq H7 s7 n7 e7 fr7 => ?_⟩
      have s07 := s06.trans s7
      have l1 : ks.length ≤ 1000000 := by
        have := (fr p ip).len
        rw [this]
        have h1 : (knT t f).length = (knL t.parts f).length + 1 := by rw [knT_eq, List.length_cons]
        have h2 : knL t.parts f = knL (t.parts.take i) f ++ knL (t.parts.drop i) (f + (szL (t.parts.take i) : Nat)) := by rw [← knL_app, List.take_append_drop]
        rw [h2, List.length_append] at h1
        omega
      have l2 : kq.length ≤ 1000000 := by
        have := (fr7 p (ip.up s06)).len
        omega
      have fr8 := fr7 p (ip.up s06)
      rw [knT_eq] at fr8
      obtain ⟨v0, ws, ekq, h0, _⟩ := fr8.cons_inv
      obtain ⟨qq, ev0, hqq⟩ := kn_inv h0
      subst ev0
      refine ⟨_, rfl, _, rfl, fa, q7, _, _, rfl, rfl, s7 _ _ efa, e7, by omega, fun q8 n8 => ?_⟩
      generalize g8 : upd _ q8 _ = H8
      obtain ⟨s8, f8⟩ := new_of n8 g8
      have e7' := s8 _ _ e7
      rw [ekq] at e7'
      refine ⟨_, rfl, q7, _, 0, .ref qq, rfl, rfl, SqL.of e7', at0 _ _, qq, _, 1, _, rfl, rfl, SqT.of (s8 _ _ hqq), at1 _ _ _, _, _, rfl, ?_⟩
      refine ⟨s6.trans (s7.trans s8), some y, some (.ref q7), q8, ks ++ kq, s07.free n8, f8, fun q iq => ?_, ?_⟩
      · rw [tk, knL_app, knL_one]
        exact ((fr q iq).sm (s7.trans s8)).app ((fr7 q (iq.up s06)).sm s8)
      · rw [tk, szL_app, szL_cons, szL_nil]
        show [some v, some (.int f), some y, some (.ref q8), some (.int (f + ((szL (t.parts.take i) : Nat) : Int) + ((szT t' : Nat) : Int))), some (.ref q7)] = _
        rw [show f + ((szL (t.parts.take i) : Nat) : Int) + ((szT t' : Nat) : Int) = f + ((szL (t.parts.take i) + (szT t' + 0) : Nat) : Int) by omega]
    · rintro σ H6 ⟨s6, u, u', fa, ks, nfa, efa, fr, rfl⟩
      rw [pl, List.take_length] at fr
      obtain ⟨zs, hzs⟩ := kn_zs (ds := knL t.parts f) fun d hd => knL_all hd
      have hpt := pt_of ft hzs
      have s06 := s15.trans s6
      rw [hzs] at fr
      refine ⟨_, rfl, _, rfl, Nat.zero_le _, fun q9 n9 => ?_⟩
      generalize g9 : upd _ q9 _ = H9
      obtain ⟨s9, f9⟩ := new_of n9 g9
      have sh : SeqAt.shaped (.list (zs.map fun z => PyData.tuple [.int z.1, .int z.2.1, .int z.2.2])) = true := by
        unfold SeqAt.shaped
        rw [Bool.and_eq_true]
        refine ⟨by unfold PyData.canLay0; exact kns_lay zs, decide_eq_true ?_⟩
        unfold PyData.depth
        have := kns_dep zs
        omega
      refine ⟨_, _, .lst (SqL.of (s9 _ _ efa)) (kn_data ((fr p ip).sm s9)), .lst (SqL.of f9) .nil, sh, (by decide), _, rfl, ?_⟩
      have s09 := s06.trans s9
      refine if_int (f + ((szT t : Nat) : Int)) (fun hc Q' q => ?_) (fun hc Q' q => ?_) ?_
      · by_cases hz : zs = []
        · rw [hz] at hc
          exact absurd hc (by decide)
        · rw [if_neg hz] at hpt
          refine ⟨_, rfl, ?_⟩
          rw [pl, List.take_length, hpt]
          exact q
      · by_cases hz : zs = []
        · rw [if_pos hz] at hpt
          refine ⟨_, rfl, _, _, rfl, rfl, ?_⟩
          rw [← hpt] at q
          exact q
        · exfalso
          cases zs with
          | nil => exact hz rfl
          | cons z zs =>
            rw [List.map_cons] at hc
            simp [PyData.eqv, PyData.eqvAll] at hc
      refine ⟨_, rfl, v, p, t, rfl, hv.sm s09, ip.up s09, ft, fun H10 s10 => ?_⟩
      refine ⟨Nat.le_trans (by decide : 3 ≤ 4096) hs, fun q11 n11 => ?_⟩
      generalize g11 : upd _ q11 _ = H11
      obtain ⟨s11, f11⟩ := new_of n11 g11
      refine ⟨Nat.le_trans (by decide : 1 ≤ 4096) hs, fun q12 n12 => ?_⟩
      generalize g12 : upd _ q12 _ = H12
      obtain ⟨s12, f12⟩ := new_of n12 g12
      have l1 : ks.length ≤ 1000000 := by
        have := (fr p ip).len
        rw [this, ← hzs]
        rw [knT_eq, List.length_cons] at kmax
        omega
      have s912 := s9.trans (s10.trans (s11.trans s12))
      refine ⟨_, rfl, q12, fa, _, _, rfl, rfl, f12, s912 _ _ efa, ?_, fun q13 n13 => ?_⟩
      · show 1 + ks.length ≤ sizeLine
        omega
      generalize g13 : upd _ q13 _ = H13
      obtain ⟨s13, f13⟩ := new_of n13 g13
      have s012 := s06.trans s912
      refine go q13 (.ref q11 :: ks) H13 (s012.trans s13) (s012.free n13) f13 fun r ir => ?_
      rw [knT_eq, hzs]
      refine .cons (.t ((ir.up (s09.trans s10)).ne n11) (s13 _ _ (s12 _ _ f11)) (.cons .i (.cons .i (.cons .i .nil)))) ?_
      exact (fr r ir).sm (s912.trans s13)
end
end K12

set_option maxHeartbeats 4000000
/-! The law's copies and comparisons. -/
namespace K12
open PySem PySem.Spec L2
mutual
/-- no list in it is long -/
def Dt.small : Dt → Prop
  | .s _ => True
  | .i _ => True
  | .b _ => True
  | .l ds => ds.length ≤ 4000000 ∧ smallL ds
  | .t ds => ds.length ≤ 4000000 ∧ smallL ds
def smallL : List Dt → Prop
  | [] => True
  | d :: ds => d.small ∧ smallL ds
end
theorem smallL_get : ∀ {ds : List Dt} {j : Nat} {d : Dt}, smallL ds → ds[j]? = some d → d.small
  | [], _, _, _, e => by simp at e
  | d :: ds, 0, d', h, e => by
    have : d = d' := by simpa using e
    subst this
    unfold smallL at h
    exact h.1
  | d :: ds, j + 1, d', h, e => by
    unfold smallL at h
    exact smallL_get (j := j) h.2 (by simpa using e)
theorem smallL_all : ∀ {ds : List Dt}, (∀ d ∈ ds, d.small) → smallL ds
  | [], _ => by unfold smallL; trivial
  | d :: ds, h => by unfold smallL; exact ⟨h d List.mem_cons_self, smallL_all fun x m => h x (List.mem_cons_of_mem _ m)⟩
theorem small_s {x : Str} : (Dt.s x).small := by unfold Dt.small; trivial
theorem small_i {x : Int} : (Dt.i x).small := by unfold Dt.small; trivial
theorem small_b {x : Bool} : (Dt.b x).small := by unfold Dt.small; trivial
theorem small_l {ds : List Dt} (h : ds.length ≤ 4000000) (k : ∀ d ∈ ds, d.small) : (Dt.l ds).small := by unfold Dt.small; exact ⟨h, smallL_all k⟩
theorem small_t {ds : List Dt} (h : ds.length ≤ 4000000) (k : ∀ d ∈ ds, d.small) : (Dt.t ds).small := by unfold Dt.small; exact ⟨h, smallL_all k⟩
theorem isL_ {K : PySem.W.Frag} : PySem.W.kitAny K (.type "list") [.type "list", .type "tuple"] = some true := kitAny_cons (b := true) (kit_ty (by rfl)) (fun z => nomatch z) fun _ => rfl
theorem isT_ {K : PySem.W.Frag} : PySem.W.kitAny K (.type "tuple") [.type "list", .type "tuple"] = some true := kitAny_cons (b := false) (kit_ty (by rfl)) (fun _ => kitAny_cons (b := true) (kit_ty (by rfl)) (fun z => nomatch z) fun _ => rfl) fun z => nomatch z
theorem isN_ {K : PySem.W.Frag} {x : String} (h1 : kitB x "list" = some false) (h2 : kitB x "tuple" = some false) : PySem.W.kitAny K (.type x) [.type "list", .type "tuple"] = some false :=
  kitAny_cons (b := false) (kit_ty h1) (fun _ => kitAny_cons (b := false) (kit_ty h2) (fun _ => kitAny_nil) fun z => nomatch z) fun z => nomatch z
theorem clsLT : Paired ClsV [.ty "list", .ty "tuple"] [.type "list", .type "tuple"] := .cons (.ty _) (.cons (.ty _) .nil)
section
variable {K : PySem.W.Frag} {a b : Addr} {xs ys : List V}
theorem walk_zipT {n : Nat} (hn : n = min xs.length ys.length) : Walk (RZ.ItzT K a b) n (fun H => SqT K H a xs ∧ SqT K H b ys) (YPair (fun i => xs[i]?) (fun i => ys[i]?)) := by
  subst hn
  refine ⟨fun i _ hi g => ⟨xs, ys, xs[i]'(by omega), ys[i]'(by omega), g.1, g.2, List.getElem?_eq_getElem _, List.getElem?_eq_getElem _⟩, fun _ g => ⟨xs, ys, g.1, g.2, by omega⟩, fun i H v H' _ g y => ?_⟩
  obtain ⟨T, x, z, e1, e2, e3, e4, e5⟩ := y
  exact ⟨T, x, z, e1, e2, e3, e4 xs g.1, e5 ys g.2⟩
end
section
variable {P : Program} {w : World} {K : PySem.W.Frag} {mg : Str → Option Value} {base : Heap} {a : Ad} {n : Nat}
def spSame (m : Nat) : Sp := fun vs H Q _ => ∃ v p d, vs = [v] ∧ At p H v d ∧ Is H p ∧ d.small ∧ d.dep < m ∧ ∀ v' H', Same H H' → Fr H H' v' d → Q v' H'
theorem sc_law_same : FnScope ["_law_thing", "_law_item", "_law_key"] ["_law_thing"] (defScope s_law_same) := ⟨rfl, rfl, rfl, by decide +kernel, rfl, by decide +kernel, by decide +kernel⟩
theorem bd_law_same : BindsOf "_law_same" "_law_same" s_law_same ["_law_thing"] := fun _ _ _ _ _ _ us hl => match us, hl with | [_], _ => rfl
theorem d_same {m : Nat} (T : Tp K mg a) (D_law_same : Df P w K mg base n "_law_same" ["_law_thing"] (spSame m)) : Df P w K mg base (n + 1) "_law_same" ["_law_thing"] (spSame (m + 1)) := by
  refine df_mk T 33 rfl sc_law_same bd_law_same (fun vs H Q E h => ?_) (fun f cdv A outer s H vs Q E hr h => ?_)
  · obtain ⟨v, p, d, rfl, _⟩ := h
    rfl
  · obtain ⟨v, p, d, rfl, hv, ip, hsm, hd, go⟩ := h
    have szb : 4000000 ≤ sizeLine := by decide
    refine ⟨_, (pss_cons (ps_if (pt_val (pe_callB (call_isiK_ (K := K) rfl) (by rfl) T.f_isinstance (by decide +kernel) (pa_cons (pv 0) (pa_cons (pe_bltn (v := .ty "dict") (u := .type "dict") (by rfl) T.f_dict (by decide +kernel) rfl) pa_nil))))
      (pss_one (ps_ret (pe_callTy (call_dictP rfl) (by rfl) T.f_dict (by decide +kernel) (pa_cons (pe_lc (own := [("_law_key", 2)]) rfl sc_law_same.nd (pi_listK (K := K) rfl (pv 0)) (blkOk_by (own := [("_law_key", 2)]) (N := ["_law_thing", "_law_item", "_law_key"]) (sc := defScope s_law_same) (by decide +kernel)) (fun _ _ _ _ _ => (pg_name (i := 2) sc_law_same.nd rfl (Or.inl rfl))) (fun _ _ _ _ _ => pts_nil) (fun _ _ _ _ _ => (pe_tup (pa_cons (pv 2) (pa_cons (pe_f D_law_same hr (by rfl) (pa_cons (pe_ix (ix_listK (K := K) rfl) (pv 0) (pv 2) (fun _ _ => rfl)) pa_nil)) pa_nil))))) pa_nil))))
      pss_nil)
    (pss_cons (ps_if (pt_val (pe_callB (call_isiK_ (K := K) rfl) (by rfl) T.f_isinstance (by decide +kernel) (pa_cons (pv 0) (pa_cons (pe_bltn (v := .ty "list") (u := .type "list") (by rfl) T.f_list (by decide +kernel) rfl) pa_nil))))
      (pss_one (ps_ret (pe_lc (own := [("_law_item", 1)]) rfl sc_law_same.nd (pi_listK (K := K) rfl (pv 0)) (blkOk_by (own := [("_law_item", 1)]) (N := ["_law_thing", "_law_item", "_law_key"]) (sc := defScope s_law_same) (by decide +kernel)) (fun _ _ _ _ _ => (pg_name (i := 1) sc_law_same.nd rfl (Or.inl rfl))) (fun _ _ _ _ _ => pts_nil) (fun _ _ _ _ _ => (pe_f D_law_same hr (by rfl) (pa_cons (pv 1) pa_nil))))))
      pss_nil)
    (pss_one (ps_ret (pe_ifExp (pt_val (pe_callB (call_isiK_ (K := K) rfl) (by rfl) T.f_isinstance (by decide +kernel) (pa_cons (pv 0) (pa_cons (pe_bltn (v := .ty "tuple") (u := .type "tuple") (by rfl) T.f_tuple (by decide +kernel) rfl) pa_nil)))) (pe_callTy (call_tuple_ofK (K := K) rfl) (by rfl) T.f_tuple (by decide +kernel) (pa_cons (pe_lc (own := [("_law_item", 1)]) rfl sc_law_same.nd (pi_tupK (K := K) rfl (pv 0)) (blkOk_by (own := [("_law_item", 1)]) (N := ["_law_thing", "_law_item", "_law_key"]) (sc := defScope s_law_same) (by decide +kernel)) (fun _ _ _ _ _ => (pg_name (i := 1) sc_law_same.nd rfl (Or.inl rfl))) (fun _ _ _ _ _ => pts_nil) (fun _ _ _ _ _ => (pe_f D_law_same hr (by rfl) (pa_cons (pv 1) pa_nil)))) pa_nil)) (pv 0)))))), ?_⟩
    cases d with
    | s x =>
      unfold At at hv
      subst hv
      refine ⟨_, rfl, _, _, _, _, _, rfl, .ty _, .base (.str _), kit_ty (by rfl), _, rfl, ?_⟩
      refine ifF ?_
      refine ⟨_, rfl, _, _, _, _, _, rfl, .ty _, .base (.str _), kit_ty (by rfl), _, rfl, ?_⟩
      refine ifF ?_
      refine ⟨_, rfl, _, _, _, _, _, rfl, .ty _, .base (.str _), kit_ty (by rfl), _, rfl, ?_⟩
      refine ifF ?_
      exact ⟨_, rfl, go _ H (Same.refl H) fun q _ => .s⟩
    | i x =>
      unfold At at hv
      subst hv
      refine ⟨_, rfl, _, _, _, _, _, rfl, .ty _, .base (.int _), kit_ty (by rfl), _, rfl, ?_⟩
      refine ifF ?_
      refine ⟨_, rfl, _, _, _, _, _, rfl, .ty _, .base (.int _), kit_ty (by rfl), _, rfl, ?_⟩
      refine ifF ?_
      refine ⟨_, rfl, _, _, _, _, _, rfl, .ty _, .base (.int _), kit_ty (by rfl), _, rfl, ?_⟩
      refine ifF ?_
      exact ⟨_, rfl, go _ H (Same.refl H) fun q _ => .i⟩
    | b x =>
      unfold At at hv
      subst hv
      refine ⟨_, rfl, _, _, _, _, _, rfl, .ty _, .base (.bl _), kit_ty (by rfl), _, rfl, ?_⟩
      refine ifF ?_
      refine ⟨_, rfl, _, _, _, _, _, rfl, .ty _, .base (.bl _), kit_ty (by rfl), _, rfl, ?_⟩
      refine ifF ?_
      refine ⟨_, rfl, _, _, _, _, _, rfl, .ty _, .base (.bl _), kit_ty (by rfl), _, rfl, ?_⟩
      refine ifF ?_
      exact ⟨_, rfl, go _ H (Same.refl H) fun q _ => .b⟩
    | l ds =>
      obtain ⟨q, vs, rfl, nq, eq, hl⟩ := hv.l_inv
      unfold Dt.small at hsm
      unfold Dt.dep at hd
      have hlen := hl.len
      refine ⟨_, rfl, _, _, _, _, _, rfl, .ty _, .base (.lst eq), kit_ty (by rfl), _, rfl, ?_⟩
      refine ifF ?_
      refine ⟨_, rfl, _, _, _, _, _, rfl, .ty _, .base (.lst eq), kit_ty (by rfl), _, rfl, ?_⟩
      refine ifT ?_
      refine ⟨_, rfl, q, rfl, ⟨_, SqL.of eq⟩, fun D nD => ?_⟩
      refine lc_list (xs := vs) (fun i H1 => Bd H D (ds.take i) H1) (Bd.start nD) (fun i H1 _ hv => SqL.of (hv.sm _ _ eq)) ?_ ?_
      · intro i y H1 hi hv1
        obtain ⟨d, hdj, hat⟩ := hl.getV hi
        have h1 := depL_get hdj
        have h2 := smallL_get hsm.2 hdj
        have h3 := (List.getElem?_eq_some_iff.mp hdj).1
        refine ⟨rfl, _, rfl, y, p, d, rfl, hat.sm hv1.sm, ip.up hv1.sm, h2, by omega, fun v' H2 s2 f2 => ?_⟩
        refine hv1.step s2 (hv1.fr f2) ?_ ?_
        · rw [List.length_take]; omega
        · rw [List.take_add_one, hdj]; rfl
      · intro H1 hv1
        rw [hlen, List.take_length] at hv1
        exact go (.ref D) H1 hv1.sm hv1.fin
    | t ds =>
      obtain ⟨q, vs, rfl, nq, eq, hl⟩ := hv.t_inv
      unfold Dt.small at hsm
      unfold Dt.dep at hd
      have hlen := hl.len
      refine ⟨_, rfl, _, _, _, _, _, rfl, .ty _, .base (.tup eq), kit_ty (by rfl), _, rfl, ?_⟩
      refine ifF ?_
      refine ⟨_, rfl, _, _, _, _, _, rfl, .ty _, .base (.tup eq), kit_ty (by rfl), _, rfl, ?_⟩
      refine ifF ?_
      refine ⟨_, rfl, _, _, _, _, _, rfl, .ty _, .base (.tup eq), kit_ty (by rfl), _, rfl, ?_⟩
      refine ifT ?_
      refine ⟨_, rfl, q, rfl, ⟨_, SqT.of eq⟩, fun D nD => ?_⟩
      refine lc_tup (xs := vs) (fun i H1 => Bd H D (ds.take i) H1) (Bd.start nD) (fun i H1 _ hv => SqT.of (hv.sm _ _ eq)) ?_ ?_
      · intro i y H1 hi hv1
        obtain ⟨d, hdj, hat⟩ := hl.getV hi
        have h1 := depL_get hdj
        have h2 := smallL_get hsm.2 hdj
        have h3 := (List.getElem?_eq_some_iff.mp hdj).1
        refine ⟨rfl, _, rfl, y, p, d, rfl, hat.sm hv1.sm, ip.up hv1.sm, h2, by omega, fun v' H2 s2 f2 => ?_⟩
        refine hv1.step s2 (hv1.fr f2) ?_ ?_
        · rw [List.length_take]; omega
        · rw [List.take_add_one, hdj]; rfl
      · intro H1 hv1
        rw [hlen, List.take_length] at hv1
        obtain ⟨ws, e1, f1, _⟩ := hv1.ex
        refine ⟨D, ws, rfl, .inl ⟨SqL.of e1, fun q2 n2 => ?_⟩⟩
        generalize g2 : upd _ q2 _ = H2
        obtain ⟨s2, f2⟩ := new_of n2 g2
        exact go (.ref q2) H2 (hv1.sm.trans s2) fun r ir => .t ((ir.up hv1.sm).ne n2) f2 ((f1 r ir).sm s2)
theorem d_sames (T : Tp K mg a) : ∀ m, Df P w K mg base (n + m + 1) "_law_same" ["_law_thing"] (spSame m)
  | 0 => df_mk T 33 rfl sc_law_same bd_law_same (fun vs H Q E ⟨v, p, d, _, _, _, _, hd, _⟩ => absurd hd (Nat.not_lt_zero _)) fun f cdv A outer s H vs Q E hr ⟨v, p, d, _, _, _, _, hd, _⟩ => absurd hd (Nat.not_lt_zero _)
  | m + 1 => d_same T (d_sames T m)
def spEx (m : Nat) : Sp := fun vs H Q _ => ∃ u v p p' d, vs = [u, v] ∧ At p H u d ∧ At p' H v d ∧ d.small ∧ d.dep < m ∧ ∀ H', Same H H' → Q (.bl true) H'
theorem sc_law_exact : FnScope ["_law_mine", "_law_theirs", "_law_alike", "_law_key", "_law_a", "_law_b"] ["_law_mine", "_law_theirs"] (defScope s_law_exact) := ⟨rfl, rfl, rfl, by decide +kernel, rfl, by decide +kernel, by decide +kernel⟩
theorem bd_law_exact : BindsOf "_law_exact" "_law_exact" s_law_exact ["_law_mine", "_law_theirs"] := fun _ _ _ _ _ _ us hl => match us, hl with | [_, _], _ => rfl
theorem d_exact {m : Nat} (T : Tp K mg a) (D_law_exact : Df P w K mg base n "_law_exact" ["_law_mine", "_law_theirs"] (spEx m)) : Df P w K mg base (n + 1) "_law_exact" ["_law_mine", "_law_theirs"] (spEx (m + 1)) := by
  refine df_mk T 34 rfl sc_law_exact bd_law_exact (fun vs H Q E h => ?_) (fun f cdv A outer s H vs Q E hr h => ?_)
  · obtain ⟨u, v, p, p', d, rfl, _⟩ := h
    rfl
  · obtain ⟨u, v, p, p', d, rfl, hu_, hv, hsm, hd, go⟩ := h
    have szb : 4000000 ≤ sizeLine := by decide
    have two : 2 ≤ sizeLine := Nat.le_trans (by decide : 2 ≤ 4000000) szb
    refine ⟨_, (pss_cons (ps_if (pt_val (pe_callB (call_isiTK (K := K) rfl) (by rfl) T.f_isinstance (by decide +kernel) (pa_cons (pv 0) (pa_cons (pe_tup (pa_cons (pe_bltn (v := .ty "list") (u := .type "list") (by rfl) T.f_list (by decide +kernel) rfl) (pa_cons (pe_bltn (v := .ty "tuple") (u := .type "tuple") (by rfl) T.f_tuple (by decide +kernel) rfl) pa_nil))) pa_nil))))
      (pss_cons (ps_set (i := 2) sc_law_exact.nd rfl (Or.inl rfl) (pe_and (pe_cmpR op_eq (pe_callB (call_isiK_ (K := K) rfl) (by rfl) T.f_isinstance (by decide +kernel) (pa_cons (pv 1) (pa_cons (pe_bltn (v := .ty "list") (u := .type "list") (by rfl) T.f_list (by decide +kernel) rfl) pa_nil))) (pe_callB (call_isiK_ (K := K) rfl) (by rfl) T.f_isinstance (by decide +kernel) (pa_cons (pv 0) (pa_cons (pe_bltn (v := .ty "list") (u := .type "list") (by rfl) T.f_list (by decide +kernel) rfl) pa_nil))) (nomark _)) (pe_one (pe_cmpR op_eq (pe_callB (call_isiK_ (K := K) rfl) (by rfl) T.f_isinstance (by decide +kernel) (pa_cons (pv 1) (pa_cons (pe_bltn (v := .ty "tuple") (u := .type "tuple") (by rfl) T.f_tuple (by decide +kernel) rfl) pa_nil))) (pe_callB (call_isiK_ (K := K) rfl) (by rfl) T.f_isinstance (by decide +kernel) (pa_cons (pv 0) (pa_cons (pe_bltn (v := .ty "tuple") (u := .type "tuple") (by rfl) T.f_tuple (by decide +kernel) rfl) pa_nil))) (nomark _)))))
      (pss_one (ps_ret (pe_and (pv 2) (pe_and (pe_cmpR op_eq (pe_callB (call_len_seqK (K := K) rfl) (by rfl) T.f_len PySem.boot_len (pa_cons (pv 0) pa_nil)) (pe_callB (call_len_seqK (K := K) rfl) (by rfl) T.f_len PySem.boot_len (pa_cons (pv 1) pa_nil)) (nomark _)) (pe_one (pe_callB (cr_allK (K := K) rfl rfl) (by rfl) T.f_all (by decide +kernel) (pa_cons (pe_lc (own := [("_law_a", 4), ("_law_b", 5)]) rfl sc_law_exact.nd (RZ.pi_zipA (by rfl) T.f_zip (pa_cons (pv 0) (pa_cons (pv 1) pa_nil))) (blkOk_by (own := [("_law_a", 4), ("_law_b", 5)]) (N := ["_law_mine", "_law_theirs", "_law_alike", "_law_key", "_law_a", "_law_b"]) (sc := defScope s_law_exact) (by decide +kernel)) (fun _ _ _ _ _ => (pg_tb (n := 2) rfl (pgs_cons (pg_name (i := 4) sc_law_exact.nd rfl (Or.inl rfl)) (pgs_cons (pg_name (i := 5) sc_law_exact.nd rfl (Or.inl rfl)) pgs_nil)))) (fun _ _ _ _ _ => pts_nil) (fun _ _ _ _ _ => (pe_f D_law_exact hr (by rfl) (pa_cons (pv 4) (pa_cons (pv 5) pa_nil))))) pa_nil))))))))
      pss_nil)
    (pss_cons (ps_if (pt_val (pe_callB (call_isiK_ (K := K) rfl) (by rfl) T.f_isinstance (by decide +kernel) (pa_cons (pv 0) (pa_cons (pe_bltn (v := .ty "dict") (u := .type "dict") (by rfl) T.f_dict (by decide +kernel) rfl) pa_nil))))
      (pss_cons (ps_set (i := 2) sc_law_exact.nd rfl (Or.inl rfl) (pe_and (pe_callB (call_isiK_ (K := K) rfl) (by rfl) T.f_isinstance (by decide +kernel) (pa_cons (pv 1) (pa_cons (pe_bltn (v := .ty "dict") (u := .type "dict") (by rfl) T.f_dict (by decide +kernel) rfl) pa_nil))) (pe_one (pe_f D_law_exact hr (by rfl) (pa_cons (pe_callTy (call_list_ofK (K := K) rfl) (by rfl) T.f_list (by decide +kernel) (pa_cons (pv 0) pa_nil)) (pa_cons (pe_callTy (call_list_ofK (K := K) rfl) (by rfl) T.f_list (by decide +kernel) (pa_cons (pv 1) pa_nil)) pa_nil))))))
      (pss_one (ps_ret (pe_and (pv 2) (pe_one (pe_callB (cr_allK (K := K) rfl rfl) (by rfl) T.f_all (by decide +kernel) (pa_cons (pe_lc (own := [("_law_key", 3)]) rfl sc_law_exact.nd (pi_listK (K := K) rfl (pv 0)) (blkOk_by (own := [("_law_key", 3)]) (N := ["_law_mine", "_law_theirs", "_law_alike", "_law_key", "_law_a", "_law_b"]) (sc := defScope s_law_exact) (by decide +kernel)) (fun _ _ _ _ _ => (pg_name (i := 3) sc_law_exact.nd rfl (Or.inl rfl))) (fun _ _ _ _ _ => pts_nil) (fun _ _ _ _ _ => (pe_f D_law_exact hr (by rfl) (pa_cons (pe_ix (ix_listK (K := K) rfl) (pv 0) (pv 3) (fun _ _ => rfl)) (pa_cons (pe_ix (ix_listK (K := K) rfl) (pv 1) (pv 3) (fun _ _ => rfl)) pa_nil))))) pa_nil)))))))
      pss_nil)
    (pss_cons (ps_set (i := 2) sc_law_exact.nd rfl (Or.inl rfl) (pe_cmpR op_eq (pe_callB (call_isiK_ (K := K) rfl) (by rfl) T.f_isinstance (by decide +kernel) (pa_cons (pv 0) (pa_cons (pe_bltn (v := .ty "int") (u := .type "int") (by rfl) T.f_int (by decide +kernel) rfl) pa_nil))) (pe_callB (call_isiK_ (K := K) rfl) (by rfl) T.f_isinstance (by decide +kernel) (pa_cons (pv 1) (pa_cons (pe_bltn (v := .ty "int") (u := .type "int") (by rfl) T.f_int (by decide +kernel) rfl) pa_nil))) (nomark _)))
    (pss_one (ps_ret (pe_and (pv 2) (pe_and (pe_cmpR op_eq (pe_callB (call_isiK_ (K := K) rfl) (by rfl) T.f_isinstance (by decide +kernel) (pa_cons (pv 0) (pa_cons (pe_bltn (v := .ty "bool") (u := .type "bool") (by rfl) T.f_bool (by decide +kernel) rfl) pa_nil))) (pe_callB (call_isiK_ (K := K) rfl) (by rfl) T.f_isinstance (by decide +kernel) (pa_cons (pv 1) (pa_cons (pe_bltn (v := .ty "bool") (u := .type "bool") (by rfl) T.f_bool (by decide +kernel) rfl) pa_nil))) (nomark _)) (pe_one (pe_cmpR op_eq (pv 0) (pv 1) (nomark _)))))))))), ?_⟩
    cases d with
    | s x =>
      unfold At at hu_ hv
      subst hu_ hv
      refine ⟨_, rfl, two, fun q n1 => ?_⟩
      generalize g1 : upd _ q _ = H1
      obtain ⟨s1, f1⟩ := new_of n1 g1
      refine ⟨_, q, _, _, _, _, rfl, f1, clsLT, .base (.str _), isN_ rfl rfl, _, rfl, ?_⟩
      refine ifF ?_
      refine ⟨_, rfl, _, _, _, _, _, rfl, .ty _, .base (.str _), kit_ty (by rfl), _, rfl, ?_⟩
      refine ifF ?_
      refine ⟨_, rfl, _, _, _, _, _, rfl, .ty _, .base (.str _), kit_ty (by rfl), _, rfl, _, _, _, _, _, rfl, .ty _, .base (.str _), kit_ty (by rfl), rfl, _, rfl, _, rfl, ?_⟩
      refine ifT ?_
      refine ⟨_, rfl, _, _, _, _, _, rfl, .ty _, .base (.str _), kit_ty (by rfl), _, rfl, _, _, _, _, _, rfl, .ty _, .base (.str _), kit_ty (by rfl), rfl, _, rfl, ?_⟩
      refine ifT ?_
      refine ⟨_, rfl, _, rfl, rfl, ?_⟩
      rw [decide_eq_true rfl]
      exact go H1 s1
    | i x =>
      unfold At at hu_ hv
      subst hu_ hv
      refine ⟨_, rfl, two, fun q n1 => ?_⟩
      generalize g1 : upd _ q _ = H1
      obtain ⟨s1, f1⟩ := new_of n1 g1
      refine ⟨_, q, _, _, _, _, rfl, f1, clsLT, .base (.int _), isN_ rfl rfl, _, rfl, ?_⟩
      refine ifF ?_
      refine ⟨_, rfl, _, _, _, _, _, rfl, .ty _, .base (.int _), kit_ty (by rfl), _, rfl, ?_⟩
      refine ifF ?_
      refine ⟨_, rfl, _, _, _, _, _, rfl, .ty _, .base (.int _), kit_ty (by rfl), _, rfl, _, _, _, _, _, rfl, .ty _, .base (.int _), kit_ty (by rfl), rfl, _, rfl, _, rfl, ?_⟩
      refine ifT ?_
      refine ⟨_, rfl, _, _, _, _, _, rfl, .ty _, .base (.int _), kit_ty (by rfl), _, rfl, _, _, _, _, _, rfl, .ty _, .base (.int _), kit_ty (by rfl), rfl, _, rfl, ?_⟩
      refine ifT ?_
      refine ⟨_, rfl, _, rfl, rfl, ?_⟩
      rw [decide_eq_true rfl]
      exact go H1 s1
    | b x =>
      unfold At at hu_ hv
      subst hu_ hv
      refine ⟨_, rfl, two, fun q n1 => ?_⟩
      generalize g1 : upd _ q _ = H1
      obtain ⟨s1, f1⟩ := new_of n1 g1
      refine ⟨_, q, _, _, _, _, rfl, f1, clsLT, .base (.bl _), isN_ rfl rfl, _, rfl, ?_⟩
      refine ifF ?_
      refine ⟨_, rfl, _, _, _, _, _, rfl, .ty _, .base (.bl _), kit_ty (by rfl), _, rfl, ?_⟩
      refine ifF ?_
      refine ⟨_, rfl, _, _, _, _, _, rfl, .ty _, .base (.bl _), kit_ty (by rfl), _, rfl, _, _, _, _, _, rfl, .ty _, .base (.bl _), kit_ty (by rfl), rfl, _, rfl, _, rfl, ?_⟩
      refine ifT ?_
      refine ⟨_, rfl, _, _, _, _, _, rfl, .ty _, .base (.bl _), kit_ty (by rfl), _, rfl, _, _, _, _, _, rfl, .ty _, .base (.bl _), kit_ty (by rfl), rfl, _, rfl, ?_⟩
      refine ifT ?_
      refine ⟨_, rfl, _, rfl, rfl, ?_⟩
      rw [decide_eq_true rfl]
      exact go H1 s1
    | l ds =>
      obtain ⟨qa, us, rfl, nqa, eqa, hla⟩ := hu_.l_inv
      obtain ⟨qb, ws, rfl, nqb, eqb, hlb⟩ := hv.l_inv
      unfold Dt.small at hsm
      unfold Dt.dep at hd
      have hlena := hla.len
      have hlenb := hlb.len
      refine ⟨_, rfl, two, fun q n1 => ?_⟩
      generalize g1 : upd _ q _ = H1
      obtain ⟨s1, f1⟩ := new_of n1 g1
      have ea := s1 _ _ eqa
      have eb := s1 _ _ eqb
      refine ⟨_, q, _, _, _, _, rfl, f1, clsLT, .base (.lst ea), isL_, _, rfl, ?_⟩
      refine ifT ?_
      refine ⟨_, rfl, _, _, _, _, _, rfl, .ty _, .base (.lst eb), kit_ty (by rfl), _, rfl, _, _, _, _, _, rfl, .ty _, .base (.lst ea), kit_ty (by rfl), rfl, _, rfl, ?_⟩
      refine ifT ?_
      refine ⟨_, rfl, _, _, _, _, _, rfl, .ty _, .base (.lst eb), kit_ty (by rfl), _, rfl, _, _, _, _, _, rfl, .ty _, .base (.lst ea), kit_ty (by rfl), rfl, _, rfl, _, rfl, ?_⟩
      refine ifT ?_
      refine ⟨_, rfl, qa, _, rfl, .inl (SqL.of ea), _, rfl, qb, _, rfl, .inl (SqL.of eb), rfl, _, rfl, ?_⟩
      rw [decide_eq_true (by rw [hlena, hlenb])]
      refine ifT ?_
      refine ⟨_, rfl, _, rfl, qa, qb, us, ws, rfl, .inl ⟨SqL.of ea, SqL.of eb, fun D nD => ?_⟩⟩
      refine lc_it (walk_zip (n := ds.length) (by omega)) (fun i H2 => Ac H1 D (trs i) H2) (Ac.start nD) (fun i H2 _ hv => ⟨SqL.of (hv.sm _ _ ea), SqL.of (hv.sm _ _ eb)⟩) ?_ ?_
      · rintro i y H2 H3 hi hv2 ⟨T', x1, x2, rfl, nT, rfl, hx1, hx2⟩
        obtain ⟨d, hd1, hat1⟩ := hla.getV hx1
        obtain ⟨d', hd2, hat2⟩ := hlb.getV hx2
        rw [hd1] at hd2
        cases hd2
        have h1 := depL_get hd1
        have h2 := smallL_get hsm.2 hd1
        have st := same_new (o := .tup [x1, x2]) nT
        have s03 := s1.trans (hv2.sm.trans st)
        refine ⟨T', _, rfl, SqT.of upd_same, rfl, _, _, rfl, _, _, rfl, rfl, rfl, ?_⟩
        refine ⟨_, rfl, _, rfl, x1, x2, p, p', d, rfl, hat1.sm s03, hat2.sm s03, h2, by omega, fun H4 s4 => ?_⟩
        exact hv2.tr (st.trans s4) (by omega)
      · intro H2 hv2
        exact hv2.all fun H' s' => go H' (s1.trans s')
    | t ds =>
      obtain ⟨qa, us, rfl, nqa, eqa, hla⟩ := hu_.t_inv
      obtain ⟨qb, ws, rfl, nqb, eqb, hlb⟩ := hv.t_inv
      unfold Dt.small at hsm
      unfold Dt.dep at hd
      have hlena := hla.len
      have hlenb := hlb.len
      refine ⟨_, rfl, two, fun q n1 => ?_⟩
      generalize g1 : upd _ q _ = H1
      obtain ⟨s1, f1⟩ := new_of n1 g1
      have ea := s1 _ _ eqa
      have eb := s1 _ _ eqb
      refine ⟨_, q, _, _, _, _, rfl, f1, clsLT, .base (.tup ea), isT_, _, rfl, ?_⟩
      refine ifT ?_
      refine ⟨_, rfl, _, _, _, _, _, rfl, .ty _, .base (.tup eb), kit_ty (by rfl), _, rfl, _, _, _, _, _, rfl, .ty _, .base (.tup ea), kit_ty (by rfl), rfl, _, rfl, ?_⟩
      refine ifT ?_
      refine ⟨_, rfl, _, _, _, _, _, rfl, .ty _, .base (.tup eb), kit_ty (by rfl), _, rfl, _, _, _, _, _, rfl, .ty _, .base (.tup ea), kit_ty (by rfl), rfl, _, rfl, _, rfl, ?_⟩
      refine ifT ?_
      refine ⟨_, rfl, qa, _, rfl, .inr (SqT.of ea), _, rfl, qb, _, rfl, .inr (SqT.of eb), rfl, _, rfl, ?_⟩
      rw [decide_eq_true (by rw [hlena, hlenb])]
      refine ifT ?_
      refine ⟨_, rfl, _, rfl, qa, qb, us, ws, rfl, .inr ⟨SqT.of ea, SqT.of eb, fun D nD => ?_⟩⟩
      refine lc_it (walk_zipT (n := ds.length) (by omega)) (fun i H2 => Ac H1 D (trs i) H2) (Ac.start nD) (fun i H2 _ hv => ⟨SqT.of (hv.sm _ _ ea), SqT.of (hv.sm _ _ eb)⟩) ?_ ?_
      · rintro i y H2 H3 hi hv2 ⟨T', x1, x2, rfl, nT, rfl, hx1, hx2⟩
        obtain ⟨d, hd1, hat1⟩ := hla.getV hx1
        obtain ⟨d', hd2, hat2⟩ := hlb.getV hx2
        rw [hd1] at hd2
        cases hd2
        have h1 := depL_get hd1
        have h2 := smallL_get hsm.2 hd1
        have st := same_new (o := .tup [x1, x2]) nT
        have s03 := s1.trans (hv2.sm.trans st)
        refine ⟨T', _, rfl, SqT.of upd_same, rfl, _, _, rfl, _, _, rfl, rfl, rfl, ?_⟩
        refine ⟨_, rfl, _, rfl, x1, x2, p, p', d, rfl, hat1.sm s03, hat2.sm s03, h2, by omega, fun H4 s4 => ?_⟩
        exact hv2.tr (st.trans s4) (by omega)
      · intro H2 hv2
        exact hv2.all fun H' s' => go H' (s1.trans s')
theorem d_exacts (T : Tp K mg a) : ∀ m, Df P w K mg base (n + m + 1) "_law_exact" ["_law_mine", "_law_theirs"] (spEx m)
  | 0 => df_mk T 34 rfl sc_law_exact bd_law_exact (fun vs H Q E ⟨u, v, p, p', d, _, _, _, _, hd, _⟩ => absurd hd (Nat.not_lt_zero _)) fun f cdv A outer s H vs Q E hr ⟨u, v, p, p', d, _, _, _, _, hd, _⟩ => absurd hd (Nat.not_lt_zero _)
  | m + 1 => d_exact T (d_exacts T m)
end
end K12

set_option maxHeartbeats 4000000
/-! The law's kinds, squares, logs of trees. -/
namespace K12
open PySem PySem.Spec L2
theorem paired_snoc {α β : Type} {R : α → β → Prop} {a : α} {b : β} : ∀ {xs : List α} {ys : List β}, Paired R xs ys → R a b → Paired R (xs ++ [a]) (ys ++ [b])
  | _, _, .nil, h => .cons h .nil
  | _, _, .cons r t, h => .cons r (paired_snoc t h)
theorem paired_imp {α β : Type} {R S : α → β → Prop} (i : ∀ a b, R a b → S a b) : ∀ {xs : List α} {ys : List β}, Paired R xs ys → Paired S xs ys
  | _, _, .nil => .nil
  | _, _, .cons r t => .cons (i _ _ r) (paired_imp i t)
theorem paired_len {α β : Type} {R : α → β → Prop} : ∀ {xs : List α} {ys : List β}, Paired R xs ys → xs.length = ys.length
  | _, _, .nil => rfl
  | _, _, .cons r t => by rw [List.length_cons, List.length_cons, paired_len t]
theorem paired_get {α β : Type} {R : α → β → Prop} : ∀ {xs : List α} {ys : List β} {i : Nat} {x : α}, Paired R xs ys → xs[i]? = some x → ∃ y, ys[i]? = some y ∧ R x y
  | _, _, _, _, .nil, e => by simp at e
  | _, _, 0, x, .cons (a := a) (b := b) r t, e => by
    have : a = x := by simpa using e
    subst this
    exact ⟨b, rfl, r⟩
  | _, _, i + 1, x, .cons r t, e => by
    obtain ⟨y, h1, h2⟩ := paired_get (i := i) t (by simpa using e)
    exact ⟨y, by simpa using h1, h2⟩
/-- a new list D of new tuples -/
structure Pd {β : Type} (f : β → List V) (H : Hp) (D : Addr) (bs : List β) (H1 : Hp) : Prop where
  sm : Same H H1
  nw : H D = none
  ex : ∃ ps : List Addr, H1 D = some (.lst (ps.map V.ref)) ∧ Paired (fun p b => H1 p = some (.tup (f b))) ps bs
theorem Pd.start {β : Type} {f : β → List V} {H : Hp} {D : Addr} (n : H D = none) : Pd f H D [] (upd H D (.lst [])) := ⟨same_new n, n, [], upd_same, .nil⟩
theorem Pd.step {β : Type} {f : β → List V} {H H1 H2 : Hp} {D q : Addr} {bs cs : List β} {b : β} (h : Pd f H D bs H1) (s : Same H1 H2) (e : H2 q = some (.tup (f b))) (l : bs.length < sizeLine) (ec : cs = bs ++ [b]) :
    ∃ acc, H2 D = some (.lst acc) ∧ acc.length < sizeLine ∧ Pd f H D cs (upd H2 D (.lst (acc ++ [.ref q]))) := by
  obtain ⟨ps, e1, hp⟩ := h.ex
  have hl := paired_len hp
  have eD := s _ _ e1
  have ne : ∀ r : Addr, ∀ xs, H2 r = some (.tup xs) → r ≠ D := fun r xs er z => by subst z; rw [eD] at er; cases er
  refine ⟨_, eD, by rw [List.length_map]; omega, Same.upd0 (h.sm.trans s) h.nw, h.nw, ps ++ [q], by rw [List.map_append]; exact upd_same, ?_⟩
  rw [ec]
  refine paired_snoc (paired_imp (fun p b hb => ?_) hp) ?_
  · have := s _ _ hb
    rw [upd_ne (ne _ _ this)]; exact this
  · rw [upd_ne (ne _ _ e)]; exact e
theorem foldW : ∀ (l ws : List Str), ws.Nodup → ∃ ws', (wd l).foldl (fun acc kv => putK acc kv.1 kv.2) (wd ws) = wd ws' ∧ ws'.Nodup ∧ ∀ x, x ∈ ws' ↔ x ∈ ws ∨ x ∈ l
  | [], ws, h => ⟨ws, rfl, h, fun x => by simp⟩
  | y :: l, ws, h => by
    have nd : (if y ∈ ws then ws else ws ++ [y]).Nodup := by
      by_cases hy : y ∈ ws
      · rw [if_pos hy]; exact h
      · rw [if_neg hy, List.nodup_append]
        refine ⟨h, by simp, fun u hu v hv => ?_⟩
        rw [List.mem_singleton] at hv
        subst hv
        exact fun e => hy (e ▸ hu)
    obtain ⟨ws', e, n', m⟩ := foldW l _ nd
    refine ⟨ws', ?_, n', fun x => ?_⟩
    · show (wd l).foldl _ (putK (wd ws) (Sum.inr y) (.bl true)) = _
      rw [wd_put]; exact e
    · rw [m x]
      by_cases hy : y ∈ ws
      · rw [if_pos hy, List.mem_cons]
        constructor
        · rintro (q | q)
          · exact .inl q
          · exact .inr (.inr q)
        · rintro (q | rfl | q)
          · exact .inl q
          · exact .inl hy
          · exact .inr q
      · rw [if_neg hy, List.mem_append, List.mem_singleton, List.mem_cons]
        constructor
        · rintro ((q | q) | q)
          · exact .inl q
          · exact .inr (.inl q)
          · exact .inr (.inr q)
        · rintro (q | q | q)
          · exact .inl (.inl q)
          · exact .inl (.inr q)
          · exact .inr q
theorem mergeW (l : List Str) : ∃ ws, mergeK [] (wd l) = wd ws ∧ ws.Nodup ∧ ∀ x, x ∈ ws ↔ x ∈ l := by
  obtain ⟨ws, e, n, m⟩ := foldW l [] List.nodup_nil
  exact ⟨ws, e, n, fun x => by rw [m x]; simp⟩
theorem prs_fst {ks : List Str} {x : Str} : x ∈ (prs ks).map (·.1) ↔ x ∈ ks := by
  rw [List.mem_map]
  constructor
  · rintro ⟨q, hq, rfl⟩
    exact (mem_prs.mp hq).1
  · intro h
    exact ⟨(x, x), mem_prs.mpr ⟨h, h⟩, rfl⟩
section
variable {P : Program} {w : World} {K : PySem.W.Frag} {mg : Str → Option Value} {base : Heap} {a : Ad} {n : Nat}
def spKo_ : Sp := fun vs H Q _ => ∃ t, ∃ g : Sg, vs = [.ref t] ∧ g.Ok ∧ H t = some (.dT (grid g.ks g.mul)) ∧ ∀ q H', Same H H' → H q = none → H' q = some (.lst (g.ks.map V.str)) → Q (.ref q) H'
theorem sc_law_kinds_of : FnScope ["_law_table_here", "_law_pair"] ["_law_table_here"] (defScope s_law_kinds_of) := ⟨rfl, rfl, rfl, by decide +kernel, rfl, by decide +kernel, by decide +kernel⟩
theorem bd_law_kinds_of : BindsOf "_law_kinds_of" "_law_kinds_of" s_law_kinds_of ["_law_table_here"] := fun _ _ _ _ _ _ us hl => match us, hl with | [_], _ => rfl
theorem d_kinds_of (T : Tp K mg a) : Df P w K mg base (n + 1) "_law_kinds_of" ["_law_table_here"] spKo_ := by
  refine df_mk T 41 rfl sc_law_kinds_of bd_law_kinds_of (fun vs H Q E h => ?_) (fun f cdv A outer s H vs Q E hr h => ?_)
  · obtain ⟨t, g, rfl, _⟩ := h
    rfl
  · obtain ⟨t, g, rfl, ok, et, go⟩ := h
    have hs := szl
    have gl : (grid g.ks g.mul).length ≤ 16 := by
      rw [perm_len (List.Perm.refl _)]
      exact Nat.mul_le_mul (Nat.le_trans ok.kn (Nat.le_refl 4)) ok.kn
    have gp : (prs g.ks).length ≤ 16 := by unfold grid at gl; rw [List.length_map] at gl; exact gl
    refine ⟨_, (pss_one (ps_ret (pe_callB (call_sortedD rfl) (by rfl) T.f_sorted (by decide +kernel) (pa_cons (pe_callTy (call_dictP rfl) (by rfl) T.f_dict (by decide +kernel) (pa_cons (pe_lock (pe_lc (own := [("_law_pair", 1)]) rfl sc_law_kinds_of.nd (pi_keys (pv 0)) (blkOk_by (own := [("_law_pair", 1)]) (N := ["_law_table_here", "_law_pair"]) (sc := defScope s_law_kinds_of) (by decide +kernel)) (fun _ _ _ _ _ => (pg_name (i := 1) sc_law_kinds_of.nd rfl (Or.inl rfl))) (fun _ _ _ _ _ => pts_nil) (fun _ _ _ _ _ => (pe_tup (pa_cons (pe_ix (ix_tupK (K := K) rfl) (pv 1) pe_int (fun _ _ => rfl)) (pa_cons pe_bl pa_nil)))))) pa_nil)) pa_nil)))), ?_⟩
    refine ⟨t, _, et, trivial, fun od => ?_⟩
    refine ⟨_, rfl, t, od, rfl, .inr ⟨_, upd_same, fun D nD => ?_⟩⟩
    refine lc_it walk_keysT (fun i H1 => Pd (fun q : Str × Str => [V.str q.1, V.bl true]) (upd H t (.frz od (.dT (grid g.ks g.mul)))) D ((prs g.ks).take i) H1) (Pd.start nD) (fun i H1 _ hv => hv.sm _ _ upd_same) ?_ ?_
    · rintro i v H1 H2 hi hv ⟨rfl, k, v, q, hk, rfl, hq⟩
      unfold grid at hk
      rw [List.getElem?_map] at hk
      obtain ⟨r, hr', e⟩ := Option.map_eq_some_iff.mp hk
      injection e with e1 e2
      subst e1
      refine ⟨rfl, _, rfl, q, _, 0, .str r.1, rfl, rfl, SqT.of hq, at0 _ _, Nat.le_trans (by decide : 2 ≤ 4096) hs, fun q1 n1 => ?_⟩
      generalize g1 : upd _ q1 _ = H3
      obtain ⟨s1, f1⟩ := new_of n1 g1
      refine hv.step s1 f1 ?_ ?_
      · rw [List.length_take]; omega
      · rw [List.take_add_one, hr']; rfl
    · intro H1 hv
      refine ⟨hv.sm _ _ upd_same, ?_⟩
      obtain ⟨n1, n2⟩ := frz_new et hv.nw
      have s1 : Same H (upd H1 t (.dT (grid g.ks g.mul))) := Same.unlock et hv.sm
      rw [show (grid g.ks g.mul).length = (prs g.ks).length by unfold grid; rw [List.length_map], List.take_length] at hv
      obtain ⟨ps, e1, hp⟩ := hv.ex
      have e2 : upd H1 t (.dT (grid g.ks g.mul)) D = some (.lst (ps.map V.ref)) := by rw [upd_ne n1]; exact e1
      have hp2 : Paired (fun p (b : Str × Str) => upd H1 t (.dT (grid g.ks g.mul)) p = some (.tup [V.str b.1, V.bl true])) ps (prs g.ks) := paired_imp (fun p b hb => by
        rw [upd_ne (fun z => by subst z; rw [hv.sm _ _ upd_same] at hb; cases hb)]; exact hb) hp
      generalize upd H1 t (.dT (grid g.ks g.mul)) = H2 at s1 e2 hp2
      have wde : wd ((prs g.ks).map (·.1)) = (prs g.ks).map fun q => ((Sum.inr q.1 : Key), V.bl true) := by unfold wd; rw [List.map_map]; rfl
      have hp3 : Paired (fun p (kv : Key × V) => SqT K H2 p [kV kv.1, kv.2]) ps (wd ((prs g.ks).map (·.1))) := by
        rw [wde]
        have gen : ∀ {ps : List Addr} {bs : List (Str × Str)}, Paired (fun p (b : Str × Str) => H2 p = some (.tup [V.str b.1, V.bl true])) ps bs → Paired (fun p (kv : Key × V) => SqT K H2 p [kV kv.1, kv.2]) ps (bs.map fun q => ((Sum.inr q.1 : Key), V.bl true)) := by
          intro ps bs h
          induction h with
          | nil => exact .nil
          | cons r t ih => exact .cons (SqT.of r) ih
        exact gen hp2
      refine ⟨D, ps, _, rfl, SqL.of e2, hp3, fun q2 n2 => ?_⟩
      obtain ⟨ws, ew, nw, mw⟩ := mergeW ((prs g.ks).map (·.1))
      rw [ew]
      generalize g2 : upd _ q2 _ = H3
      obtain ⟨s2, f2⟩ := new_of n2 g2
      have wp : ws.Perm g.ks := (List.perm_ext_iff_of_nodup nw (ok.kst.imp fun {a b} q => slt_ne q)).mpr fun x => by rw [mw x]; exact prs_fst
      refine ⟨q2, _, ws, rfl, .inl f2, wd_keys ws, by have := wp.length_eq; have := ok.kn; omega, fun ys q3 yp ys' n3 => ?_⟩
      have yk := sorted_is yp ys' wp ok.kst
      subst yk
      generalize g3 : upd _ q3 _ = H4
      obtain ⟨s3, f3⟩ := new_of n3 g3
      exact go q3 H4 (s1.trans (s2.trans s3)) ((s1.trans s2).free n3) f3
def spSq_ : Sp := fun vs H Q _ => ∃ t, ∃ g : Sg, vs = [.ref t] ∧ g.Ok ∧ H t = some (.dT (grid g.ks g.mul)) ∧ ∀ q H', Same H H' → H q = none → H' q = some (.lst (g.sq.map V.str)) → Q (.ref q) H'
theorem sc_law_squares : FnScope ["_law_table_here", "_law_kind_here"] ["_law_table_here"] (defScope s_law_squares) := ⟨rfl, rfl, rfl, by decide +kernel, rfl, by decide +kernel, by decide +kernel⟩
theorem bd_law_squares : BindsOf "_law_squares" "_law_squares" s_law_squares ["_law_table_here"] := fun _ _ _ _ _ _ us hl => match us, hl with | [_], _ => rfl
theorem d_squares (T : Tp K mg a) (D_law_kinds_of : Df P w K mg base n "_law_kinds_of" ["_law_table_here"] spKo_) : Df P w K mg base (n + 1) "_law_squares" ["_law_table_here"] spSq_ := by
  refine df_mk T 42 rfl sc_law_squares bd_law_squares (fun vs H Q E h => ?_) (fun f cdv A outer s H vs Q E hr h => ?_)
  · obtain ⟨t, g, rfl, _⟩ := h
    rfl
  · obtain ⟨t, g, rfl, ok, et, go⟩ := h
    have hu := hu1 hr
    have hs := szl
    have kn := ok.kn
    refine ⟨_, (pss_one (ps_ret (pe_lc (own := [("_law_kind_here", 1)]) rfl sc_law_squares.nd (pi_listK (K := K) rfl (pe_f D_law_kinds_of hr (by rfl) (pa_cons (pv 0) pa_nil))) (blkOk_by (own := [("_law_kind_here", 1)]) (N := ["_law_table_here", "_law_kind_here"]) (sc := defScope s_law_squares) (by decide +kernel)) (fun _ _ _ _ _ => (pg_name (i := 1) sc_law_squares.nd rfl (Or.inl rfl))) (fun _ _ _ _ _ => (pts_one (pt_cmpR op_eq (pe_dget hu (pv 0) (pe_tup (pa_cons (pv 1) (pa_cons (pv 1) pa_nil))) (fun _ _ => rfl)) (pv 1) (nomark _)))) (fun _ _ _ _ _ => (pv 1))))), ?_⟩
    refine ⟨_, rfl, t, g, rfl, ok, et, fun l H0 s0 nl el => ?_⟩
    refine ⟨l, rfl, ⟨_, SqL.of el⟩, fun D nD => ?_⟩
    have e2 := s0 _ _ et
    refine lc_list (xs := g.ks.map V.str) (fun i H1 => Ac H0 D (((g.ks.take i).filter fun k => decide (g.mul k k = k)).map V.str) H1) (Ac.start nD) (fun i H1 _ hv => SqL.of (hv.sm _ _ el)) ?_ ?_
    · intro i v H1 hi hv
      rw [List.getElem?_map] at hi
      obtain ⟨y, hy, rfl⟩ := Option.map_eq_some_iff.mp hi
      have my : y ∈ g.ks := List.mem_of_getElem? hy
      refine ⟨rfl, _, rfl, _, rfl, _, rfl, Nat.le_trans (by decide : 2 ≤ 4096) hs, fun q3 n3 => ?_⟩
      generalize g3 : upd _ q3 _ = H3
      obtain ⟨s3, f3⟩ := new_of n3 g3
      refine ⟨t, _, rfl, dgetP (.inl (s3 _ _ (hv.sm _ _ e2))) f3 (grid_val ok.kst my my), _, rfl, rfl, _, rfl, ?_⟩
      have tk : (g.ks.take (i + 1)).filter (fun k => decide (g.mul k k = k)) = (g.ks.take i).filter (fun k => decide (g.mul k k = k)) ++ if g.mul y y = y then [y] else [] := by
        rw [List.take_add_one, hy, List.filter_append]
        congr 1
        show List.filter _ [y] = _
        by_cases h : g.mul y y = y <;> simp [h]
      by_cases h : g.mul y y = y
      · rw [h, decide_eq_true rfl]
        rw [if_pos h] at tk
        refine ifT ⟨_, rfl, hv.step s3 ?_ ?_⟩
        · rw [List.length_map]
          have := List.length_filter_le (fun k => decide (g.mul k k = k)) (g.ks.take i)
          rw [List.length_take] at this
          omega
        · rw [tk, List.map_append]; rfl
      · rw [decide_eq_false (fun z => h (by injection z))]
        rw [if_neg h, List.append_nil] at tk
        refine ifF ?_
        rw [tk]
        exact hv.sml s3
    · intro H1 hv
      refine go D H1 (s0.trans hv.sm) (s0.free nD) ?_
      have := hv.at_
      rw [List.length_map, List.take_length] at this
      exact this
def spKind : Sp := fun vs H Q _ => ∃ x l p, ∃ (g : Sg) (log : List Str), vs = [.ref x, .ref l] ∧ g.Ok ∧ LsAt p x H g ∧ H l = some (.lst (log.map V.str)) ∧ IsLog g log ∧ log ≠ [] ∧ ∀ H', Same H H' → Q (.str (kindOf g log)) H'
theorem kd_get {g : Sg} {x : Str} (h : (g.kd x).isSome = true) : valV (dents g.ds) (Sum.inr x : Key) = some (.str (g.kdD x)) := by
  rw [dents_val]
  obtain ⟨k, hk⟩ := Option.isSome_iff_exists.mp h
  unfold Sg.kdD
  rw [hk]; rfl
theorem sc_law_kind : FnScope ["_law_setting_here", "_law_log_here", "_law_found", "_law_deed"] ["_law_setting_here", "_law_log_here"] (defScope s_law_kind) := ⟨rfl, rfl, rfl, by decide +kernel, rfl, by decide +kernel, by decide +kernel⟩
theorem bd_law_kind : BindsOf "_law_kind" "_law_kind" s_law_kind ["_law_setting_here", "_law_log_here"] := fun _ _ _ _ _ _ us hl => match us, hl with | [_, _], _ => rfl
theorem d_kind (T : Tp K mg a) : Df P w K mg base (n + 1) "_law_kind" ["_law_setting_here", "_law_log_here"] spKind := by
  refine df_mk T 45 rfl sc_law_kind bd_law_kind (fun vs H Q E h => ?_) (fun f cdv A outer s H vs Q E hr h => ?_)
  · obtain ⟨x, l, p, g, log, rfl, _⟩ := h
    rfl
  · obtain ⟨x, l, p, g, log, rfl, ok, ⟨t, d, tw, _, _, _, _, ex, et, ed, _⟩, el, il, ne, go⟩ := h
    have hu := hu1 hr
    have hs := szl
    refine ⟨_, (pss_cons (ps_set (i := 2) sc_law_kind.nd rfl (Or.inl rfl) (pe_dget hu (pe_ix (ix_listK (K := K) rfl) (pv 0) pe_int (fun _ _ => rfl)) (pe_ix (ix_listK (K := K) rfl) (pv 1) pe_int (fun _ _ => rfl)) (fun _ _ => rfl)))
    (pss_cons (ps_for PassesOwn.never rfl (pi_listK (K := K) rfl (pe_slice (sl_listK (K := K) rfl) (pv 1) (po_some pe_int) po_none)) (pg_name (i := 3) sc_law_kind.nd rfl (Or.inl rfl))
      (pss_one (ps_set (i := 2) sc_law_kind.nd rfl (Or.inl rfl) (pe_dget hu (pe_ix (ix_listK (K := K) rfl) (pv 0) pe_int (fun _ _ => rfl)) (pe_tup (pa_cons (pv 2) (pa_cons (pe_dget hu (pe_ix (ix_listK (K := K) rfl) (pv 0) pe_int (fun _ _ => rfl)) (pv 3) (fun _ _ => rfl)) pa_nil))) (fun _ _ => rfl)))))
    (pss_one (ps_ret (pv 2))))), ?_⟩
    cases log with
    | nil => exact absurd rfl ne
    | cons y ys =>
      refine ⟨_, rfl, x, _, 1, _, rfl, rfl, SqL.of ex, at1 _ _ _, _, rfl, l, _, 0, .str y, rfl, rfl, SqL.of el, at0 _ _, d, _, rfl, dgetK (.inl ed) (kd_get (il y List.mem_cons_self)), ?_⟩
      refine ⟨_, rfl, _, rfl, l, _, rfl, SqL.of el, fun q1 n1 => ?_⟩
      rw [List.map_cons, cut1]
      generalize g1 : upd _ q1 _ = H1
      obtain ⟨s1, f1⟩ := new_of n1 g1
      refine ⟨q1, rfl, ⟨_, SqL.of f1⟩, ?_⟩
      refine for_list (xs := ys.map V.str) (fun i σ H2 => Same H1 H2 ∧ kindOf g (y :: ys.take i) ∈ g.ks ∧ ∃ u, σ = [some (.ref x), some (.ref l), some (.str (kindOf g (y :: ys.take i))), u]) ⟨Same.refl _, kdD_in ok (il y List.mem_cons_self), _, rfl⟩ (fun i σ H2 _ hv => SqL.of (hv.1 _ _ f1)) ?_ ?_
      · rintro i v σ H2 hi ⟨s2, hm, u, rfl⟩
        rw [List.getElem?_map] at hi
        obtain ⟨z, hz, rfl⟩ := Option.map_eq_some_iff.mp hi
        have iz := il z (List.mem_cons_of_mem _ (List.mem_of_getElem? hz))
        have mz := kdD_in ok iz
        have s12 := s1.trans s2
        refine ⟨_, rfl, x, _, 0, .ref t, rfl, rfl, SqL.of (s12 _ _ ex), at0 _ _, _, rfl, _, rfl, x, _, 1, .ref d, rfl, rfl, SqL.of (s12 _ _ ex), at1 _ _ _, _, rfl, d, _, rfl, dgetK (.inl (s12 _ _ ed)) (kd_get iz), Nat.le_trans (by decide : 2 ≤ 4096) hs, fun q3 n3 => ?_⟩
        generalize g3 : upd _ q3 _ = H3
        obtain ⟨s3, f3⟩ := new_of n3 g3
        refine ⟨t, _, rfl, dgetP (.inl (s3 _ _ (s12 _ _ et))) f3 (grid_val ok.kst hm mz), ?_⟩
        have tk : kindOf g (y :: ys.take (i + 1)) = g.mul (kindOf g (y :: ys.take i)) (g.kdD z) := by
          rw [List.take_add_one, hz]
          show (ys.take i ++ [z]).foldl _ _ = _
          rw [List.foldl_append]
          rfl
        exact ⟨s2.trans s3, by rw [tk]; exact ok.cl _ hm _ mz, _, by rw [tk]; rfl⟩
      · rintro σ H2 ⟨s2, hm, u, rfl⟩
        refine ⟨_, rfl, ?_⟩
        rw [List.length_map, List.take_length]
        exact go H2 (s1.trans s2)
end
end K12

set_option maxHeartbeats 4000000
/-! The law's log of a tree. -/
namespace K12
open PySem PySem.Spec L2
/-- None, or a new list: a tree's log -/
def LogV (g : Sg) (H : Hp) (D : Addr) (H1 : Hp) (v : V) (t : T) : Prop := (logT g t = none ∧ v = .non) ∨ ∃ l q, logT g t = some l ∧ v = .ref q ∧ H q = none ∧ q ≠ D ∧ H1 q = some (.lst (l.map V.str))
theorem LogV.mv {g : Sg} {H H1 H2 : Hp} {D : Addr} {v : V} {t : T} (h : LogV g H D H1 v t) (k : ∀ b o, b ≠ D → H1 b = some o → H2 b = some o) : LogV g H D H2 v t := by
  rcases h with h | ⟨l, q, h1, h2, h3, h4, h5⟩
  · exact .inl h
  · exact .inr ⟨l, q, h1, h2, h3, h4, k _ _ h4 h5⟩
/-- a new list D of such logs -/
structure Lgs (g : Sg) (H : Hp) (D : Addr) (ts : List T) (H1 : Hp) : Prop where
  sm : Same H H1
  nw : H D = none
  ex : ∃ vs : List V, H1 D = some (.lst vs) ∧ Paired (LogV g H D H1) vs ts
theorem Lgs.start {g : Sg} {H : Hp} {D : Addr} (n : H D = none) : Lgs g H D [] (upd H D (.lst [])) := ⟨same_new n, n, [], upd_same, .nil⟩
theorem Lgs.step {g : Sg} {H H1 H2 : Hp} {D : Addr} {ts us : List T} {v : V} {t : T} (h : Lgs g H D ts H1) (s : Same H1 H2) (e : LogV g H D H2 v t) (l : ts.length < sizeLine) (ec : us = ts ++ [t]) :
    ∃ acc, H2 D = some (.lst acc) ∧ acc.length < sizeLine ∧ Lgs g H D us (upd H2 D (.lst (acc ++ [v]))) := by
  obtain ⟨vs, e1, hp⟩ := h.ex
  have hl := paired_len hp
  refine ⟨vs, s _ _ e1, by omega, Same.upd0 (h.sm.trans s) h.nw, h.nw, vs ++ [v], upd_same, ?_⟩
  rw [ec]
  have up : ∀ b o, b ≠ D → H2 b = some o → upd H2 D (.lst (vs ++ [v])) b = some o := fun b o nb eb => by rw [upd_ne nb]; exact eb
  exact paired_snoc (paired_imp (fun p b hb => (hb.mv fun b o _ e => s _ _ e).mv up) hp) (e.mv up)
/-- a call's log, within D's growth -/
theorem Lgs.no {g : Sg} {H H1 H2 : Hp} {D : Addr} {ts : List T} {t : T} (h : Lgs g H D ts H1) (e : logT g t = none) : LogV g H D H2 .non t := .inl ⟨e, rfl⟩
theorem Lgs.yes {g : Sg} {H H1 H2 : Hp} {D q : Addr} {ts : List T} {t : T} {l : List Str} (h : Lgs g H D ts H1) (e : logT g t = some l) (n : H1 q = none) (f : H2 q = some (.lst (l.map V.str))) : LogV g H D H2 (.ref q) t :=
  .inr ⟨l, q, e, rfl, h.sm.free n, h.ex.elim fun vs e1 z => absurd (n.symm.trans ((congrArg H1 z).trans e1.1)) (fun y => nomatch y), f⟩
/-- as data -/
def lgD (g : Sg) (t : T) : PyData := match logT g t with
  | none => .none
  | some l => .list (l.map PyData.str)
theorem lgD_dp {K : PySem.W.Frag} {g : Sg} {H : Hp} {D : Addr} {H1 : Hp} : ∀ {vs : List V} {ts : List T}, Paired (LogV g H D H1) vs ts → DpAll K H1 vs (ts.map (lgD g))
  | _, _, .nil => .nil
  | _, _, .cons r t => by
    refine .cons ?_ (lgD_dp t)
    unfold lgD
    rcases r with ⟨h1, rfl⟩ | ⟨l, q, h1, rfl, _, _, h2⟩
    · rw [h1]; exact .non
    · rw [h1]; exact .lst (SqL.of h2) (strs_data l)
theorem log_words {g : Sg} (h : g.Ok) {l : List Str} (il : IsLog g l) : ∀ y ∈ l, isWord y := fun y hy => by
  obtain ⟨k, hk⟩ := Option.isSome_iff_exists.mp (il y hy)
  exact h.dw _ (Sg.kd_mem hk)
theorem lgD_lay {g : Sg} (h : g.Ok) : ∀ ts : List T, PyData.canLayAll0 (ts.map (lgD g)) = true ∧ PyData.depthAll (ts.map (lgD g)) ≤ 2
  | [] => ⟨by unfold PyData.canLayAll0; rfl, by unfold PyData.depthAll; exact Nat.zero_le _⟩
  | t :: ts => by
    have ih := lgD_lay h ts
    rw [List.map_cons]
    have one : (lgD g t).canLay0 = true ∧ (lgD g t).depth ≤ 2 := by
      unfold lgD
      cases e : logT g t with
      | none => exact ⟨rfl, by simp only [PyData.depth]; omega⟩
      | some l =>
        have hl := logT_ok e
        refine ⟨?_, ?_⟩
        · show PyData.canLay0 (.list _) = true
          unfold PyData.canLay0
          exact strs_lay _ (log_words h hl.2)
        · show PyData.depth (.list _) ≤ 2
          unfold PyData.depth
          have := strs_dep l
          omega
    refine ⟨?_, ?_⟩
    · unfold PyData.canLayAll0
      rw [one.1, ih.1]; rfl
    · unfold PyData.depthAll
      have := one.2
      have := ih.2
      omega
theorem lgD_shaped {g : Sg} (h : g.Ok) (ts : List T) : SeqAt.shaped (.list (ts.map (lgD g))) = true := by
  have := lgD_lay h ts
  unfold SeqAt.shaped
  rw [Bool.and_eq_true]
  refine ⟨by unfold PyData.canLay0; exact this.1, decide_eq_true ?_⟩
  unfold PyData.depth
  have := this.2
  omega
theorem lgD_eq (g : Sg) (t : T) : PyData.eqv (lgD g t) .none = decide (logT g t = none) := by
  unfold lgD
  cases e : logT g t with
  | none => rfl
  | some l => rfl
section
variable {P : Program} {w : World} {K : PySem.W.Frag} {mg : Str → Option Value} {base : Heap} {a : Ad} {n : Nat}
def spTl (m : Nat) : Sp := fun vs H Q _ => ∃ x v p p', ∃ (g : Sg) (t : T), vs = [.ref x, v] ∧ g.Ok ∧ LsAt p' x H g ∧ At p H v t.dt ∧ t.fit m ∧ (logT g t = none → ∀ H', Same H H' → Q .non H') ∧
  ∀ l, logT g t = some l → ∀ q H', Same H H' → H q = none → H' q = some (.lst (l.map V.str)) → Q (.ref q) H'
theorem sc_law_tree_log : FnScope ["_law_setting_here", "_law_value", "_law_log_here", "_law_both", "_law_logs", "_law_found", "_law_part"] ["_law_setting_here", "_law_value"] (defScope s_law_tree_log) := ⟨rfl, rfl, rfl, by decide +kernel, rfl, by decide +kernel, by decide +kernel⟩
theorem bd_law_tree_log : BindsOf "_law_tree_log" "_law_tree_log" s_law_tree_log ["_law_setting_here", "_law_value"] := fun _ _ _ _ _ _ us hl => match us, hl with | [_, _], _ => rfl
theorem d_tree_log {m : Nat} (T : Tp K mg a) (D_law_squares : Df P w K mg base n "_law_squares" ["_law_table_here"] spSq_) (D_law_kind : Df P w K mg base n "_law_kind" ["_law_setting_here", "_law_log_here"] spKind)
    (D_law_tree_log : Df P w K mg base n "_law_tree_log" ["_law_setting_here", "_law_value"] (spTl m)) : Df P w K mg base (n + 1) "_law_tree_log" ["_law_setting_here", "_law_value"] (spTl (m + 1)) := by
  refine df_mk T 48 rfl sc_law_tree_log bd_law_tree_log (fun vs H Q E h => ?_) (fun f cdv A outer s H vs Q E hr h => ?_)
  · obtain ⟨x, v, p, p', g, t, rfl, _⟩ := h
    rfl
  · obtain ⟨x, v, p, p', g, t, rfl, ok, hS, hv, ft, gN, gS⟩ := h
    have hu := hu1 hr
    have hs := szl
    have hS' := hS
    obtain ⟨tt, d, tw, _, _, _, _, ex, et, ed, _⟩ := hS'
    refine ⟨_, (pss_cons (ps_if (pt_val (pe_callB (call_isiK_ (K := K) rfl) (by rfl) T.f_isinstance (by decide +kernel) (pa_cons (pv 1) (pa_cons (pe_bltn (v := .ty "str") (u := .type "str") (by rfl) T.f_str (by decide +kernel) rfl) pa_nil))))
      (pss_one (ps_ret (pe_ifExp (pt_cmp (pc_din hu (pv 1) (pe_ix (ix_listK (K := K) rfl) (pv 0) pe_int (fun _ _ => rfl)))) (pe_lst (pa_cons (pv 1) pa_nil)) pe_non)))
      pss_nil)
    (pss_cons (ps_if (PW.pt (pw_or (pt_not (pt_val (pe_callB (call_isiK_ (K := K) rfl) (by rfl) T.f_isinstance (by decide +kernel) (pa_cons (pv 1) (pa_cons (pe_bltn (v := .ty "tuple") (u := .type "tuple") (by rfl) T.f_tuple (by decide +kernel) rfl) pa_nil))))) (pw_or (pt_cmpR op_ne (pe_callB (call_len_seqK (K := K) rfl) (by rfl) T.f_len PySem.boot_len (pa_cons (pv 1) pa_nil)) pe_int (nomark _)) (pw_or1 (pt_not (pt_val (pe_callB (call_isiK_ (K := K) rfl) (by rfl) T.f_isinstance (by decide +kernel) (pa_cons (pe_ix (ix_tupK (K := K) rfl) (pv 1) pe_int (fun _ _ => rfl)) (pa_cons (pe_bltn (v := .ty "str") (u := .type "str") (by rfl) T.f_str (by decide +kernel) rfl) pa_nil)))))))))
      (pss_one (ps_ret pe_non))
      pss_nil)
    (pss_cons (ps_if (pt_cmpR op_eq (pe_ix (ix_tupK (K := K) rfl) (pv 1) pe_int (fun _ _ => rfl)) pe_str (nomark _))
      (pss_cons (ps_setLc (i := 3) (own := [("_law_part", 6)]) rfl sc_law_tree_log.nd rfl rfl (sw_true rfl rfl rfl (by decide +kernel)) (pi_tupK (K := K) rfl (pe_slice (sl_tupK (K := K) rfl) (pv 1) (po_some pe_int) po_none)) (blkOk_by (own := [("_law_part", 6)]) (N := ["_law_setting_here", "_law_value", "_law_log_here", "_law_both", "_law_logs", "_law_found", "_law_part"]) (sc := defScope s_law_tree_log) (by decide +kernel)) (fun _ _ _ _ _ => (pg_name (i := 6) sc_law_tree_log.nd rfl (Or.inl rfl))) (fun _ _ _ _ _ => pts_nil) (fun _ _ _ _ _ => (pe_f D_law_tree_log hr (by rfl) (pa_cons (pv 0) (pa_cons (pv 6) pa_nil)))))
      (pss_one (ps_ret (pe_ifExp (pt_cmpR (op_notInDK (K := K) rfl (hu65 hr)) pe_non (pv 3) (by rfl)) (pe_op op_cat (pe_ix (ix_listK (K := K) rfl) (pv 3) pe_int (fun _ _ => rfl)) (pe_ix (ix_listK (K := K) rfl) (pv 3) pe_int (fun _ _ => rfl))) pe_non))))
      pss_nil)
    (pss_cons (ps_if (PW.pt (pw_or (pt_cmpR op_ne (pe_ix (ix_tupK (K := K) rfl) (pv 1) pe_int (fun _ _ => rfl)) pe_str (nomark _)) (pw_or (pt_not (pt_val (pe_callB (call_isiK_ (K := K) rfl) (by rfl) T.f_isinstance (by decide +kernel) (pa_cons (pe_ix (ix_tupK (K := K) rfl) (pv 1) pe_int (fun _ _ => rfl)) (pa_cons (pe_bltn (v := .ty "str") (u := .type "str") (by rfl) T.f_str (by decide +kernel) rfl) pa_nil))))) (pw_or1 (pt_cmpR (op_notIn_seqK (K := K) rfl) (pe_ix (ix_tupK (K := K) rfl) (pv 1) pe_int (fun _ _ => rfl)) (pe_f D_law_squares hr (by rfl) (pa_cons (pe_ix (ix_listK (K := K) rfl) (pv 0) pe_int (fun _ _ => rfl)) pa_nil)) (by rfl))))))
      (pss_one (ps_ret pe_non))
      pss_nil)
    (pss_cons (ps_if (PW.pt (pw_or (pt_not (pt_val (pe_callB (call_isiK_ (K := K) rfl) (by rfl) T.f_isinstance (by decide +kernel) (pa_cons (pe_ix (ix_tupK (K := K) rfl) (pv 1) pe_int (fun _ _ => rfl)) (pa_cons (pe_bltn (v := .ty "list") (u := .type "list") (by rfl) T.f_list (by decide +kernel) rfl) pa_nil))))) (pw_or1 (pt_cmpR op_lt (pe_callB (call_len_seqK (K := K) rfl) (by rfl) T.f_len PySem.boot_len (pa_cons (pe_ix (ix_tupK (K := K) rfl) (pv 1) pe_int (fun _ _ => rfl)) pa_nil)) pe_int (nomark _)))))
      (pss_one (ps_ret pe_non))
      pss_nil)
    (pss_cons (ps_par (i := 4) (j := 5) (by rfl) sc_law_tree_log.nd rfl rfl (by decide) rfl rfl (pa_cons (pe_lc (own := [("_law_part", 6)]) rfl sc_law_tree_log.nd (pi_listK (K := K) rfl (pe_ix (ix_tupK (K := K) rfl) (pv 1) pe_int (fun _ _ => rfl))) (blkOk_by (own := [("_law_part", 6)]) (N := ["_law_setting_here", "_law_value", "_law_log_here", "_law_both", "_law_logs", "_law_found", "_law_part"]) (sc := defScope s_law_tree_log) (by decide +kernel)) (fun _ _ _ _ _ => (pg_name (i := 6) sc_law_tree_log.nd rfl (Or.inl rfl))) (fun _ _ _ _ _ => pts_nil) (fun _ _ _ _ _ => (pe_f D_law_tree_log hr (by rfl) (pa_cons (pv 0) (pa_cons (pv 6) pa_nil))))) (pa_cons (pe_lst pa_nil) pa_nil)) (by rfl))
    (pss_cons (ps_for PassesOwn.never rfl (pi_listK (K := K) rfl (pv 4)) (pg_name (i := 2) sc_law_tree_log.nd rfl (Or.inl rfl))
      (pss_cons (ps_if (PW.pt (pw_or (pt_cmp (pc_isN (pv 2))) (pw_or1 (pt_cmpR op_ne (pe_f D_law_kind hr (by rfl) (pa_cons (pv 0) (pa_cons (pv 2) pa_nil))) (pe_ix (ix_tupK (K := K) rfl) (pv 1) pe_int (fun _ _ => rfl)) (nomark _)))))
        (pss_one (ps_ret pe_non))
        pss_nil)
      (pss_one (ps_set (i := 5) sc_law_tree_log.nd rfl (Or.inl rfl) (pe_op op_cat (pv 5) (pv 2))))))
    (pss_one (ps_ret (pv 5)))))))))), ?_⟩
    cases t with
    | lf z =>
      obtain rfl := hv.lf
      have un : logT g (.lf z) = if (g.kd z).isSome = true then some [z] else none := by conv => lhs; unfold logT
      refine ⟨_, rfl, _, _, _, _, _, rfl, .ty _, .base (.str _), kit_ty (by rfl), _, rfl, ?_⟩
      refine ifT ?_
      refine ⟨_, rfl, _, rfl, x, _, 1, .ref d, rfl, rfl, SqL.of ex, at1 _ _ _, d, _, rfl, dgetK (.inl ed) (dents_val g z), _, rfl, ?_⟩
      rw [Option.isSome_map]
      by_cases hz : (g.kd z).isSome = true
      · rw [hz]
        refine ifT ?_
        refine ⟨_, rfl, Nat.le_trans (by decide : 1 ≤ 4096) hs, fun q n1 => ?_⟩
        generalize g1 : upd _ q _ = H1
        obtain ⟨s1, f1⟩ := new_of n1 g1
        exact gS [z] (by rw [un, if_pos hz]) q H1 s1 n1 f1
      · rw [Bool.eq_false_iff.mpr hz]
        refine ifF ?_
        exact gN (by rw [un, if_neg hz]) H (Same.refl H)
    | pr u v =>
      obtain ⟨q, va, vb, rfl, nq, eq, ha, hb⟩ := hv.pr
      obtain ⟨fa, fb⟩ := ft.pr
      have un : logT g (.pr u v) = match logT g u with
        | none => none
        | some l => match logT g v with
          | none => none
          | some m => some (l ++ m) := by
        conv => lhs; unfold logT
        all_goals rfl
      have hsz := ft.sz
      rw [szT_pr] at hsz
      refine ⟨_, rfl, _, _, _, _, _, rfl, .ty _, .base (.tup eq), kit_ty (by rfl), _, rfl, ?_⟩
      refine ifF ?_
      refine ⟨_, rfl, _, _, _, _, _, rfl, .ty _, .base (.tup eq), kit_ty (by rfl), _, rfl, ?_⟩
      refine ifF ?_
      refine ⟨_, rfl, q, _, rfl, .inr (SqT.of eq), rfl, _, rfl, ?_⟩
      refine ifF ?_
      refine ⟨_, rfl, q, _, 0, _, rfl, rfl, SqT.of eq, at0 _ _, _, _, _, _, _, rfl, .ty _, .base (.str _), kit_ty (by rfl), _, rfl, ?_⟩
      refine ifF ?_
      refine ⟨_, rfl, q, _, 0, _, rfl, rfl, SqT.of eq, at0 _ _, rfl, _, rfl, ?_⟩
      refine ifT ?_
      refine ⟨_, rfl, _, rfl, q, _, rfl, SqT.of eq, (by show ¬(HT.sIx 3 0 (some 1) = 0 ∧ HT.sIx 3 3 none = 3); decide), fun q1 n1 => ?_⟩
      rw [cut_tup]
      generalize g1 : upd _ q1 _ = H1
      obtain ⟨s1, f1⟩ := new_of n1 g1
      refine ⟨q1, rfl, ⟨_, SqT.of f1⟩, fun D nD => ?_⟩
      refine lc_tup (xs := [va, vb]) (fun i H2 => Lgs g H1 D ([u, v].take i) H2) (Lgs.start nD) (fun i H2 _ hv => SqT.of (hv.sm _ _ f1)) ?_ ?_
      · intro i y H2 hi hv2
        have hit : ∃ t', [u, v][i]? = some t' ∧ At p H y t'.dt ∧ t'.fit m := by
          match i, hi with
          | 0, hi => cases hi; exact ⟨u, rfl, ha, fa⟩
          | 1, hi => cases hi; exact ⟨v, rfl, hb, fb⟩
          | i + 2, hi => cases hi
        obtain ⟨t', ht', hat, hft⟩ := hit
        have s02 := s1.trans hv2.sm
        have li : ([u, v].take i).length < sizeLine := by
          have : ([u, v].take i).length ≤ 2 := by rw [List.length_take]; exact Nat.min_le_right _ _
          omega
        have tk : [u, v].take (i + 1) = [u, v].take i ++ [t'] := by rw [List.take_add_one, ht']; rfl
        refine ⟨rfl, _, rfl, _, rfl, x, y, p, p', g, t', rfl, ok, hS.sm s02, hat.sm s02, hft, fun hno H3 s3 => ?_, fun l hl q3 H3 s3 n3 f3 => ?_⟩
        · exact hv2.step s3 (hv2.no (H2 := H3) hno) li tk
        · exact hv2.step s3 (hv2.yes hl n3 f3) li tk
      · intro H2 hv2
        obtain ⟨vs, eD, hpd⟩ := hv2.ex
        have hpd' : Paired (LogV g H1 D H2) vs [u, v] := hpd
        refine ⟨_, rfl, _, _, .non, .lst (SqL.of eD) (lgD_dp hpd'), (by decide), lgD_shaped ok _, _, rfl, ?_⟩
        have hany : (([u, v].map (lgD g)).any fun z => PyData.eqv z .none) = (decide (logT g u = none) || decide (logT g v = none)) := by
          rw [List.map_cons, List.map_cons, List.map_nil, List.any_cons, List.any_cons, List.any_nil, lgD_eq, lgD_eq, Bool.or_false]
        rw [hany]
        have s02 := s1.trans hv2.sm
        match vs, hpd' with
        | [v1, v2], .cons r1 (.cons r2 .nil) =>
          rcases r1 with ⟨h1, rfl⟩ | ⟨l1, q1', h1, rfl, m1, m2, m3⟩
          · rw [h1]
            refine ifF ?_
            exact gN (by rw [un, h1]) H2 s02
          · rcases r2 with ⟨h2, rfl⟩ | ⟨l2, q2', h2, rfl, k1, k2, k3⟩
            · rw [h1, h2]
              refine ifF ?_
              exact gN (by rw [un, h1, h2]) H2 s02
            · rw [h1, h2]
              refine ifT ?_
              have e1 := logT_len h1
              have e2 := logT_len h2
              refine ⟨_, rfl, D, _, 0, _, rfl, rfl, SqL.of eD, at0 _ _, _, rfl, D, _, 1, _, rfl, rfl, SqL.of eD, at1 _ _ _, q1', q2', _, _, rfl, rfl, m3, k3, by rw [List.length_map, List.length_map]; omega, fun q6 n6 => ?_⟩
              rw [← List.map_append]
              generalize g6 : upd _ q6 _ = H6
              obtain ⟨s6, f6⟩ := new_of n6 g6
              exact gS _ (by rw [un, h1, h2]) q6 H6 (s02.trans s6) (s02.free n6) f6
    | rn k ps =>
      obtain ⟨q, l, xs, rfl, nq, eq, nl, el, hp⟩ := hv.rn
      obtain ⟨fp, pne, pl, psz⟩ := ft.rn
      have plen := hp.plen
      have un : logT g (.rn k ps) = if k ∈ g.sq ∧ 2 ≤ ps.length then logL g k ps else none := by conv => lhs; unfold logT
      refine ⟨_, rfl, _, _, _, _, _, rfl, .ty _, .base (.tup eq), kit_ty (by rfl), _, rfl, ?_⟩
      refine ifF ?_
      refine ⟨_, rfl, _, _, _, _, _, rfl, .ty _, .base (.tup eq), kit_ty (by rfl), _, rfl, ?_⟩
      refine ifF ?_
      refine ⟨_, rfl, q, _, rfl, .inr (SqT.of eq), rfl, _, rfl, ?_⟩
      refine ifF ?_
      refine ⟨_, rfl, q, _, 0, _, rfl, rfl, SqT.of eq, at0 _ _, _, _, _, _, _, rfl, .ty _, .base (.str _), kit_ty (by rfl), _, rfl, ?_⟩
      refine ifF ?_
      refine ⟨_, rfl, q, _, 0, _, rfl, rfl, SqT.of eq, at0 _ _, rfl, _, rfl, ?_⟩
      refine ifF ?_
      refine ⟨_, rfl, q, _, 0, _, rfl, rfl, SqT.of eq, at0 _ _, rfl, _, rfl, ?_⟩
      refine ifF ?_
      refine ⟨_, rfl, q, _, 1, _, rfl, rfl, SqT.of eq, at1 _ _ _, _, _, _, _, _, rfl, .ty _, .base (.str _), kit_ty (by rfl), _, rfl, ?_⟩
      refine ifF ?_
      refine ⟨_, rfl, q, _, 1, _, rfl, rfl, SqT.of eq, at1 _ _ _, _, rfl, x, _, 0, .ref tt, rfl, rfl, SqL.of ex, at0 _ _, tt, g, rfl, ok, et, fun q1 H1 s1 n1 f1 => ?_⟩
      refine ⟨q1, _, rfl, .inl (SqL.of f1), rfl, flat_strs _, _, rfl, ?_⟩
      rw [show (if true = true then !inV (V.str k) (g.sq.map V.str) else inV (V.str k) (g.sq.map V.str)) = !decide (k ∈ g.sq) from by rw [if_pos rfl, inV_strs]]
      by_cases hks : k ∈ g.sq
      case neg =>
        rw [decide_eq_false hks]
        refine ifT ?_
        exact gN (by rw [un, if_neg (fun z => hks z.1)]) H1 s1
      rw [decide_eq_true hks]
      refine ifF ?_
      refine ⟨_, rfl, q, _, 2, _, rfl, rfl, SqT.of (s1 _ _ eq), at2 _ _ _ _, _, _, _, _, _, rfl, .ty _, .base (.lst (s1 _ _ el)), kit_ty (by rfl), _, rfl, ?_⟩
      refine ifF ?_
      refine ⟨_, rfl, q, _, 2, _, rfl, rfl, SqT.of (s1 _ _ eq), at2 _ _ _ _, l, _, rfl, .inl (SqL.of (s1 _ _ el)), _, _, rfl, rfl, _, rfl, ?_⟩
      by_cases h2 : 2 ≤ ps.length
      case neg =>
        rw [decide_eq_true (by rw [plen]; omega)]
        refine ifT ?_
        exact gN (by rw [un, if_neg (fun z => h2 z.2)]) H1 s1
      rw [decide_eq_false (by rw [plen]; omega)]
      refine ifF ?_
      rw [if_pos ⟨hks, h2⟩] at un
      refine ⟨_, rfl, q, _, 2, _, rfl, rfl, SqT.of (s1 _ _ eq), at2 _ _ _ _, l, rfl, ⟨_, SqL.of (s1 _ _ el)⟩, fun D nD => ?_⟩
      refine lc_list (xs := xs) (fun i H2 => Lgs g H1 D (ps.take i) H2) (Lgs.start nD) (fun i H2 _ hv => SqL.of (hv.sm _ _ (s1 _ _ el))) ?_ ?_
      · intro i y H2 hi hv2
        obtain ⟨t', ht', hat⟩ := hp.part hi
        have s02 := s1.trans hv2.sm
        have li : (ps.take i).length < sizeLine := by
          have : (ps.take i).length ≤ ps.length := by rw [List.length_take]; exact Nat.min_le_right _ _
          omega
        have tk : ps.take (i + 1) = ps.take i ++ [t'] := by rw [List.take_add_one, ht']; rfl
        refine ⟨rfl, _, rfl, _, rfl, x, y, p, p', g, t', rfl, ok, hS.sm s02, hat.sm s02, fp t' (List.mem_of_getElem? ht'), fun hno H3 s3 => ?_, fun l hl q3 H3 s3 n3 f3 => ?_⟩
        · exact hv2.step s3 (hv2.no (H2 := H3) hno) li tk
        · exact hv2.step s3 (hv2.yes hl n3 f3) li tk
      · intro H2 hv2
        rw [plen, List.take_length] at hv2
        obtain ⟨vs, eD, hpd⟩ := hv2.ex
        have s02 := s1.trans hv2.sm
        refine ⟨Nat.zero_le _, fun q2 n2 => ?_⟩
        generalize g2 : upd _ q2 _ = H2'
        obtain ⟨s2, f2⟩ := new_of n2 g2
        have s03 := s02.trans s2
        have lv := paired_len hpd
        refine ⟨_, _, rfl, ?_⟩
        refine ⟨_, rfl, D, rfl, ⟨_, SqL.of (s2 _ _ eD)⟩, ?_⟩
        refine for_list (xs := vs) (fun i σ H3 => Same H2' H3 ∧ ∃ (la : List Str) (fa : Addr) (u y : Option V), logL g k (ps.take i) = some la ∧ H fa = none ∧ H3 fa = some (.lst (la.map V.str)) ∧ σ = [some (.ref x), some (.ref q), u, none, some (.ref D), some (.ref fa), y])
          ⟨Same.refl _, [], q2, _, _, logL_nil _ _, s02.free n2, f2, rfl⟩ (fun i σ H3 _ hv => SqL.of (hv.1 _ _ (s2 _ _ eD))) ?_ ?_
        · rintro i v σ H3 hi ⟨s3, la, fa, u, y, hla, nfa, efa, rfl⟩
          obtain ⟨t, ht, hlv⟩ := paired_get hpd hi
          have mt := List.mem_of_getElem? ht
          have s04 := s03.trans s3
          rcases hlv with ⟨hno, rfl⟩ | ⟨lt, q4, hlt, rfl, n4, nD4, f4⟩
          · refine ⟨_, rfl, _, rfl, ?_⟩
            refine ifT ?_
            exact gN (by rw [un]; exact logL_stop hla ht (.inl hno)) H3 s04
          · have hok := logT_ok hlt
            have hlen := logT_len hlt
            have hsz := (fp t mt).sz
            have f4' := s3 _ _ (s2 _ _ f4)
            refine ⟨_, rfl, _, rfl, ?_⟩
            refine ifF ?_
            refine ⟨_, rfl, _, rfl, x, q4, p', g, lt, rfl, ok, hS.sm s04, f4', hok.2, hok.1, fun H5 s5 => ⟨_, rfl, q, _, 1, .str k, rfl, rfl, SqT.of (s5 _ _ (s04 _ _ eq)), at1 _ _ _, rfl, _, rfl, ?_⟩⟩
            by_cases hkd : kindOf g lt = k
            · rw [hkd]
              rw [show (!decide (V.str k = V.str k)) = false by simp]
              refine ifF ?_
              have s35 := s04.trans s5
              have hnext := logL_next hla ht hlt hkd
              have ltot : la.length + lt.length ≤ 1000 := by
                have h1 := logL_len hnext
                rw [List.length_append] at h1
                have h3 : szL ps = szL (ps.take (i + 1)) + szL (ps.drop (i + 1)) := by
                  rw [← szL_app, List.take_append_drop]
                omega
              refine ⟨_, rfl, _, rfl, fa, q4, _, _, rfl, rfl, s5 _ _ efa, s5 _ _ f4', by rw [List.length_map, List.length_map]; omega, fun q6 n6 => ?_⟩
              rw [← List.map_append]
              generalize g6 : upd _ q6 _ = H6
              obtain ⟨s6, f6⟩ := new_of n6 g6
              exact ⟨s3.trans (s5.trans s6), _, q6, _, _, hnext, s35.free n6, f6, rfl⟩
            · rw [show (!decide (V.str (kindOf g lt) = V.str k)) = true by simp [hkd]]
              refine ifT ?_
              exact gN (by rw [un]; exact logL_stop hla ht (.inr ⟨lt, hlt, hkd⟩)) H5 (s04.trans s5)
        · rintro σ H3 ⟨s3, la, fa, u, y, hla, nfa, efa, rfl⟩
          rw [lv, List.take_length] at hla
          exact ⟨_, rfl, gS la (by rw [un]; exact hla) fa H3 (s03.trans s3) nfa efa⟩
theorem d_tree_logs (T : Tp K mg a) (D_law_squares : Df P w K mg base n "_law_squares" ["_law_table_here"] spSq_) (D_law_kind : Df P w K mg base n "_law_kind" ["_law_setting_here", "_law_log_here"] spKind) : ∀ m, Df P w K mg base (n + m + 1) "_law_tree_log" ["_law_setting_here", "_law_value"] (spTl m)
  | 0 => df_mk T 48 rfl sc_law_tree_log bd_law_tree_log (fun vs H Q E ⟨x, v, p, p', g, t, _, _, _, _, ft, _⟩ => absurd ft.dp (Nat.not_lt_zero _)) fun f cdv A outer s H vs Q E hr ⟨x, v, p, p', g, t, _, _, _, _, ft, _⟩ => absurd ft.dp (Nat.not_lt_zero _)
  | m + 1 => d_tree_log T (D_law_squares.mono (by omega)) (D_law_kind.mono (by omega)) (d_tree_logs T D_law_squares D_law_kind m)
theorem d_tree_heights (T : Tp K mg a) (D : Df P w K mg base n "_law_tree_parts" ["_law_tree"] spTp) : ∀ m, Df P w K mg base (n + m + 1) "_law_tree_height" ["_law_tree"] (spHe m)
  | 0 => df_mk T 50 rfl sc_law_tree_height bd_law_tree_height (fun vs H Q E ⟨v, p, t, _, _, _, ft, _⟩ => absurd ft.dp (Nat.not_lt_zero _)) fun f cdv A outer s H vs Q E hr ⟨v, p, t, _, _, _, ft, _⟩ => absurd ft.dp (Nat.not_lt_zero _)
  | m + 1 => d_tree_height T (D.mono (by omega)) (d_tree_heights T D m)
theorem d_lturneds (T : Tp K mg a) (D : Df P w K mg base n "_law_tree_parts" ["_law_tree"] spTp) : ∀ m, Df P w K mg base (n + m + 1) "_law_turned" ["_law_tree"] (spTu m)
  | 0 => df_mk T 58 rfl sc_law_turned bd_law_turned (fun vs H Q E ⟨v, p, t, _, _, _, ft, _⟩ => absurd ft.dp (Nat.not_lt_zero _)) fun f cdv A outer s H vs Q E hr ⟨v, p, t, _, _, _, ft, _⟩ => absurd ft.dp (Nat.not_lt_zero _)
  | m + 1 => d_lturned T (D.mono (by omega)) (d_lturneds T D m)
theorem d_tree_knotss (T : Tp K mg a) (D : Df P w K mg base n "_law_tree_parts" ["_law_tree"] spTp) : ∀ m, m ≤ 1000 → Df P w K mg base (n + m + 2) "_law_tree_knots" ["_law_tree", "_law_first"] (spKn m)
  | 0, _ => df_mk T 52 rfl sc_law_tree_knots bd_law_tree_knots (fun vs H Q E ⟨v, p, t, _, _, _, _, ft, _⟩ => absurd ft.dp (Nat.not_lt_zero _)) fun f cdv A outer s H vs Q E hr ⟨v, p, t, _, _, _, _, ft, _⟩ => absurd ft.dp (Nat.not_lt_zero _)
  | m + 1, hm => d_tree_knots hm T (D.mono (by omega)) ((d_tree_heights T D (m + 1)).mono (by omega)) (d_tree_knotss T D m (by omega))
end
end K12

set_option maxHeartbeats 8000000
/-! The law's judgement of one value. -/
namespace K12
open PySem PySem.Spec L2
mutual
theorem turn_dp : ∀ t : T, (turnT t).dp = t.dp
  | .lf x => by unfold turnT; rfl
  | .pr a b => by
    unfold turnT T.dp
    rw [turn_dp a, turn_dp b, Nat.max_comm]
  | .rn k ps => by
    unfold turnT T.dp
    rw [dpL_rev, turnL_dp ps]
theorem turnL_dp : ∀ ts : List T, dpL (turnL ts) = dpL ts
  | [] => by unfold turnL; rfl
  | t :: ts => by
    unfold turnL dpL
    rw [turn_dp t, turnL_dp ts]
theorem dpL_rev : ∀ ts : List T, dpL ts.reverse = dpL ts := fun ts => by
  refine Nat.le_antisymm (dpL_le fun t ht => dpL_mem (List.mem_reverse.mp ht)) (dpL_le fun t ht => dpL_mem (List.mem_reverse.mpr ht))
end
theorem szL_rev : ∀ ts : List T, szL ts.reverse = szL ts
  | [] => rfl
  | t :: ts => by rw [List.reverse_cons, szL_app, szL_cons, szL_cons, szL_nil, szL_rev ts]; omega
mutual
theorem turn_sz : ∀ t : T, szT (turnT t) = szT t
  | .lf x => by unfold turnT; rfl
  | .pr a b => by
    unfold turnT
    rw [szT_pr, szT_pr, turn_sz a, turn_sz b, Nat.add_comm]
  | .rn k ps => by
    unfold turnT
    rw [szT_rn, szT_rn, szL_rev, turnL_sz ps]
theorem turnL_sz : ∀ ts : List T, szL (turnL ts) = szL ts
  | [] => by unfold turnL; rfl
  | t :: ts => by
    unfold turnL
    rw [szL_cons, szL_cons, turn_sz t, turnL_sz ts]
end
mutual
theorem turn_full : ∀ t : T, t.full → (turnT t).full
  | .lf x, h => by unfold turnT; exact h
  | .pr a b, h => by
    unfold T.full at h
    unfold turnT T.full
    exact ⟨turn_full b h.2, turn_full a h.1⟩
  | .rn k ps, h => by
    unfold T.full at h
    unfold turnT T.full
    refine ⟨fun e => h.1 ?_, fullL_iff.mpr fun t ht => turnL_full ps h.2 t (List.mem_reverse.mp ht)⟩
    have : (turnL ps).length = 0 := by
      have := congrArg List.length e
      rw [List.length_reverse] at this
      exact this
    rw [turnL_map, List.length_map] at this
    exact List.length_eq_zero_iff.mp this
theorem turnL_full : ∀ ts : List T, fullL ts → ∀ t ∈ turnL ts, t.full
  | [], _, t, ht => by unfold turnL at ht; cases ht
  | u :: ts, h, t, ht => by
    unfold fullL at h
    unfold turnL at ht
    rcases List.mem_cons.mp ht with e | ht
    · rw [e]; exact turn_full u h.1
    · exact turnL_full ts h.2 t ht
end
theorem turn_fit {t : T} {m : Nat} (h : t.fit m) : (turnT t).fit m := ⟨turn_full t h.fu, by rw [turn_sz]; exact h.sz, by rw [turn_dp]; exact h.dp⟩
theorem fit_small : ∀ {m : Nat} {t : T}, t.fit m → t.dt.small
  | 0, t, h => absurd h.dp (Nat.not_lt_zero _)
  | m + 1, .lf x, h => by unfold T.dt; exact small_s
  | m + 1, .pr a b, h => by
    have h1 := fit_small h.pr.1
    have h2 := fit_small h.pr.2
    unfold T.dt
    refine small_t (by decide : 3 ≤ 4000000) fun d hd => ?_
    rcases List.mem_cons.mp hd with e | hd
    · rw [e]; exact small_s
    · rcases List.mem_cons.mp hd with e | hd
      · rw [e]; exact h1
      · rw [List.mem_singleton.mp hd]; exact h2
  | m + 1, .rn k ps, h => by
    obtain ⟨h1, h2, h3, h4⟩ := h.rn
    have hp : ∀ t ∈ ps, t.dt.small := fun t ht => fit_small (h1 t ht)
    unfold T.dt
    refine small_t (by decide : 3 ≤ 4000000) fun d hd => ?_
    rcases List.mem_cons.mp hd with e | hd
    · rw [e]; exact small_s
    · rcases List.mem_cons.mp hd with e | hd
      · rw [e]; exact small_s
      · rw [List.mem_singleton.mp hd]
        refine small_l (by rw [dtL_len]; omega) fun d hd => ?_
        rw [dtL_map] at hd
        obtain ⟨t, ht, e⟩ := List.mem_map.mp hd
        rw [← e]
        exact hp t ht
theorem kn_small {t : T} {m : Nat} {f : Int} (h : t.fit m) (hm : m ≤ 1000) : (Dt.l (knT t f)).small := by
  have h1 := kn_max (f := f) h hm
  refine small_l (by omega) fun d hd => ?_
  obtain ⟨i, j, k, e⟩ := kn_all (Nat.lt_succ_self _) _ _ hd
  rw [e]
  unfold kn
  refine small_t (by decide : 3 ≤ 4000000) fun d hd => ?_
  rcases List.mem_cons.mp hd with e | hd
  · rw [e]; exact small_i
  · rcases List.mem_cons.mp hd with e | hd
    · rw [e]; exact small_i
    · rw [List.mem_singleton.mp hd]; exact small_i
theorem kn_dep {t : T} {f : Int} : depL (knT t f) ≤ 1 := by
  have gen : ∀ ds : List Dt, (∀ d ∈ ds, ∃ i j k, d = kn i j k) → depL ds ≤ 1 := by
    intro ds
    induction ds with
    | nil => intro _; unfold depL; omega
    | cons d ds ih =>
      intro h
      obtain ⟨i, j, k, e⟩ := h d List.mem_cons_self
      have := ih fun d m => h d (List.mem_cons_of_mem _ m)
      subst e
      unfold depL kn
      simp only [Dt.dep, depL]
      omega
  exact gen _ fun d hd => kn_all (Nat.lt_succ_self _) _ _ hd
def lgDt (l : List Str) : Dt := .l (l.map Dt.s)
theorem lg_small {l : List Str} (h : l.length ≤ 1000) : (lgDt l).small := by
  unfold lgDt
  refine small_l (by rw [List.length_map]; omega) fun d hd => ?_
  obtain ⟨x, _, e⟩ := List.mem_map.mp hd
  rw [← e]; exact small_s
theorem lg_dep (l : List Str) : (lgDt l).dep ≤ 1 := by
  have gen : ∀ l : List Str, depL (l.map Dt.s) ≤ 0 := by
    intro l
    induction l with
    | nil => rw [List.map_nil]; unfold depL; omega
    | cons x l ih => rw [List.map_cons]; unfold depL; simp only [Dt.dep]; omega
  have := gen l
  unfold lgDt Dt.dep
  omega
theorem lg_at {p q : Addr} {H : Hp} {l : List Str} (n : q ≠ p) (e : H q = some (.lst (l.map V.str))) : At p H (.ref q) (lgDt l) := by
  unfold lgDt; exact .l n e (.strs l)
/-- what is due, and what is told -/
def dueD (g : Sg) (t : T) (l : List Str) : List Dt := [lgDt l, .s (kindOf g l), .i (heT t : Nat), .l (knT t 0), (turnT t).dt]
theorem due_ok {g : Sg} {t : T} {l : List Str} {m : Nat} (h : t.fit m) (hm : m ≤ 1000) (hl : l.length ≤ 1000) : (Dt.l [.l (dueD g t l), t.dt]).small ∧ (Dt.l [.l (dueD g t l), t.dt]).dep < 2 * m + 6 := by
  have h1 := fit_small h
  have h2 := fit_small (turn_fit h)
  have h3 := kn_small (f := 0) h hm
  have h4 := lg_small hl
  refine ⟨small_l (by decide : 2 ≤ 4000000) fun d hd => ?_, ?_⟩
  · rcases List.mem_cons.mp hd with e | hd
    · rw [e]
      unfold dueD
      refine small_l (by decide : 5 ≤ 4000000) fun d hd => ?_
      simp only [List.mem_cons, List.not_mem_nil, or_false] at hd
      rcases hd with e | e | e | e | e <;> rw [e]
      · exact h4
      · exact small_s
      · exact small_i
      · exact h3
      · exact h2
    · rw [List.mem_singleton.mp hd]; exact h1
  · have e1 := T.dep_le t
    have e2 := T.dep_le (turnT t)
    rw [turn_dp] at e2
    have e3 := h.dp
    have e4 := kn_dep (t := t) (f := 0)
    have e5 := lg_dep l
    unfold dueD
    simp only [Dt.dep, depL]
    omega
section
variable {P : Program} {w : World} {K : PySem.W.Frag} {mg : Str → Option Value} {base : Heap} {a : Ad} {n : Nat}
def spTr (a : Ad) (m : Nat) : Sp := fun vs H Q _ => ∃ x s v p p', ∃ (g : Sg) (t : T), vs = [.ref x, .ref s, v] ∧ g.Ok ∧ SsAt a p x H g ∧ LsAt p' s H g ∧ At p H v t.dt ∧ Is H p ∧ t.fit m ∧ ∀ H', Same H H' → Q (.bl true) H'
theorem sc_law_tree_right : FnScope ["_law_made_here", "_law_setting_here", "_law_tree", "_law_due", "_law_told", "_law_other", "_law_log_here", "_law_kept"] ["_law_made_here", "_law_setting_here", "_law_tree"] (defScope s_law_tree_right) := ⟨rfl, rfl, rfl, by decide +kernel, rfl, by decide +kernel, by decide +kernel⟩
theorem bd_law_tree_right : BindsOf "_law_tree_right" "_law_tree_right" s_law_tree_right ["_law_made_here", "_law_setting_here", "_law_tree"] := fun _ _ _ _ _ _ us hl => match us, hl with | [_, _, _], _ => rfl
theorem d_tree_right {m : Nat} (hm : m ≤ 1000) (T : Tp K mg a) (D_law_exact : Df P w K mg base n "_law_exact" ["_law_mine", "_law_theirs"] (spEx (2 * m + 6))) (D_law_kind : Df P w K mg base n "_law_kind" ["_law_setting_here", "_law_log_here"] spKind)
    (D_law_same : Df P w K mg base n "_law_same" ["_law_thing"] (spSame (2 * m + 6))) (D_law_tree_height : Df P w K mg base n "_law_tree_height" ["_law_tree"] (spHe m)) (D_law_tree_knots : Df P w K mg base n "_law_tree_knots" ["_law_tree", "_law_first"] (spKn m))
    (D_law_tree_log : Df P w K mg base n "_law_tree_log" ["_law_setting_here", "_law_value"] (spTl m)) (D_law_turned : Df P w K mg base n "_law_turned" ["_law_tree"] (spTu m)) (D_height_of : Df P w K mg base n "height_of" ["setting", "tree"] (spHo a m))
    (D_is_tree : Df P w K mg base n "is_tree" ["setting", "value"] (spIsT a m)) (D_kind_by : Df P w K mg base n "kind_by" ["setting", "tree"] (spKb a m)) (D_knots_of : Df P w K mg base n "knots_of" ["setting", "tree"] (spKo a m))
    (D_log_of : Df P w K mg base n "log_of" ["setting", "tree"] (spLogOf a m)) (D_opposite_setting : Df P w K mg base n "opposite_setting" ["setting"] (spOs a)) (D_opposite_tree : Df P w K mg base n "opposite_tree" ["setting", "tree"] (spOt a m)) :
    Df P w K mg base (n + 1) "_law_tree_right" ["_law_made_here", "_law_setting_here", "_law_tree"] (spTr a m) := by
  refine df_mk T 59 rfl sc_law_tree_right bd_law_tree_right (fun vs H Q E h => ?_) (fun f cdv A outer s H vs Q E hr h => ?_)
  · obtain ⟨x, s, v, p, p', g, t, rfl, _⟩ := h
    rfl
  · obtain ⟨x, ls, v, p, p', g, t, rfl, ok, hS, hL, hv, ip, ft, go⟩ := h
    have hs := szl
    have szb : 4000000 ≤ sizeLine := by decide
    have tsm := fit_small ft
    have tdp := K12.T.dep_le t
    have tdm := ft.dp
    refine ⟨_, (pss_cons (ps_par (i := 6) (j := 7) (by rfl) sc_law_tree_right.nd rfl rfl (by decide) rfl rfl (pa_cons (pe_f D_law_tree_log hr (by rfl) (pa_cons (pv 1) (pa_cons (pv 2) pa_nil))) (pa_cons (pe_f D_law_same hr (by rfl) (pa_cons (pv 2) pa_nil)) pa_nil)) (by rfl))
    (pss_cons (ps_if (pt_not (pt_val (pe_f D_law_exact hr (by rfl) (pa_cons (pe_f D_is_tree hr (by rfl) (pa_cons (pv 0) (pa_cons (pv 2) pa_nil))) (pa_cons (pe_cmp (pc_notN (pv 6))) pa_nil)))))
      (pss_one (ps_ret pe_bl))
      pss_nil)
    (pss_cons (ps_if (pt_cmp (pc_isN (pv 6)))
      (pss_one (ps_ret pe_bl))
      pss_nil)
    (pss_cons (ps_set (i := 3) sc_law_tree_right.nd rfl (Or.inl rfl) (pe_lst (pa_cons (pv 6) (pa_cons (pe_f D_law_kind hr (by rfl) (pa_cons (pv 1) (pa_cons (pv 6) pa_nil))) (pa_cons (pe_f D_law_tree_height hr (by rfl) (pa_cons (pv 2) pa_nil)) (pa_cons (pe_f D_law_tree_knots hr (by rfl) (pa_cons (pv 2) (pa_cons pe_int pa_nil))) (pa_cons (pe_f D_law_turned hr (by rfl) (pa_cons (pv 2) pa_nil)) pa_nil)))))))
    (pss_cons (ps_set (i := 4) sc_law_tree_right.nd rfl (Or.inl rfl) (pe_lst (pa_cons (pe_f D_log_of hr (by rfl) (pa_cons (pv 0) (pa_cons (pv 2) pa_nil))) (pa_cons (pe_f D_kind_by hr (by rfl) (pa_cons (pv 0) (pa_cons (pv 2) pa_nil))) (pa_cons (pe_f D_height_of hr (by rfl) (pa_cons (pv 0) (pa_cons (pv 2) pa_nil))) (pa_cons (pe_f D_knots_of hr (by rfl) (pa_cons (pv 0) (pa_cons (pv 2) pa_nil))) (pa_cons (pe_f D_opposite_tree hr (by rfl) (pa_cons (pv 0) (pa_cons (pv 2) pa_nil))) pa_nil)))))))
    (pss_cons (ps_if (pt_not (pt_val (pe_f D_law_exact hr (by rfl) (pa_cons (pe_lst (pa_cons (pv 4) (pa_cons (pv 2) pa_nil))) (pa_cons (pe_lst (pa_cons (pv 3) (pa_cons (pv 7) pa_nil))) pa_nil)))))
      (pss_one (ps_ret pe_bl))
      pss_nil)
    (pss_cons (ps_set (i := 5) sc_law_tree_right.nd rfl (Or.inl rfl) (pe_f D_opposite_setting hr (by rfl) (pa_cons (pv 0) pa_nil)))
    (pss_cons (ps_if (pt_not (pt_val (pe_f D_law_exact hr (by rfl) (pa_cons (pe_lst (pa_cons (pe_f D_is_tree hr (by rfl) (pa_cons (pv 5) (pa_cons (pe_ix (ix_listK (K := K) rfl) (pv 4) pe_int (fun _ _ => rfl)) pa_nil))) (pa_cons (pe_f D_log_of hr (by rfl) (pa_cons (pv 5) (pa_cons (pe_ix (ix_listK (K := K) rfl) (pv 4) pe_int (fun _ _ => rfl)) pa_nil))) (pa_cons (pe_f D_kind_by hr (by rfl) (pa_cons (pv 5) (pa_cons (pe_ix (ix_listK (K := K) rfl) (pv 4) pe_int (fun _ _ => rfl)) pa_nil))) pa_nil)))) (pa_cons (pe_lst (pa_cons pe_bl (pa_cons (pe_revLK (K := K) rfl (pv 6)) (pa_cons (pe_ix (ix_listK (K := K) rfl) (pv 3) pe_int (fun _ _ => rfl)) pa_nil)))) pa_nil)))))
      (pss_one (ps_ret pe_bl))
      pss_nil)
    (pss_cons (ps_expr (pe_bm PySem.F.plainAttrs_list PySem.F.slot_list_append PySem.F.type_list_append mt_append (pe_ix (ix_listK (K := K) rfl) (pv 4) pe_int (fun _ _ => rfl)) (pa_cons pe_str pa_nil)))
    (pss_cons (ps_expr (pe_bm PySem.F.plainAttrs_list PySem.F.slot_list_append PySem.F.type_list_append mt_append (pe_ix (ix_listK (K := K) rfl) (pv 4) pe_int (fun _ _ => rfl)) (pa_cons pe_str pa_nil)))
    (pss_one (ps_ret (pe_f D_law_exact hr (by rfl) (pa_cons (pe_lst (pa_cons (pe_f D_log_of hr (by rfl) (pa_cons (pv 0) (pa_cons (pv 2) pa_nil))) (pa_cons (pe_f D_knots_of hr (by rfl) (pa_cons (pv 0) (pa_cons (pv 2) pa_nil))) pa_nil))) (pa_cons (pe_lst (pa_cons (pe_ix (ix_listK (K := K) rfl) (pv 3) pe_int (fun _ _ => rfl)) (pa_cons (pe_ix (ix_listK (K := K) rfl) (pv 3) pe_int (fun _ _ => rfl)) pa_nil))) pa_nil))))))))))))))), ?_⟩
    refine ⟨_, rfl, _, rfl, ls, v, p, p', g, t, rfl, ok, hL, hv, ft, fun hno H1 s1 => ?_, fun l hl q1 H1 s1 n1 f1 => ?_⟩
    · refine ⟨_, rfl, v, p, t.dt, rfl, hv.sm s1, ip.up s1, tsm, by omega, fun v7 H2 s2 f2 => ⟨_, _, rfl, ?_⟩⟩
      have s12 := s1.trans s2
      refine ⟨_, rfl, _, rfl, x, v, p, g, t, rfl, ok, hS.sm s12, hv.sm s12, ft, fun H3 s3 => ⟨_, rfl, ?_⟩⟩
      rw [hno]
      refine ⟨_, _, p, p, .b false, rfl, by unfold At; rfl, by unfold At; rfl, small_b, by unfold Dt.dep; omega, fun H4 s4 => ⟨_, rfl, ?_⟩⟩
      refine ifF ?_
      refine ⟨_, rfl, _, rfl, ?_⟩
      refine ifT ?_
      exact go H4 (s12.trans (s3.trans s4))
    have hok := logT_ok hl
    have hlen := logT_len hl
    have hsz := ft.sz
    have l1000 : l.length ≤ 1000 := by omega
    have hsome : (logT g t).isSome = true := by rw [hl]; rfl
    refine ⟨_, rfl, v, p, t.dt, rfl, hv.sm s1, ip.up s1, tsm, by omega, fun v7 H2 s2 f2 => ⟨_, _, rfl, ?_⟩⟩
    have s02 := s1.trans s2
    refine ⟨_, rfl, _, rfl, x, v, p, g, t, rfl, ok, hS.sm s02, hv.sm s02, ft, fun H3 s3 => ⟨_, rfl, ?_⟩⟩
    rw [hsome]
    refine ⟨_, _, p, p, .b true, rfl, by unfold At; rfl, by unfold At; rfl, small_b, by unfold Dt.dep; omega, fun H4 s4 => ⟨_, rfl, ?_⟩⟩
    refine ifF ?_
    refine ⟨_, rfl, _, rfl, ?_⟩
    refine ifF ?_
    have s24 := s3.trans s4
    have s04 := s02.trans s24
    have ip4 := ip.up s04
    have f14 : H4 q1 = some (.lst (l.map V.str)) := s24 _ _ (s2 _ _ f1)
    have q1p : q1 ≠ p := ip.ne n1
    have kept4 : At p H4 v7 t.dt := (f2 p (ip.up s1)).sm s24
    clear f2 s24 s3 s4
    -- due
    refine ⟨_, rfl, _, rfl, _, rfl, ls, q1, p', g, l, rfl, ok, hL.sm s04, f14, hok.2, hok.1, fun H5 s5 => ?_⟩
    have s05 := s04.trans s5
    refine ⟨_, rfl, v, p, t, rfl, hv.sm s05, ip.up s05, ft, fun H6 s6 => ?_⟩
    have s06 := s05.trans s6
    refine ⟨_, rfl, v, p, t, 0, rfl, hv.sm s06, ip.up s06, ft, fun q7 ks7 H7 s7 n7 e7 f7 => ?_⟩
    have s07 := s06.trans s7
    refine ⟨_, rfl, v, p, t, rfl, hv.sm s07, ip.up s07, ft, fun v8 H8 s8 f8 => ?_⟩
    have s08 := s07.trans s8
    refine ⟨Nat.le_trans (by decide : 5 ≤ 4096) hs, fun q9 n9 => ?_⟩
    generalize g9 : upd _ q9 _ = H9
    obtain ⟨s9, e9⟩ := new_of n9 g9
    have s09 := s08.trans s9
    have s49 : Same H4 H9 := s5.trans (s6.trans (s7.trans (s8.trans s9)))
    have due9 : AtL p H9 [.ref q1, .str (kindOf g l), .int (heT t : Nat), .ref q7, v8] (dueD g t l) := by
      unfold dueD
      exact .cons (lg_at q1p (s49 _ _ f14)) (.cons .s (.cons .i (.cons (.l ((ip.up s06).ne n7) (s9 _ _ (s8 _ _ e7)) ((f7 p (ip.up s06)).sm (s8.trans s9))) (.cons ((f8 p (ip.up s07)).sm s9) .nil))))
    have q9p : q9 ≠ p := (ip.up s08).ne n9
    have kept9 := kept4.sm s49
    have f19 := s49 _ _ f14
    have e79 : H9 q7 = some (.lst ks7) := s9 _ _ (s8 _ _ e7)
    clear f7 f8 kept4 f14 s5 s6 s7 s8
    -- told
    refine ⟨_, rfl, _, rfl, x, v, p, g, t, l, rfl, ok, hS.sm s09, hv.sm s09, ft, hl, fun q10 H10 s10 n10 e10 => ?_⟩
    have s010 := s09.trans s10
    refine ⟨_, rfl, _, rfl, x, v, p, g, t, l, rfl, ok, hS.sm s010, hv.sm s010, ft, hl, fun H11 s11 => ?_⟩
    have s011 := s010.trans s11
    refine ⟨_, rfl, _, rfl, x, v, p, g, t, rfl, ok, hS.sm s011, hv.sm s011, ip.up s011, ft, hsome, fun H12 s12 => ?_⟩
    have s012 := s011.trans s12
    refine ⟨_, rfl, _, rfl, x, v, p, g, t, rfl, ok, hS.sm s012, hv.sm s012, ip.up s012, ft, hsome, fun q13 ks13 H13 s13 n13 e13 f13 => ?_⟩
    have s013 := s012.trans s13
    refine ⟨_, rfl, _, rfl, x, v, p, g, t, rfl, ok, hS.sm s013, hv.sm s013, ip.up s013, ft, hsome, fun v14 H14 s14 f14 => ?_⟩
    have s014 := s013.trans s14
    refine ⟨Nat.le_trans (by decide : 5 ≤ 4096) hs, fun q15 n15 => ?_⟩
    generalize g15 : upd _ q15 _ = H15
    obtain ⟨s15, e15⟩ := new_of n15 g15
    have s015 := s014.trans s15
    have s915 : Same H9 H15 := s10.trans (s11.trans (s12.trans (s13.trans (s14.trans s15))))
    have q10p : q10 ≠ p := (ip.up s09).ne n10
    have q13p : q13 ≠ p := (ip.up s012).ne n13
    have q15p : q15 ≠ p := (ip.up s014).ne n15
    have n1510 : q15 ≠ q10 := Is.ne ⟨_, s14 _ _ (s13 _ _ (s12 _ _ (s11 _ _ e10)))⟩ n15
    have n109 : q10 ≠ q9 := Is.ne ⟨_, e9⟩ n10
    have n139 : q13 ≠ q9 := Is.ne ⟨_, s12 _ _ (s11 _ _ (s10 _ _ e9))⟩ n13
    have n1513 : q15 ≠ q13 := Is.ne ⟨_, s14 _ _ e13⟩ n15
    have e10' : H15 q10 = some (.lst (l.map V.str)) := s15 _ _ (s14 _ _ (s13 _ _ (s12 _ _ (s11 _ _ e10))))
    have e13' : H15 q13 = some (.lst ks13) := s15 _ _ (s14 _ _ e13)
    have tur15 : At p H15 v14 (turnT t).dt := (f14 p (ip.up s013)).sm s15
    have told15 : AtL p H15 [.ref q10, .str (kindOf g l), .int (heT t : Nat), .ref q13, v14] (dueD g t l) := by
      unfold dueD
      exact .cons (lg_at q10p e10') (.cons .s (.cons .i (.cons (.l q13p e13' ((f13 p (ip.up s012)).sm (s14.trans s15))) (.cons tur15 .nil))))
    have dok := due_ok (g := g) (l := l) ft hm l1000
    -- what must be apart from the two lists that grow
    have n10' : H9 q10 = none := n10
    have dlog10 : At q10 H15 (.ref q1) (lgDt l) := ((lg_at q1p f19).free n10).sm s915
    have dkn10 : At q10 H15 (.ref q7) (.l (knT t 0)) := by
      unfold dueD at due9
      unfold AtL at due9
      have h := due9.2
      unfold AtL at h
      have h := h.2
      unfold AtL at h
      have h := h.2
      unfold AtL at h
      exact (h.1.free n10).sm s915
    have dlog13 : At q13 H15 (.ref q1) (lgDt l) := (((lg_at q1p f19).sm (s10.trans (s11.trans s12))).free n13).sm (s13.trans (s14.trans s15))
    have dkn13 : At q13 H15 (.ref q7) (.l (knT t 0)) := by
      unfold dueD at due9
      unfold AtL at due9
      have h := due9.2
      unfold AtL at h
      have h := h.2
      unfold AtL at h
      have h := h.2
      unfold AtL at h
      exact ((h.1.sm (s10.trans (s11.trans s12))).free n13).sm (s13.trans (s14.trans s15))
    have q1310 : q13 ≠ q10 := fun z => by subst z; rw [s12 _ _ (s11 _ _ e10)] at n13; cases n13
    have n100 : H q10 = none := s09.free n10
    have n130 : H q13 = none := s012.free n13
    have e9' : H15 q9 = some (.lst [.ref q1, .str (kindOf g l), .int (heT t : Nat), .ref q7, v8]) := s915 _ _ e9
    have due15 := due9.sm s915
    have kept15 := kept9.sm s915
    have l13 : ks13.length ≤ 1000000 := by
      have h1 := (f13 p (ip.up s012)).len
      have h2 := kn_max (f := 0) ft hm
      omega
    have f115 := s915 _ _ f19
    clear s10 s11 s12 s13 s14 s15 f13 f14 n10' due9 kept9
    -- the first comparison
    refine ⟨_, rfl, _, rfl, Nat.le_trans (by decide : 2 ≤ 4096) hs, fun q16 n16 => ?_⟩
    generalize g16 : upd _ q16 _ = H16
    obtain ⟨s16, e16⟩ := new_of n16 g16
    have s016 := s015.trans s16
    refine ⟨_, rfl, _, rfl, Nat.le_trans (by decide : 2 ≤ 4096) hs, fun q17 n17 => ?_⟩
    generalize g17 : upd _ q17 _ = H17
    obtain ⟨s17, e17⟩ := new_of n17 g17
    have s167 := s16.trans s17
    have s017 := s015.trans s167
    refine ⟨_, _, p, p, .l [.l (dueD g t l), t.dt], rfl, ?_, ?_, dok.1, dok.2, fun H18 s18 => ⟨_, rfl, ?_⟩⟩
    · exact .l ((ip.up s015).ne n16) (s17 _ _ e16) (.cons (.l q15p (s167 _ _ e15) (told15.sm s167)) (.cons (hv.sm s017) .nil))
    · exact .l ((ip.up s016).ne n17) e17 (.cons (.l q9p (s167 _ _ e9') (due15.sm s167)) (.cons (kept15.sm s167) .nil))
    refine ifF ?_
    have s158 := s167.trans s18
    have s018 := s015.trans s158
    -- the opposite setting
    refine ⟨_, rfl, x, p, g, rfl, ok, hS.sm s018, ip.up s018, fun q19 H19 s19 n19 h19 => ?_⟩
    have s159 := s158.trans s19
    have s019 := s015.trans s159
    have tl : logT g.op (turnT t) = some l.reverse := by rw [logT_turn ok, hl]; rfl
    have kop : kindOf g.op l.reverse = kindOf g l := kindOf_op ok hok.1 hok.2
    refine ⟨_, rfl, _, rfl, q15, _, 4, v14, rfl, rfl, SqL.of (s159 _ _ e15), rfl, q19, v14, p, g.op, turnT t, rfl, ok.op, h19, tur15.sm s159, turn_fit ft, fun H20 s20 => ?_⟩
    rw [tl]
    have s150 := s159.trans s20
    have s020 := s015.trans s150
    refine ⟨_, rfl, _, rfl, q15, _, 4, v14, rfl, rfl, SqL.of (s150 _ _ e15), rfl, q19, v14, p, g.op, turnT t, l.reverse, rfl, ok.op, h19.sm s20, tur15.sm s150, turn_fit ft, tl, fun q21 H21 s21 n21 e21 => ?_⟩
    have s151 := s150.trans s21
    have s021 := s015.trans s151
    refine ⟨_, rfl, _, rfl, q15, _, 4, v14, rfl, rfl, SqL.of (s151 _ _ e15), rfl, q19, v14, p, g.op, turnT t, l.reverse, rfl, ok.op, h19.sm (s20.trans s21), tur15.sm s151, turn_fit ft, tl, fun H22 s22 => ?_⟩
    rw [kop]
    have s152 := s151.trans s22
    have s022 := s015.trans s152
    refine ⟨Nat.le_trans (by decide : 3 ≤ 4096) hs, fun q23 n23 => ?_⟩
    generalize g23 : upd _ q23 _ = H23
    obtain ⟨s23, e23⟩ := new_of n23 g23
    have s153 := s152.trans s23
    have s023 := s015.trans s153
    refine ⟨_, rfl, q1, _, rfl, SqL.of (s153 _ _ f115), fun q24 n24 => ?_⟩
    rw [← List.map_reverse]
    generalize g24 : upd _ q24 _ = H24
    obtain ⟨s24, e24⟩ := new_of n24 g24
    have s154 := s153.trans s24
    have s024 := s015.trans s154
    refine ⟨_, rfl, q9, _, 1, .str (kindOf g l), rfl, rfl, SqL.of (s154 _ _ e9'), at1 _ _ _, Nat.le_trans (by decide : 3 ≤ 4096) hs, fun q25 n25 => ?_⟩
    generalize g25 : upd _ q25 _ = H25
    obtain ⟨s25, e25⟩ := new_of n25 g25
    have s155 := s154.trans s25
    have s025 := s015.trans s155
    have lr : l.reverse.length ≤ 1000 := by rw [List.length_reverse]; exact l1000
    have dep3 := lg_dep l.reverse
    refine ⟨_, _, p, p, .l [.b true, lgDt l.reverse, .s (kindOf g l)], rfl, ?_, ?_, ?_, ?_, fun H26 s26 => ⟨_, rfl, ?_⟩⟩
    · exact .l ((ip.up s022).ne n23) (s25 _ _ (s24 _ _ e23)) (.cons .b (.cons (lg_at ((ip.up s020).ne n21) (s25 _ _ (s24 _ _ (s23 _ _ (s22 _ _ e21))))) (.cons .s .nil)))
    · exact .l ((ip.up s024).ne n25) e25 (.cons .b (.cons (lg_at ((ip.up s023).ne n24) (s25 _ _ e24)) (.cons .s .nil)))
    · refine small_l (by decide : 3 ≤ 4000000) fun d hd => ?_
      simp only [List.mem_cons, List.not_mem_nil, or_false] at hd
      rcases hd with e | e | e <;> rw [e]
      · exact small_b
      · exact lg_small lr
      · exact small_s
    · simp only [Dt.dep, depL]
      omega
    refine ifF ?_
    have s156 := s155.trans s26
    have s026 := s015.trans s156
    clear s16 s17 s18 s19 s20 s21 s22 s23 s24 s25 s26 s167 s158 s159 s150 s151 s152 s153 s154 s155
    -- both lists grow
    refine ⟨_, rfl, q15, _, 0, .ref q10, rfl, rfl, SqL.of (s156 _ _ e15), at0 _ _, .inl ⟨rfl, _, SqL.of (s156 _ _ e10')⟩, q10, _, .str "more", rfl, rfl, s156 _ _ e10', by rw [List.length_map]; omega, ?_⟩
    generalize g27 : upd H26 q10 (.lst (l.map V.str ++ [.str "more"])) = H27
    have k27 : ∀ b o, b ≠ q10 → H26 b = some o → H27 b = some o := fun b o nb e => by rw [← g27, upd_ne nb]; exact e
    have s027 : Same H H27 := by rw [← g27]; exact Same.upd0 s026 n100
    refine ⟨_, rfl, q15, _, 3, .ref q13, rfl, rfl, SqL.of (k27 _ _ n1510 (s156 _ _ e15)), rfl, .inl ⟨rfl, _, SqL.of (k27 _ _ q1310 (s156 _ _ e13'))⟩, q13, _, .str "more", rfl, rfl, k27 _ _ q1310 (s156 _ _ e13'), by omega, ?_⟩
    have dkn27 : At q13 H27 (.ref q7) (.l (knT t 0)) := by rw [← g27]; exact At.upd (dkn13.sm s156) (dkn10.sm s156)
    have dlog27 : At q13 H27 (.ref q1) (lgDt l) := by rw [← g27]; exact At.upd (dlog13.sm s156) (dlog10.sm s156)
    have e927 := k27 _ _ n109.symm (s156 _ _ e9')
    generalize g28 : upd H27 q13 (.lst (ks13 ++ [.str "more"])) = H28
    have k28 : ∀ b o, b ≠ q13 → H27 b = some o → H28 b = some o := fun b o nb e => by rw [← g28, upd_ne nb]; exact e
    have s028 : Same H H28 := by rw [← g28]; exact Same.upd0 s027 n130
    have dkn28 := dkn27.keep k28
    have dlog28 := dlog27.keep k28
    have e928 := k28 _ _ n139.symm e927
    -- asked again
    refine ⟨_, rfl, _, rfl, x, v, p, g, t, l, rfl, ok, hS.sm s028, hv.sm s028, ft, hl, fun q29 H29 s29 n29 e29 => ?_⟩
    have s029 := s028.trans s29
    refine ⟨_, rfl, _, rfl, x, v, p, g, t, rfl, ok, hS.sm s029, hv.sm s029, ip.up s029, ft, hsome, fun q30 ks30 H30 s30 n30 e30 f30 => ?_⟩
    have s030 := s029.trans s30
    refine ⟨Nat.le_trans (by decide : 2 ≤ 4096) hs, fun q31 n31 => ?_⟩
    generalize g31 : upd _ q31 _ = H31
    obtain ⟨s31, e31⟩ := new_of n31 g31
    have s031 := s030.trans s31
    have s2831 := s29.trans (s30.trans s31)
    refine ⟨_, rfl, q9, _, 0, .ref q1, rfl, rfl, SqL.of (s2831 _ _ e928), at0 _ _, _, rfl, q9, _, 3, .ref q7, rfl, rfl, SqL.of (s2831 _ _ e928), rfl, Nat.le_trans (by decide : 2 ≤ 4096) hs, fun q32 n32 => ?_⟩
    generalize g32 : upd _ q32 _ = H32
    obtain ⟨s32, e32⟩ := new_of n32 g32
    have s032 := s031.trans s32
    have dep1 := lg_dep l
    have dep2 := kn_dep (t := t) (f := 0)
    have i13 : Is H31 q13 := Is.up ⟨_, by rw [← g28]; exact upd_same⟩ s2831
    refine ⟨_, _, p, q13, .l [lgDt l, .l (knT t 0)], rfl, ?_, ?_, ?_, ?_, fun H33 s33 => ?_⟩
    · exact .l ((ip.up s030).ne n31) (s32 _ _ e31) (.cons (lg_at ((ip.up s028).ne n29) (s32 _ _ (s31 _ _ (s30 _ _ e29)))) (.cons (.l ((ip.up s029).ne n30) (s32 _ _ (s31 _ _ e30)) ((f30 p (ip.up s029)).sm (s31.trans s32))) .nil))
    · exact .l (i13.ne n32) e32 (.cons (dlog28.sm (s2831.trans s32)) (.cons (dkn28.sm (s2831.trans s32)) .nil))
    · refine small_l (by decide : 2 ≤ 4000000) fun d hd => ?_
      simp only [List.mem_cons, List.not_mem_nil, or_false] at hd
      rcases hd with e | e <;> rw [e]
      · exact lg_small l1000
      · exact kn_small ft hm
    · simp only [Dt.dep, depL]
      omega
    · exact go H33 (s032.trans s33)
end
end K12

set_option maxHeartbeats 4000000
/-! The draws. -/
namespace K12
open PySem PySem.Spec L2
local macro_rules | `(tactic| walk_at "rd") => `(tactic| repeat (first | refine ⟨_, rfl, ?_⟩ | refine ⟨_, _, rfl, rfl, ?_⟩ | refine Or.inl ⟨_, rfl, ?_⟩ | refine ⟨Or.inl ⟨by omega, by omega⟩, ?_⟩ | refine ⟨(by show (0 : Int) < _; omega), ?_⟩))
theorem Pu.to {p : Addr} {n : Nat} {H : Hp} (h : Pu p n H) {a b c a' c' : Int} (e : H p = some (.lst [.int a, .int b, .int c, .int 0])) (ha : 0 ≤ a') (hc : c ≤ c') (hc' : c' ≤ c + 1) : Ext p 1 H (upd H p (.lst [.int a', .int b, .int c', .int 0])) :=
  ⟨fun q o nq z => by rw [upd_ne nq]; exact z, fun m k => by
    obtain ⟨x, y, z, e', h1, h2, h3, h4, h5⟩ := k
    rw [e] at e'
    injection e' with e'
    injection e' with e'
    injection e' with e1 e'
    injection e' with e2 e'
    injection e' with e3 _
    injection e2 with e2
    injection e3 with e3
    exact ⟨a', b, c', upd_same, ha, by omega, by omega, by omega, by omega⟩⟩
section
variable {P : Program} {w : World} {K : PySem.W.Frag} {mg : Str → Option Value} {base : Heap} {a : Ad} {n : Nat}
def spMixed : Sp := fun vs H Q _ => ∃ x y z : Int, vs = [.int x, .int y, .int z] ∧ (0 ≤ x ∧ x < 2147483629) ∧ (0 ≤ y ∧ y ≤ 1099511627776) ∧ z = 0 ∧ ∀ v : Int, 0 ≤ v → v < 2147483587 → Q (.int v) H
theorem sc_law_mixed : FnScope ["_law_seed", "_law_spin", "_law_at", "_law_mixed_here"] ["_law_seed", "_law_spin", "_law_at"] (defScope s_law_mixed) := ⟨rfl, rfl, rfl, by decide +kernel, rfl, by decide +kernel, by decide +kernel⟩
theorem bd_law_mixed : BindsOf "_law_mixed" "_law_mixed" s_law_mixed ["_law_seed", "_law_spin", "_law_at"] := fun _ _ _ _ _ _ us hl => match us, hl with | [_, _, _], _ => rfl
theorem d_mixed (T : Tp K mg a) : Df P w K mg base (n + 1) "_law_mixed" ["_law_seed", "_law_spin", "_law_at"] spMixed := by
  refine df_mk T 29 rfl sc_law_mixed bd_law_mixed (fun vs H Q E h => ?_) (fun f cdv A outer s H vs Q E hr h => ?_)
  · obtain ⟨x, y, z, rfl, _⟩ := h
    rfl
  · obtain ⟨x, y, z, rfl, hx, hy, rfl, go⟩ := h
    refine ⟨_, (pss_cons (ps_set (i := 3) sc_law_mixed.nd rfl (Or.inl rfl) (pe_op op_add (pe_op op_mul (pv 0) pe_int) (pe_op op_mul (pe_op op_mul pe_int (pv 1)) (pv 1))))
    (pss_cons (ps_set (i := 3) sc_law_mixed.nd rfl (Or.inl rfl) (pe_op op_mod (pe_callTy call_int1 (by rfl) T.f_int (by decide +kernel) (pa_cons (pe_op op_add (pe_op op_add (pv 3) (pe_op op_mul pe_int (pv 2))) (pv 1)) pa_nil)) pe_int))
    (pss_cons (ps_set (i := 3) sc_law_mixed.nd rfl (Or.inl rfl) (pe_op op_mod (pe_callTy call_int1 (by rfl) T.f_int (by decide +kernel) (pa_cons (pe_op op_add (pe_op op_mul (pv 3) (pv 3)) pe_int) pa_nil)) pe_int))
    (pss_one (ps_ret (pe_op op_mod (pe_callTy call_int1 (by rfl) T.f_int (by decide +kernel) (pa_cons (pe_op op_mul (pv 3) pe_int) pa_nil)) pe_int)))))), ?_⟩
    walk_at "rd"
    refine go _ ?_ ?_ <;> omega
/-- a draw: below many, one more drawn -/
def spDraw : Sp := fun vs H Q _ => ∃ (p : Addr) (k : Nat) (m : Int), vs = [.ref p, .int m] ∧ Pu p k H ∧ k ≤ 1000000000 ∧ (1 ≤ m ∧ m ≤ 1000) ∧ ∀ (d : Int) (H' : Hp), 0 ≤ d → d < m → Ext p 1 H H' → Q (.int d) H'
theorem sc_law_draw : FnScope ["_law_purse_here", "_law_many", "_law_found", "_law_piece", "_law_drawn"] ["_law_purse_here", "_law_many"] (defScope s_law_draw) := ⟨rfl, rfl, rfl, by decide +kernel, rfl, by decide +kernel, by decide +kernel⟩
theorem bd_law_draw : BindsOf "_law_draw" "_law_draw" s_law_draw ["_law_purse_here", "_law_many"] := fun _ _ _ _ _ _ us hl => match us, hl with | [_, _], _ => rfl
theorem d_draw (T : Tp K mg a) (D_law_mixed : Df P w K mg base n "_law_mixed" ["_law_seed", "_law_spin", "_law_at"] spMixed) : Df P w K mg base (n + 1) "_law_draw" ["_law_purse_here", "_law_many"] spDraw := by
  refine df_mk T 30 rfl sc_law_draw bd_law_draw (fun vs H Q E h => ?_) (fun f cdv A outer s H vs Q E hr h => ?_)
  · obtain ⟨p, k, m, rfl, _⟩ := h
    rfl
  · obtain ⟨p, k, m, rfl, hp, hk, hm, go⟩ := h
    obtain ⟨x, y, c, e, h1, h2, h3, h4, h5⟩ := id hp
    refine ⟨_, (pss_cons (ps_if (pt_cmpR op_gt (pe_ix (ix_listK (K := K) rfl) (pv 0) pe_int (fun _ _ => rfl)) pe_int (nomark _))
      (pss_cons (ps_set (i := 4) sc_law_draw.nd rfl (Or.inl rfl) (pe_op op_mod (pe_callTy call_int1 (by rfl) T.f_int (by decide +kernel) (pa_cons (pe_ix (ix_listK (K := K) rfl) (pv 0) pe_int (fun _ _ => rfl)) pa_nil)) (pv 1)))
      (pss_cons (ps_asg (pe_op op_fdiv (pe_ix (ix_listK (K := K) rfl) (pv 0) pe_int (fun _ _ => rfl)) (pv 1)) (pg_sub (pv 0) pe_int set_list))
      (pss_one (ps_ret (pv 4)))))
      pss_nil)
    (pss_cons (ps_set (i := 2) sc_law_draw.nd rfl (Or.inl rfl) pe_int)
    (pss_cons (ps_for PassesOwn.never rfl (pi_range1 (by rfl) T.f_range (pa_cons (pe_op op_add pe_int (pe_op op_fdiv (pe_bits (pv 1)) pe_int)) pa_nil)) (pg_name (i := 3) sc_law_draw.nd rfl (Or.inl rfl))
      (pss_cons (ps_asg (pe_op op_add (pe_ix (ix_listK (K := K) rfl) (pv 0) pe_int (fun _ _ => rfl)) pe_int) (pg_sub (pv 0) pe_int set_list))
      (pss_one (ps_set (i := 2) sc_law_draw.nd rfl (Or.inl rfl) (pe_op op_add (pe_op op_mul (pv 2) pe_int) (pe_f D_law_mixed hr (by rfl) (pa_cons (pe_ix (ix_listK (K := K) rfl) (pv 0) pe_int (fun _ _ => rfl)) (pa_cons (pe_ix (ix_listK (K := K) rfl) (pv 0) pe_int (fun _ _ => rfl)) (pa_cons (pe_ix (ix_listK (K := K) rfl) (pv 0) pe_int (fun _ _ => rfl)) pa_nil)))))))))
    (pss_one (ps_ret (pe_op op_mod (pe_callTy call_int1 (by rfl) T.f_int (by decide +kernel) (pa_cons (pv 2) pa_nil)) (pv 1))))))), ?_⟩
    refine ⟨_, rfl, _, _, _, _, rfl, rfl, SqL.of e, (by rfl), _, _, rfl, rfl, _, rfl, ?_⟩
    refine ite2 (fun hx => ?_) (fun hx => ?_)
    · refine ⟨_, rfl, _, _, _, _, rfl, rfl, SqL.of e, (by rfl), Or.inl ⟨_, rfl, ?_⟩⟩
      refine ⟨_, rfl, _, _, rfl, rfl, (by show (0 : Int) < m; omega), ?_⟩
      refine ⟨_, rfl, _, _, _, _, rfl, rfl, SqL.of e, (by rfl), _, rfl, _, _, rfl, rfl, ⟨by omega, by omega⟩, ?_⟩
      refine ⟨_, rfl, p, _, _, 0, rfl, rfl, e, (by rfl), ?_⟩
      refine ⟨_, rfl, ?_⟩
      exact go _ _ (Int.emod_nonneg _ (by omega)) (Int.emod_lt_of_pos _ (by omega)) (hp.to e (Int.ediv_nonneg h1 (by omega)) (Int.le_refl _) (by omega))
    · have hb : (Builtin.Int.intBits m : Int) ≤ 10 := by
        have := PyProof.Rows.intBits_le (a := m) (k := 10) (by omega)
        omega
      have hb0 : (0 : Int) ≤ (Builtin.Int.intBits m : Int) := Int.natCast_nonneg _
      refine ⟨_, rfl, _, rfl, _, _, rfl, rfl, ⟨by decide, by decide⟩, _, _, rfl, rfl, _, rfl, by omega, by omega, ?_⟩
      have one : (1 + ((Builtin.Int.intBits m : Nat) : Int) / 28).toNat = 1 := by omega
      refine for_range (lo := 0) (n := _) (fun i σ H1 => (i = 0 ∧ H1 = H ∧ σ = [some (.ref p), some (.int m), some (.int 0), none, none]) ∨ (i = 1 ∧ Ext p 1 H H1 ∧ ∃ (v : Int) (u : Option V), σ = [some (.ref p), some (.int m), some (.int v), u, none])) (.inl ⟨rfl, rfl, rfl⟩) ?_ ?_
      · rintro i σ H1 hi hv
        rcases hv with ⟨rfl, rfl, rfl⟩ | ⟨rfl, _⟩
        · refine ⟨_, rfl, _, _, _, _, rfl, rfl, SqL.of e, (by rfl), _, _, rfl, rfl, ?_⟩
          refine ⟨_, rfl, p, _, _, 2, rfl, rfl, e, (by rfl), ?_⟩
          refine ⟨_, rfl, _, _, rfl, rfl, Or.inl ⟨by omega, by omega⟩, ?_⟩
          refine ⟨_, rfl, _, _, _, _, rfl, rfl, SqL.of upd_same, (by rfl), ?_⟩
          refine ⟨_, rfl, _, _, _, _, rfl, rfl, SqL.of upd_same, (by rfl), ?_⟩
          refine ⟨_, rfl, _, _, _, _, rfl, rfl, SqL.of upd_same, (by rfl), ?_⟩
          refine ⟨_, _, _, rfl, ⟨h2, h3⟩, ⟨by omega, by omega⟩, rfl, fun v hv1 hv2 => ?_⟩
          refine ⟨_, _, rfl, rfl, ?_⟩
          exact .inr ⟨rfl, hp.to e h1 (by omega) (by omega), _, _, rfl⟩
        · rw [one] at hi
          omega
      · rintro σ H1 hv
        rw [one] at hv
        rcases hv with ⟨z, _⟩ | ⟨_, hE, v, u, rfl⟩
        · omega
        · refine ⟨_, rfl, Or.inl ⟨_, rfl, _, rfl, _, _, rfl, rfl, (by show (0 : Int) < m; omega), ?_⟩⟩
          exact go _ _ (Int.emod_nonneg _ (by omega)) (Int.emod_lt_of_pos _ (by omega)) hE
end
end K12

set_option maxHeartbeats 4000000
/-! The purse, a choice, words. -/
namespace K12
open PySem PySem.Spec L2
local macro_rules | `(tactic| walk_at "rd") => `(tactic| repeat (first | refine ⟨_, rfl, ?_⟩ | refine ⟨_, _, rfl, rfl, ?_⟩ | refine Or.inl ⟨_, rfl, ?_⟩ | refine ⟨Or.inl ⟨by omega, by omega⟩, ?_⟩ | refine ⟨(by show (0 : Int) < _; omega), ?_⟩))
theorem cut_ints (ns : List Int) (lo hi : Option Int) : ∃ ms : List Int, cutV (ns.map V.int) lo hi = ms.map V.int := by
  unfold cutV
  rw [← List.map_drop, ← List.map_take]
  exact ⟨_, rfl⟩
section
variable {P : Program} {w : World} {K : PySem.W.Frag} {mg : Str → Option Value} {base : Heap} {a : Ad} {n : Nat}
def spPurse (K : PySem.W.Frag) : Sp := fun vs H Q _ => ∃ (s : Addr) (ns : List Int), vs = [.ref s, .int 0] ∧ SqL K H s (ns.map V.int) ∧ ∀ (q : Addr) (H' : Hp), Same H H' → H q = none → Pu q 0 H' → Q (.ref q) H'
theorem sc_law_purse : FnScope ["_law_script", "_law_at", "_law_seed"] ["_law_script", "_law_at"] (defScope s_law_purse) := ⟨rfl, rfl, rfl, by decide +kernel, rfl, by decide +kernel, by decide +kernel⟩
theorem bd_law_purse : BindsOf "_law_purse" "_law_purse" s_law_purse ["_law_script", "_law_at"] := fun _ _ _ _ _ _ us hl => match us, hl with | [_, _], _ => rfl
theorem d_purse (T : Tp K mg a) : Df P w K mg base (n + 1) "_law_purse" ["_law_script", "_law_at"] (spPurse K) := by
  refine df_mk T 28 rfl sc_law_purse bd_law_purse (fun vs H Q E h => ?_) (fun f cdv A outer s H vs Q E hr h => ?_)
  · obtain ⟨x, y, rfl, _⟩ := h
    rfl
  · obtain ⟨x, ns, rfl, hs, go⟩ := h
    obtain ⟨ms, hms⟩ := cut_ints ns (some 0) (some (0 + 1))
    refine ⟨_, (pss_cons (ps_set (i := 2) sc_law_purse.nd rfl (Or.inl rfl) (pe_callB (cr_sumK (K := K) rfl rfl) (by rfl) T.f_sum (by decide +kernel) (pa_cons (pe_slice (sl_listK (K := K) rfl) (pv 0) (po_some (pv 1)) (po_some (pe_op op_add (pv 1) pe_int))) pa_nil)))
    (pss_one (ps_ret (pe_lst (pa_cons (pe_op op_mod (pe_callTy call_int1 (by rfl) T.f_int (by decide +kernel) (pa_cons (pe_callB (call_max2 rfl) (by rfl) T.f_max (by decide +kernel) (pa_cons (pe_op op_sub (pv 2) (pe_op op_powX pe_int pe_int)) (pa_cons pe_int pa_nil))) pa_nil)) (pe_op op_powX (pe_op op_powX pe_int pe_int) pe_int)) (pa_cons (pe_op op_mod (pe_callTy call_int1 (by rfl) T.f_int (by decide +kernel) (pa_cons (pv 2) pa_nil)) pe_int) (pa_cons pe_int (pa_cons (pv 1) pa_nil)))))))), ?_⟩
    refine ⟨_, rfl, _, rfl, _, rfl, _, rfl, _, _, rfl, rfl, _, rfl, x, _, rfl, hs, fun q1 n1 => ?_⟩
    generalize g1 : upd H q1 _ = H1
    obtain ⟨s1, e1⟩ := new_of n1 g1
    refine ⟨q1, ms, rfl, by rw [← hms]; exact SqL.of e1, ?_⟩
    refine ⟨_, rfl, _, _, rfl, rfl, ⟨by decide, by decide +kernel⟩, _, _, rfl, rfl, _, _, rfl, Or.inl ⟨_, rfl, ?_⟩⟩
    refine ⟨_, _, rfl, rfl, ⟨by decide, by decide +kernel⟩, _, _, rfl, rfl, ⟨by decide, by decide +kernel⟩, _, _, rfl, rfl, (by show (0 : Int) < (10 ^ (60 : Int).toNat) ^ (8 : Int).toNat; decide +kernel), ?_⟩
    refine ⟨_, rfl, Or.inl ⟨_, rfl, _, _, rfl, rfl, (by show (0 : Int) < 2147483629; decide), ?_⟩⟩
    refine ⟨_, rfl, (by show 4 ≤ sizeLine; decide), fun q2 n2 => ?_⟩
    generalize g2 : upd H1 q2 _ = H2
    obtain ⟨s2, e2⟩ := new_of n2 g2
    refine go q2 H2 (s1.trans s2) (s1.no n2) ⟨_, _, _, e2, Int.emod_nonneg _ (by decide +kernel), ?_, ?_, by decide, by decide⟩
    · exact Int.emod_nonneg _ (by decide)
    · exact Int.emod_lt_of_pos _ (by decide)
def spPurses (K : PySem.W.Frag) : Sp := fun vs H Q _ => ∃ (s : Addr) (ns : List Int), vs = [.ref s, .int 1] ∧ SqL K H s (ns.map V.int) ∧ ∀ (q p : Addr) (H' : Hp), Same H H' → H p = none → Pu p 0 H' → q ≠ p → H' q = some (.lst [.ref p]) → Q (.ref q) H'
theorem sc_law_purses : FnScope ["_law_script", "_law_few", "_law_at"] ["_law_script", "_law_few"] (defScope s_law_purses) := ⟨rfl, rfl, rfl, by decide +kernel, rfl, by decide +kernel, by decide +kernel⟩
theorem bd_law_purses : BindsOf "_law_purses" "_law_purses" s_law_purses ["_law_script", "_law_few"] := fun _ _ _ _ _ _ us hl => match us, hl with | [_, _], _ => rfl
theorem d_purses (T : Tp K mg a) (D_law_purse : Df P w K mg base n "_law_purse" ["_law_script", "_law_at"] (spPurse K)) : Df P w K mg base (n + 1) "_law_purses" ["_law_script", "_law_few"] (spPurses K) := by
  refine df_mk T 31 rfl sc_law_purses bd_law_purses (fun vs H Q E h => ?_) (fun f cdv A outer s H vs Q E hr h => ?_)
  · obtain ⟨x, y, rfl, _⟩ := h
    rfl
  · obtain ⟨x, ns, rfl, hs, go⟩ := h
    refine ⟨_, (pss_one (ps_ret (pe_lc (own := [("_law_at", 2)]) rfl sc_law_purses.nd (pi_range1 (by rfl) T.f_range (pa_cons (pe_callB (call_max2 rfl) (by rfl) T.f_max (by decide +kernel) (pa_cons pe_int (pa_cons (pe_callB (call_min2 rfl) (by rfl) T.f_min (by decide +kernel) (pa_cons (pv 1) (pa_cons (pe_callB (call_len_seqK (K := K) rfl) (by rfl) T.f_len PySem.boot_len (pa_cons (pv 0) pa_nil)) pa_nil))) pa_nil))) pa_nil)) (blkOk_by (own := [("_law_at", 2)]) (N := ["_law_script", "_law_few", "_law_at"]) (sc := defScope s_law_purses) (by decide +kernel)) (fun _ _ _ _ _ => (pg_name (i := 2) sc_law_purses.nd rfl (Or.inl rfl))) (fun _ _ _ _ _ => pts_nil) (fun _ _ _ _ _ => (pe_f D_law_purse hr (by rfl) (pa_cons (pv 0) (pa_cons (pv 2) pa_nil))))))), ?_⟩
    refine ⟨_, rfl, _, rfl, x, _, rfl, .inl hs, _, _, rfl, _, _, rfl, _, rfl, ?_⟩
    have one : (if (if ((ns.map V.int).length : Int) < 1 then ((ns.map V.int).length : Int) else 1) > 1 then (if ((ns.map V.int).length : Int) < 1 then ((ns.map V.int).length : Int) else 1) else (1 : Int)) = 1 := by
      split <;> split <;> omega
    rw [one]
    refine ⟨by decide, by decide, fun D nD => ?_⟩
    refine lc_range (lo := 0) (n := 1) (fun i H1 => (i = 0 ∧ H1 = upd H D (.lst [])) ∨ (i = 1 ∧ ∃ p, Same H H1 ∧ H p = none ∧ Pu p 0 H1 ∧ D ≠ p ∧ H1 D = some (.lst [.ref p]))) (.inl ⟨rfl, rfl⟩) ?_ ?_
    · rintro i H1 hi hv
      rcases hv with ⟨rfl, rfl⟩ | ⟨rfl, _⟩
      · refine ⟨rfl, _, rfl, _, rfl, x, ns, rfl, (same_new nD).seq hs, fun q H' s' nq hq => ?_⟩
        have ne : D ≠ q := ne_of_none upd_same nq
        refine ⟨_, s' D _ upd_same, by decide, .inr ⟨rfl, q, ?_, Same.no (same_new nD) nq, ?_, ne, upd_same⟩⟩
        · exact Same.upd0 (Same.trans (same_new nD) s') nD
        · obtain ⟨a1, b1, c1, e1, r⟩ := hq
          exact ⟨a1, b1, c1, by rw [upd_ne ne.symm]; exact e1, r⟩
      · omega
    · rintro H1 hv
      rcases hv with ⟨z, _⟩ | ⟨_, p, s1, np, hp, ne, e⟩
      · omega
      · exact go D p H1 s1 np hp ne e
/-- one of a list -/
def spOneOf : Sp := fun vs H Q _ => ∃ (p l : Addr) (k : Nat) (xs : List V), vs = [.ref p, .ref l] ∧ Pu p k H ∧ k ≤ 1000000000 ∧ l ≠ p ∧ H l = some (.lst xs) ∧ 0 < xs.length ∧ xs.length ≤ 1000 ∧
  ∀ (v : V) (H' : Hp), v ∈ xs → Ext p 1 H H' → Q v H'
theorem sc_law_one_of : FnScope ["_law_purse_here", "_law_some"] ["_law_purse_here", "_law_some"] (defScope s_law_one_of) := ⟨rfl, rfl, rfl, by decide +kernel, rfl, by decide +kernel, by decide +kernel⟩
theorem bd_law_one_of : BindsOf "_law_one_of" "_law_one_of" s_law_one_of ["_law_purse_here", "_law_some"] := fun _ _ _ _ _ _ us hl => match us, hl with | [_, _], _ => rfl
theorem d_one_of (T : Tp K mg a) (D_law_draw : Df P w K mg base n "_law_draw" ["_law_purse_here", "_law_many"] spDraw) : Df P w K mg base (n + 1) "_law_one_of" ["_law_purse_here", "_law_some"] spOneOf := by
  refine df_mk T 32 rfl sc_law_one_of bd_law_one_of (fun vs H Q E h => ?_) (fun f cdv A outer s H vs Q E hr h => ?_)
  · obtain ⟨p, l, k, xs, rfl, _⟩ := h
    rfl
  · obtain ⟨p, l, k, xs, rfl, hp, hk, nl, e, h0, h1, go⟩ := h
    refine ⟨_, (pss_one (ps_ret (pe_ix (ix_listK (K := K) rfl) (pv 1) (pe_f D_law_draw hr (by rfl) (pa_cons (pv 0) (pa_cons (pe_callB (call_len_seqK (K := K) rfl) (by rfl) T.f_len PySem.boot_len (pa_cons (pv 1) pa_nil)) pa_nil))) (fun _ _ => rfl)))), ?_⟩
    refine ⟨_, rfl, _, rfl, _, rfl, l, xs, rfl, .inl (SqL.of e), p, k, _, rfl, hp, hk, ⟨by omega, by omega⟩, fun d H' d0 d1 x => ?_⟩
    have hd : d.toNat < xs.length := by omega
    have ed : d = (d.toNat : Int) := by omega
    exact ⟨l, xs, d, xs[d.toNat], rfl, rfl, SqL.of (x.keep _ _ nl e), at_of ed (List.getElem?_eq_getElem hd), go _ _ (List.getElem_mem hd) x⟩
end
end K12

set_option maxHeartbeats 4000000
/-! Words. -/
namespace K12
open PySem PySem.Spec L2
theorem atN {α : Type} {xs : List α} {d : Int} (h0 : 0 ≤ d) (h1 : d < xs.length) : ∃ c, atI xs d = some c ∧ c ∈ xs := by
  unfold atI ixN
  rw [if_pos h0, if_pos h1]
  have h : d.toNat < xs.length := by omega
  exact ⟨xs[d.toNat], List.getElem?_eq_getElem h, List.getElem_mem h⟩
theorem join1 : ∀ cs : List Nat, TL.joinL [] (cs.map fun c => [c]) = cs
  | [] => rfl
  | [c] => rfl
  | c :: d :: r => by
    have := join1 (d :: r)
    show [c] ++ ([] ++ TL.joinL [] ((d :: r).map fun c => [c])) = _
    rw [this]; rfl
theorem joinS (cs : List Nat) : Txt.join ("" : Str) (cs.map fun c => (⟨#[c]⟩ : Str)) = ⟨cs.toArray⟩ := by
  have h := SX.join_S [] (cs.map fun c => [c])
  rw [join1, List.map_map] at h
  exact h
theorem word_of {cs : List Nat} (h0 : 0 < cs.length) (h1 : cs.length < 9) (h : ∀ c ∈ cs, c ∈ lettersS.cps.toList) : isWord ⟨cs.toArray⟩ := by
  unfold isWord
  refine ⟨by simpa using h0, by simpa using h1, fun c hc => h c (by simpa using hc)⟩
theorem sub_len {α : Type} [DecidableEq α] : ∀ {l ws : List α}, l.Nodup → (∀ x ∈ l, x ∈ ws) → l.length ≤ ws.length
  | [], _, _, _ => Nat.zero_le _
  | x :: l, ws, n, h => by
    have hn := List.nodup_cons.mp n
    have hx := h x List.mem_cons_self
    have := sub_len (l := l) (ws := ws.erase x) hn.2 fun y hy => (List.mem_erase_of_ne (show y ≠ x from fun e => hn.1 (e ▸ hy))).mpr (h y (List.mem_cons_of_mem _ hy))
    rw [List.length_erase_of_mem hx] at this
    have := List.length_pos_of_mem hx
    rw [List.length_cons]
    omega
/-- one sign changed -/
theorem word_cut {z : Str} (hz : isWord z) {d : Int} (h0 : 0 ≤ d) (h1 : d < z.cps.size) {c : Nat} (hc : c ∈ lettersS.cps.toList) : isWord (cutS z none (some d) ++ (⟨#[c]⟩ : Str) ++ cutS z (some (d + 1)) none) := by
  obtain ⟨k, rfl⟩ : ∃ k : Nat, d = (k : Int) := ⟨d.toNat, by omega⟩
  have hk : k < z.cps.toList.length := by simpa using (show k < z.cps.size by omega)
  have e : (cutS z none (some (k : Int)) ++ (⟨#[c]⟩ : Str) ++ cutS z (some ((k : Int) + 1)) none) = ⟨(z.cps.toList.take k ++ [c] ++ z.cps.toList.drop (k + 1)).toArray⟩ := by
    unfold cutS
    rw [HT.sIx_none, HT.sIx_none, HT.sIx_nat, show ((k : Int) + 1) = ((k + 1 : Nat) : Int) by omega, HT.sIx_nat]
    have hl : z.length = z.cps.toList.length := by simp [Str.length]
    rw [hl, Nat.min_eq_left (by omega), Nat.min_eq_left (by omega)]
    refine cps_inj ?_
    have ap : ∀ a b : Str, (a ++ b).cps.toList = a.cps.toList ++ b.cps.toList := fun a b => TL.tl_append a b
    rw [ap, ap]
    simp
    rw [List.take_of_length_le (by simp)]
  rw [e]
  obtain ⟨w1, w2, w3⟩ := hz
  have hs : z.cps.toList.length = z.cps.size := by simp
  refine word_of ?_ ?_ fun x hx => ?_
  · simp
    omega
  · simp
    omega
  · rcases List.mem_append.mp hx with hx | hx
    · rcases List.mem_append.mp hx with hx | hx
      · exact w3 x (List.mem_of_mem_take hx)
      · rw [List.mem_singleton.mp hx]; exact hc
    · exact w3 x (List.mem_of_mem_drop hx)
section
variable {P : Program} {w : World} {K : PySem.W.Frag} {mg : Str → Option Value} {base : Heap} {a : Ad} {n : Nat}
abbrev DfDraw (P : Program) (w : World) (K : PySem.W.Frag) (mg : Str → Option Value) (base : Heap) (n : Nat) : Prop := Df P w K mg base n "_law_draw" ["_law_purse_here", "_law_many"] spDraw
def spWd : Sp := fun vs H Q _ => ∃ (p : Addr) (k : Nat), vs = [.ref p] ∧ Pu p k H ∧ k ≤ 900000000 ∧ ∀ (z : Str) (H' : Hp), isWord z → Ext p 10 H H' → Q (.str z) H'
theorem sc_law_word : FnScope ["_law_purse_here", "_law_size", "_law_spin"] ["_law_purse_here"] (defScope s_law_word) := ⟨rfl, rfl, rfl, by decide +kernel, rfl, by decide +kernel, by decide +kernel⟩
theorem bd_law_word : BindsOf "_law_word" "_law_word" s_law_word ["_law_purse_here"] := fun _ _ _ _ _ _ us hl => match us, hl with | [_], _ => rfl
theorem d_word (T : Tp K mg a) (D_law_draw : DfDraw P w K mg base n) : Df P w K mg base (n + 1) "_law_word" ["_law_purse_here"] spWd := by
  refine df_mk T 35 rfl sc_law_word bd_law_word (fun vs H Q E h => ?_) (fun f cdv A outer s H vs Q E hr h => ?_)
  · obtain ⟨p, k, rfl, _⟩ := h
    rfl
  · obtain ⟨p, k, rfl, hp, hk, go⟩ := h
    have hs := szl
    refine ⟨_, (pss_cons (ps_set (i := 1) sc_law_word.nd rfl (Or.inl rfl) (pe_op op_add pe_int (pe_f D_law_draw hr (by rfl) (pa_cons (pv 0) (pa_cons (pe_ifExp (pt_cmpR op_eq (pe_f D_law_draw hr (by rfl) (pa_cons (pv 0) (pa_cons pe_int pa_nil))) pe_int (nomark _)) pe_int pe_int) pa_nil)))))
    (pss_one (ps_ret (pe_join pe_str (pe_lc (own := [("_law_spin", 2)]) rfl sc_law_word.nd (pi_range1 (by rfl) T.f_range (pa_cons (pv 1) pa_nil)) (blkOk_by (own := [("_law_spin", 2)]) (N := ["_law_purse_here", "_law_size", "_law_spin"]) (sc := defScope s_law_word) (by decide +kernel)) (fun _ _ _ _ _ => (pg_name (i := 2) sc_law_word.nd rfl (Or.inl rfl))) (fun _ _ _ _ _ => pts_nil) (fun _ _ _ _ _ => (pe_ix ix_str pe_str (pe_f D_law_draw hr (by rfl) (pa_cons (pv 0) (pa_cons pe_int pa_nil))) (fun _ _ => rfl)))))))), ?_⟩
    refine ⟨_, rfl, _, rfl, p, k, 3, rfl, hp, by omega, ⟨by decide, by decide⟩, fun d1 H1 d10 d11 x1 => ⟨rfl, _, rfl, ?_⟩⟩
    have pu1 := x1.pu _ hp
    obtain ⟨m, hm⟩ : ∃ m : Int, m = if d1 = 0 then 8 else 3 := ⟨_, rfl⟩
    have hm8 : 1 ≤ m ∧ m ≤ 8 := by rw [hm]; split <;> decide
    refine if_int m (fun hc Q' q => ?_) (fun hc Q' q => ?_) ?_
    · have : d1 = 0 := by have := of_decide_eq_true hc; injection this
      rw [if_pos this] at hm
      rw [hm] at q
      exact q
    · have : d1 ≠ 0 := fun z => by rw [z] at hc; exact absurd hc (by decide)
      rw [if_neg this] at hm
      rw [hm] at q
      exact q
    refine ⟨p, k + 1, m, rfl, pu1, by omega, ⟨by omega, by omega⟩, fun d2 H2 d20 d21 x2 => ⟨_, _, rfl, rfl, ?_⟩⟩
    have x12 := x1.trans x2
    have pu2 := x12.pu _ hp
    refine ⟨⟨_, rfl⟩, _, rfl, _, rfl, by omega, by omega, fun D nD => ?_⟩
    obtain ⟨j, hj⟩ : ∃ j : Nat, (1 + d2).toNat = j := ⟨_, rfl⟩
    rw [hj]
    refine lc_range (lo := 0) (n := j) (fun i H3 => ∃ cs : List Nat, cs.length = i ∧ (∀ c ∈ cs, c ∈ lettersS.cps.toList) ∧ AcX p i H2 D ((cs.map fun c => (⟨#[c]⟩ : Str)).map V.str) H3) ⟨[], rfl, fun c hc => (by cases hc), AcX.start nD (pu2.ne nD)⟩ ?_ ?_
    · rintro i H3 hi ⟨cs, lc, mc, ac⟩
      refine ⟨rfl, _, rfl, p, k + (1 + 1) + i, 26, rfl, ac.ex.pu _ pu2, by omega, ⟨by decide, by decide⟩, fun d4 H4 d40 d41 x4 => ?_⟩
      obtain ⟨c, hc, mc'⟩ := atN (xs := lettersS.cps.toList) d40 (by rw [show lettersS.cps.toList.length = 26 by decide +kernel]; omega)
      refine ⟨lettersS, d4, c, rfl, rfl, by decide +kernel, hc, ?_⟩
      obtain ⟨acc, h1, h2, h3⟩ := ac.step (ys := ((cs ++ [c]).map fun c => (⟨#[c]⟩ : Str)).map V.str) x4 (by rw [List.length_map, List.length_map]; omega) (by rw [List.map_append, List.map_append]; rfl) (e' := i + 1) (by omega)
      refine ⟨acc, h1, h2, cs ++ [c], by rw [List.length_append, lc]; rfl, fun x hx => ?_, h3⟩
      rcases List.mem_append.mp hx with hx | hx
      · exact mc x hx
      · rw [List.mem_singleton.mp hx]; exact mc'
    · rintro H3 ⟨cs, lc, mc, ac⟩
      refine ⟨"", D, _, rfl, rfl, .inl (SqL.of ac.at_), ?_, ?_⟩
      · have e1 : ((cs.map fun c => (⟨#[c]⟩ : Str)).map (·.length)).sum ≤ cs.length := by
          rw [List.map_map]
          clear lc mc ac
          induction cs with
          | nil => exact Nat.le_refl _
          | cons c cs ih => rw [List.map_cons, List.sum_cons, List.length_cons]; show 1 + _ ≤ _; omega
        rw [List.length_map]
        show _ + cs.length * 0 ≤ _
        omega
      · rw [joinS]
        exact go _ H3 (word_of (by omega) (by omega) mc) ((x12.trans ac.ex).mono (by omega))
theorem lt26 : (lettersS.cps.toList.map fun c => (⟨#[c]⟩ : Str)).Nodup ∧ lettersS.cps.toList.length = 26 := by
  refine ⟨?_, by decide +kernel⟩
  decide +kernel
/-- the letters that are not among the words -/
theorem lt_left {ws : List Str} (h : ws.length < 26) : ∃ x r, (lettersS.cps.toList.map fun c => (⟨#[c]⟩ : Str)).filter (fun x => !decide (x ∈ ws)) = x :: r ∧ x ∉ ws ∧ isWord x := by
  cases e : (lettersS.cps.toList.map fun c => (⟨#[c]⟩ : Str)).filter (fun x => !decide (x ∈ ws)) with
  | nil =>
    exfalso
    have all : ∀ x ∈ lettersS.cps.toList.map fun c => (⟨#[c]⟩ : Str), x ∈ ws := fun x hx => by
      have := List.filter_eq_nil_iff.mp e x hx
      simpa using this
    have := sub_len lt26.1 all
    rw [List.length_map, lt26.2] at this
    omega
  | cons x r =>
    have hx : x ∈ (lettersS.cps.toList.map fun c => (⟨#[c]⟩ : Str)).filter (fun x => !decide (x ∈ ws)) := by rw [e]; exact List.mem_cons_self
    obtain ⟨h1, h2⟩ := List.mem_filter.mp hx
    obtain ⟨c, hc, e2⟩ := List.mem_map.mp h1
    refine ⟨x, r, rfl, by simpa using h2, ?_⟩
    rw [← e2]
    exact word_of (cs := [c]) (by show 0 < 1; decide) (by show 1 < 9; decide) fun d hd => by rw [List.mem_singleton.mp hd]; exact hc
def spWds : Sp := fun vs H Q _ => ∃ (p : Addr) (k m : Nat), vs = [.ref p, .int m] ∧ Pu p k H ∧ k ≤ 800000000 ∧ m ≤ 8 ∧ ∀ (q : Addr) (ws : List Str) (H' : Hp), Ext p 200 H H' → H q = none → H' q = some (.lst (ws.map V.str)) → ws.length = m → ws.Nodup → (∀ x ∈ ws, isWord x) → Q (.ref q) H'
theorem sc_law_words : FnScope ["_law_purse_here", "_law_many", "_law_spin", "_law_base", "_law_near", "_law_spot", "_law_found", "_law_word_here", "_law_letter"] ["_law_purse_here", "_law_many"] (defScope s_law_words) := ⟨rfl, rfl, rfl, by decide +kernel, rfl, by decide +kernel, by decide +kernel⟩
theorem bd_law_words : BindsOf "_law_words" "_law_words" s_law_words ["_law_purse_here", "_law_many"] := fun _ _ _ _ _ _ us hl => match us, hl with | [_, _], _ => rfl
theorem d_words (T : Tp K mg a) (D_law_draw : DfDraw P w K mg base n) (D_law_word : Df P w K mg base n "_law_word" ["_law_purse_here"] spWd) : Df P w K mg base (n + 1) "_law_words" ["_law_purse_here", "_law_many"] spWds := by
  refine df_mk T 36 rfl sc_law_words bd_law_words (fun vs H Q E h => ?_) (fun f cdv A outer s H vs Q E hr h => ?_)
  · obtain ⟨p, k, m, rfl, _⟩ := h
    rfl
  · obtain ⟨p, k, m, rfl, hp, hk, hm, go⟩ := h
    have hs := szl
    refine ⟨_, (pss_cons (ps_par (i := 3) (j := 4) (by rfl) sc_law_words.nd rfl rfl (by decide) rfl rfl (pa_cons (pe_f D_law_word hr (by rfl) (pa_cons (pv 0) pa_nil)) (pa_cons (pe_cmpR op_eq (pe_f D_law_draw hr (by rfl) (pa_cons (pv 0) (pa_cons pe_int pa_nil))) pe_int (nomark _)) pa_nil)) (by rfl))
    (pss_cons (ps_asg (pe_tup (pa_cons (pe_f D_law_draw hr (by rfl) (pa_cons (pv 0) (pa_cons (pe_callB call_len_str (by rfl) T.f_len PySem.boot_len (pa_cons (pv 3) pa_nil)) pa_nil))) (pa_cons (pe_lst pa_nil) pa_nil))) (pg_tup rfl (pgs_cons (pg_name (i := 5) sc_law_words.nd rfl (Or.inl rfl)) (pgs_cons (pg_name (i := 6) sc_law_words.nd rfl (Or.inr rfl)) pgs_nil))))
    (pss_cons (ps_for PassesOwn.never rfl (pi_range1 (by rfl) T.f_range (pa_cons (pv 1) pa_nil)) (pg_name (i := 2) sc_law_words.nd rfl (Or.inl rfl))
      (pss_cons (ps_set (i := 7) sc_law_words.nd rfl (Or.inl rfl) (pe_op op_add_str (pe_op op_add_str (pe_slice sl_str (pv 3) po_none (po_some (pv 5))) (pe_ix ix_str pe_str (pe_f D_law_draw hr (by rfl) (pa_cons (pv 0) (pa_cons pe_int pa_nil))) (fun _ _ => rfl))) (pe_slice sl_str (pv 3) (po_some (pe_op op_add (pv 5) pe_int)) po_none)))
      (C8.pss_cut (ps_if (pt_not (pt_val (pv 4)))
        (pss_one (ps_set (i := 7) sc_law_words.nd rfl (Or.inl rfl) (pe_f D_law_word hr (by rfl) (pa_cons (pv 0) pa_nil))))
        pss_nil)
      (C8.pss_cut (ps_if (pt_cmpR (op_in_seqK (K := K) rfl) (pv 7) (pv 6) (by rfl))
        (pss_one (ps_set (i := 7) sc_law_words.nd rfl (Or.inl rfl) (pe_ix (ix_listK (K := K) rfl) (pe_lc (own := [("_law_letter", 8)]) rfl sc_law_words.nd (pi_listK (K := K) rfl (pe_callTy (call_listStr rfl) (by rfl) T.f_list (by decide +kernel) (pa_cons pe_str pa_nil))) (blkOk_by (own := [("_law_letter", 8)]) (N := ["_law_purse_here", "_law_many", "_law_spin", "_law_base", "_law_near", "_law_spot", "_law_found", "_law_word_here", "_law_letter"]) (sc := defScope s_law_words) (by decide +kernel)) (fun _ _ _ _ _ => (pg_name (i := 8) sc_law_words.nd rfl (Or.inl rfl))) (fun _ _ _ _ _ => (pts_one (pt_cmpR (op_notIn_seqK (K := K) rfl) (pv 8) (pv 6) (by rfl)))) (fun _ _ _ _ _ => (pv 8))) pe_int (fun _ _ => rfl))))
        pss_nil)
      (pss_one (ps_expr (pe_bm PySem.F.plainAttrs_list PySem.F.slot_list_append PySem.F.type_list_append mt_append (pv 6) (pa_cons (pv 7) pa_nil))))))))
    (pss_one (ps_ret (pv 6)))))), ?_⟩
    refine ⟨_, rfl, p, k, rfl, hp, by omega, fun b0 H1 wb x1 => ?_⟩
    have pu1 := x1.pu _ hp
    refine ⟨_, rfl, p, _, 3, rfl, pu1, by omega, ⟨by decide, by decide⟩, fun d1 H2 d10 d11 x2 => ⟨rfl, _, _, rfl, ?_⟩⟩
    have x02 := x1.trans x2
    have pu2 := x02.pu _ hp
    obtain ⟨nr, hnr⟩ : ∃ c : Bool, decide (V.int d1 = V.int 0) = c := ⟨_, rfl⟩
    rw [hnr]
    have bl : b0.length = b0.cps.size := rfl
    obtain ⟨b1, b2, b3⟩ := id wb
    refine ⟨_, rfl, _, rfl, b0, rfl, by omega, p, _, _, rfl, pu2, by omega, ⟨by omega, by omega⟩, fun d3 H3 d30 d31 x3 => ?_⟩
    have x03 := x02.trans x3
    have pu3 := x03.pu _ hp
    refine ⟨Nat.zero_le _, fun q4 n4 => ?_⟩
    have q4p := pu3.ne n4
    have x04 := x03.upd0 (q := q4) (o := .lst []) (by
      cases hq : H q4 with
      | none => rfl
      | some o => exact absurd (x03.keep _ _ q4p hq) (by rw [n4]; exact fun z => nomatch z))
    have f4 : upd H3 q4 (.lst []) q4 = some (.lst []) := upd_same
    have n04 := x03.no hp n4
    generalize upd H3 q4 (.lst []) = H4 at x04 f4
    have pu4 := x04.pu _ hp
    refine ⟨Nat.le_trans (by decide : 2 ≤ 4096) hs, fun q5 n5 => ?_⟩
    generalize g5 : upd _ q5 _ = H5
    obtain ⟨s5, f5⟩ := new_of n5 g5
    have x05 := x04.same s5
    refine ⟨q5, _, rfl, SqT.of f5, rfl, _, _, rfl, _, _, rfl, rfl, ?_⟩
    refine ⟨_, rfl, m, rfl, by omega, by omega, ?_⟩
    refine for_range (lo := 0) (n := (m : Int).toNat) (fun i σ H6 => ∃ (ws : List Str) (u u7 : Option V), AcX p (12 + 20 * i) H q4 (ws.map V.str) H6 ∧ ws.length = i ∧ ws.Nodup ∧ (∀ x ∈ ws, isWord x) ∧
      σ = [some (.ref p), some (.int m), u, some (.str b0), some (.bl nr), some (.int d3), some (.ref q4), u7, none]) ⟨[], none, none, ⟨x05.mono (by omega), n04, q4p, s5 _ _ f4⟩, rfl, List.nodup_nil, fun x hx => (by cases hx), rfl⟩ ?_ ?_
    · rintro i σ H6 hi ⟨ws, u, u7, ac, lw, nw, mw, rfl⟩
      have hi8 : i < 8 := by omega
      have pu6 := ac.ex.pu _ hp
      refine ⟨_, rfl, _, rfl, _, rfl, b0, rfl, by omega, ?_⟩
      refine ⟨_, rfl, p, _, 26, rfl, pu6, by omega, ⟨by decide, by decide⟩, fun d7 H7 d70 d71 x7 => ?_⟩
      obtain ⟨c, hc, mc⟩ := atN (xs := lettersS.cps.toList) d70 (by rw [lt26.2]; omega)
      have wz : isWord (cutS b0 none (some d3) ++ (⟨#[c]⟩ : Str) ++ cutS b0 (some (d3 + 1)) none) := word_cut wb d30 (by omega) mc
      refine ⟨lettersS, d7, c, rfl, rfl, by decide +kernel, hc, _, _, rfl, rfl, ?_, _, rfl, _, rfl, _, _, rfl, rfl, _, rfl, b0, rfl, by omega, _, _, rfl, rfl, ?_, ?_⟩
      · have := cutS_length b0 none (some d3)
        show _ + 1 ≤ _
        omega
      · have h1 := cutS_length b0 none (some d3)
        have h2 := cutS_length b0 (some (d3 + 1)) none
        have h3 : ((cutS b0 none (some d3)) ++ (⟨#[c]⟩ : Str)).length = (cutS b0 none (some d3)).length + 1 := by
          show ((cutS b0 none (some d3)).cps ++ #[c]).size = _
          rw [Array.size_append]
          rfl
        omega
      generalize cutS b0 none (some d3) ++ (⟨#[c]⟩ : Str) ++ cutS b0 (some (d3 + 1)) none = z at wz
      have x07 := ac.ex.trans x7
      have f7 := x7.keep _ _ q4p ac.at_
      refine ⟨fun σ' H' => ∃ z, isWord z ∧ Ext p (12 + 20 * i + 11) H H' ∧ H' q4 = some (.lst (ws.map V.str)) ∧ σ' = [some (.ref p), some (.int m), some (.int (0 + (i : Int))), some (.str b0), some (.bl nr), some (.int d3), some (.ref q4), some (.str z), none], ?_, ?_⟩
      · refine ⟨_, rfl, _, rfl, ?_⟩
        cases nr with
        | true =>
          refine ifF ?_
          exact ⟨z, wz, x07.mono (by omega), f7, rfl⟩
        | false =>
          refine ifT ?_
          have pu7 := x07.pu _ hp
          refine ⟨_, rfl, p, _, rfl, pu7, by omega, fun y H8 wy x8 => ?_⟩
          exact ⟨y, wy, (x07.trans x8).mono (by omega), x8.keep _ _ q4p f7, rfl⟩
      clear x07 f7 wz z x7
      rintro σ' H8 ⟨z, wz, x08, f8, rfl⟩
      refine ⟨fun σ' H' => ∃ z, isWord z ∧ z ∉ ws ∧ Ext p (12 + 20 * i + 11) H H' ∧ H' q4 = some (.lst (ws.map V.str)) ∧ σ' = [some (.ref p), some (.int m), some (.int (0 + (i : Int))), some (.str b0), some (.bl nr), some (.int d3), some (.ref q4), some (.str z), none], ?_, ?_⟩
      · refine ⟨_, rfl, _, rfl, q4, _, rfl, .inl (SqL.of f8), rfl, flat_strs _, _, rfl, ?_⟩
        rw [show (if false = true then !inV (V.str z) (ws.map V.str) else inV (V.str z) (ws.map V.str)) = decide (z ∈ ws) from inV_strs z ws]
        by_cases hz : z ∈ ws
        · rw [decide_eq_true hz]
          refine ifT ?_
          refine ⟨lettersS, rfl, by decide +kernel, fun q9 n9 => ?_⟩
          have pu8 := x08.pu _ hp
          generalize g9 : upd _ q9 _ = H9
          obtain ⟨s9, f9⟩ := new_of n9 g9
          refine ⟨q9, rfl, ⟨_, SqL.of f9⟩, fun D nD => ?_⟩
          refine lc_list (xs := lettersS.cps.toList.map fun c => V.str ⟨#[c]⟩) (fun i H1 => Ac H9 D ((((lettersS.cps.toList.map fun c => (⟨#[c]⟩ : Str)).take i).filter (fun x => !decide (x ∈ ws))).map V.str) H1) (Ac.start nD) (fun i H1 _ hv => SqL.of (hv.sm _ _ f9)) ?_ ?_
          · intro j v H10 hj hv
            have hj26 := (List.getElem?_eq_some_iff.mp hj).1
            rw [List.length_map, lt26.2] at hj26
            rw [List.getElem?_map] at hj
            obtain ⟨c, hc, rfl⟩ := Option.map_eq_some_iff.mp hj
            have gj : (lettersS.cps.toList.map fun c => (⟨#[c]⟩ : Str))[j]? = some ⟨#[c]⟩ := by rw [List.getElem?_map, hc]; rfl
            refine ⟨rfl, _, rfl, _, rfl, q4, _, rfl, .inl (SqL.of (hv.sm _ _ (s9 _ _ f8))), rfl, flat_strs _, _, rfl, ?_⟩
            rw [show (if true = true then !inV (V.str (⟨#[c]⟩ : Str)) (ws.map V.str) else inV (V.str (⟨#[c]⟩ : Str)) (ws.map V.str)) = !decide ((⟨#[c]⟩ : Str) ∈ ws) from by rw [if_pos rfl, inV_strs]]
            have tk : ((lettersS.cps.toList.map fun c => (⟨#[c]⟩ : Str)).take (j + 1)).filter (fun x => !decide (x ∈ ws)) = ((lettersS.cps.toList.map fun c => (⟨#[c]⟩ : Str)).take j).filter (fun x => !decide (x ∈ ws)) ++ if (⟨#[c]⟩ : Str) ∈ ws then [] else [(⟨#[c]⟩ : Str)] := by
              rw [List.take_add_one, gj, List.filter_append]
              congr 1
              show List.filter _ [_] = _
              by_cases h : (⟨#[c]⟩ : Str) ∈ ws <;> simp [h]
            by_cases h : (⟨#[c]⟩ : Str) ∈ ws
            · rw [decide_eq_true h]
              rw [if_pos h, List.append_nil] at tk
              refine ifF ?_
              rw [tk]
              exact hv
            · rw [decide_eq_false h]
              rw [if_neg h] at tk
              refine ifT ⟨_, rfl, hv.step (Same.refl _) ?_ ?_⟩
              · rw [List.length_map]
                have h1 := List.length_filter_le (fun x => !decide (x ∈ ws)) ((lettersS.cps.toList.map fun c => (⟨#[c]⟩ : Str)).take j)
                rw [List.length_take] at h1
                omega
              · rw [tk, List.map_append]; rfl
          · intro H10 hv
            rw [List.length_map, show lettersS.cps.toList.length = (lettersS.cps.toList.map fun c => (⟨#[c]⟩ : Str)).length by rw [List.length_map], List.take_length] at hv
            obtain ⟨x, r, er, nx, wx⟩ := lt_left (ws := ws) (by omega)
            have eD := hv.at_
            rw [er] at eD
            refine ⟨D, _, 0, .str x, rfl, rfl, SqL.of eD, at0 _ _, ?_⟩
            exact ⟨x, wx, nx, (x08.same (s9.trans hv.sm)).mono (by omega), hv.sm _ _ (s9 _ _ f8), rfl⟩
        · rw [decide_eq_false hz]
          refine ifF ?_
          exact ⟨z, wz, hz, x08, f8, rfl⟩
      clear x08 f8 wz z
      rintro σ' H9 ⟨z, wz, hz, x09, f9, rfl⟩
      refine ⟨_, rfl, .inl ⟨rfl, _, SqL.of f9⟩, _, rfl, q4, _, .str z, rfl, rfl, f9, by rw [List.length_map]; omega, ?_⟩
      refine ⟨ws ++ [z], _, _, ⟨(x09.upd0 n04).mono (by omega), n04, q4p, by rw [List.map_append]; exact upd_same⟩, by rw [List.length_append, lw]; rfl, ?_, fun x hx => ?_, rfl⟩
      · rw [List.nodup_append]
        refine ⟨nw, by simp, fun u hu v hv => ?_⟩
        rw [List.mem_singleton] at hv
        subst hv
        exact fun e => hz (e ▸ hu)
      · rcases List.mem_append.mp hx with hx | hx
        · exact mw x hx
        · rw [List.mem_singleton.mp hx]; exact wz
    · rintro σ H6 ⟨ws, u, u7, ac, lw, nw, mw, rfl⟩
      refine ⟨_, rfl, go q4 ws H6 (ac.ex.mono (by omega)) n04 ac.at_ (by omega) nw mw⟩
end
end K12

set_option maxHeartbeats 4000000
/-! Tables of numbers, as dicts. -/
namespace K12
open PySem PySem.Spec L2
def keyI (x y : Nat) : List Key := [.inl (x : Int), .inl (y : Int)]
theorem keyI_inj {a b c d : Nat} (h : keyI a b = keyI c d) : a = c ∧ b = d := by
  unfold keyI at h
  injection h with h1 h2
  injection h2 with h2 _
  have e1 := Sum.inl.inj h1
  have e2 := Sum.inl.inj h2
  exact ⟨by omega, by omega⟩
/-- the dict holds just this -/
structure Rep (kvs : List (List Key × V)) (f : Nat → Nat → Option Nat) : Prop where
  nd : (kvs.map (·.1)).Nodup
  to : ∀ e ∈ kvs, ∃ x y v, e = (keyI x y, V.int (v : Nat)) ∧ f x y = some v
  fro : ∀ x y v, f x y = some v → (keyI x y, V.int (v : Nat)) ∈ kvs
theorem Rep.nil : Rep [] fun _ _ => none := ⟨List.nodup_nil, fun e h => (by cases h), fun x y v h => (by cases h)⟩
theorem Rep.val {kvs : List (List Key × V)} {f : Nat → Nat → Option Nat} (h : Rep kvs f) {x y v : Nat} (e : f x y = some v) : valV kvs (keyI x y) = some (.int (v : Nat)) := valV_nodup h.nd (h.fro x y v e)
theorem Rep.put {kvs : List (List Key × V)} {f : Nat → Nat → Option Nat} (h : Rep kvs f) (x y v : Nat) : Rep (putK kvs (keyI x y) (.int (v : Nat))) fun a b => if a = x ∧ b = y then some v else f a b := by
  by_cases hk : keyI x y ∈ kvs.map (·.1)
  · obtain ⟨u, hu⟩ := valV_some hk
    have ha : (kvs.any fun kv => decide (kv.1 = keyI x y)) = true := by rw [valV_any, hu]; rfl
    have pe : putK kvs (keyI x y) (.int (v : Nat)) = kvs.map fun kv => if kv.1 = keyI x y then (kv.1, V.int (v : Nat)) else kv := by unfold putK; rw [if_pos ha]
    rw [pe]
    refine ⟨?_, fun e he => ?_, fun a b c hc => ?_⟩
    · rw [List.map_map, show (kvs.map ((·.1) ∘ fun kv => if kv.1 = keyI x y then (kv.1, V.int (v : Nat)) else kv)) = kvs.map (·.1) from List.map_congr_left fun kv _ => by
        show (if kv.1 = keyI x y then (kv.1, V.int (v : Nat)) else kv).1 = kv.1
        split <;> rfl]
      exact h.nd
    · obtain ⟨kv, hkv, e2⟩ := List.mem_map.mp he
      obtain ⟨a, b, c, e3, hc⟩ := h.to kv hkv
      by_cases hk2 : kv.1 = keyI x y
      · rw [if_pos hk2] at e2
        exact ⟨x, y, v, by rw [← e2, hk2], by rw [if_pos ⟨rfl, rfl⟩]⟩
      · rw [if_neg hk2] at e2
        refine ⟨a, b, c, by rw [← e2]; exact e3, ?_⟩
        rw [if_neg (fun z => hk2 (by rw [e3]; show keyI a b = _; rw [z.1, z.2]))]
        exact hc
    · by_cases hab : a = x ∧ b = y
      · rw [if_pos hab] at hc
        cases hc
        obtain ⟨kv, hkv, e⟩ := List.mem_map.mp hk
        refine List.mem_map.mpr ⟨kv, hkv, ?_⟩
        have e' : kv.1 = keyI x y := e
        rw [if_pos e', e', hab.1, hab.2]
      · rw [if_neg hab] at hc
        refine List.mem_map.mpr ⟨_, h.fro a b c hc, ?_⟩
        rw [if_neg (fun z => hab (keyI_inj z))]
  · have hn := valV_none hk
    rw [putK_new _ hn]
    refine ⟨?_, fun e he => ?_, fun a b c hc => ?_⟩
    · rw [List.map_append, List.nodup_append]
      refine ⟨h.nd, by simp, fun u hu w hw => ?_⟩
      rw [List.map_cons, List.map_nil, List.mem_singleton] at hw
      subst hw
      exact fun e => hk (by rw [show keyI x y = u from e.symm]; exact hu)
    · rcases List.mem_append.mp he with he | he
      · obtain ⟨a, b, c, e3, hc⟩ := h.to e he
        refine ⟨a, b, c, e3, ?_⟩
        rw [if_neg (fun z => hk (List.mem_map.mpr ⟨e, he, by rw [e3]; show keyI a b = _; rw [z.1, z.2]⟩))]
        exact hc
      · rw [List.mem_singleton] at he
        exact ⟨x, y, v, he, by rw [if_pos ⟨rfl, rfl⟩]⟩
    · by_cases hab : a = x ∧ b = y
      · rw [if_pos hab] at hc
        cases hc
        rw [hab.1, hab.2]
        exact List.mem_append.mpr (.inr List.mem_cons_self)
      · rw [if_neg hab] at hc
        exact List.mem_append.mpr (.inl (h.fro a b c hc))
theorem Rep.len {kvs : List (List Key × V)} {f : Nat → Nat → Option Nat} (h : Rep kvs f) (hb : ∀ x y v, f x y = some v → x < 6 ∧ y < 6) : kvs.length ≤ 36 := by
  have h1 := sub_len (l := kvs.map (·.1)) (ws := (List.range 6).flatMap fun x => (List.range 6).map fun y => keyI x y) h.nd fun k hk => by
    obtain ⟨e, he, rfl⟩ := List.mem_map.mp hk
    obtain ⟨x, y, v, e1, hv⟩ := h.to e he
    have := hb x y v hv
    rw [e1]
    exact List.mem_flatMap.mpr ⟨x, List.mem_range.mpr this.1, List.mem_map.mpr ⟨y, List.mem_range.mpr this.2, rfl⟩⟩
  rw [List.length_map] at h1
  exact Nat.le_trans h1 (by decide)
/-- filled by rows: i rows, and j of the next -/
def Fil (m : Nat) (f : Nat → Nat → Nat) (i j : Nat) : Nat → Nat → Option Nat := fun a b => if (a < i ∧ b < m) ∨ (a = i ∧ b < j) then some (f a b) else none
theorem Fil.zero (m : Nat) (f : Nat → Nat → Nat) : Fil m f 0 0 = fun _ _ => none := by
  funext a b
  unfold Fil
  rw [if_neg (by omega)]
theorem Fil.row (m : Nat) (f : Nat → Nat → Nat) (i : Nat) : Fil m f i m = Fil m f (i + 1) 0 := by
  funext a b
  unfold Fil
  by_cases h : (a < i ∧ b < m) ∨ (a = i ∧ b < m)
  · rw [if_pos h, if_pos (by omega)]
  · rw [if_neg h, if_neg (by omega)]
theorem Fil.step {kvs : List (List Key × V)} {m i j : Nat} {f : Nat → Nat → Nat} (h : Rep kvs (Fil m f i j)) (hj : j < m) : Rep (putK kvs (keyI i j) (.int (f i j : Nat))) (Fil m f i (j + 1)) := by
  have := h.put i j (f i j)
  rw [show (fun a b => if a = i ∧ b = j then some (f i j) else Fil m f i j a b) = Fil m f i (j + 1) from by
    funext a b
    unfold Fil
    by_cases h1 : a = i ∧ b = j
    · rw [if_pos h1, if_pos (by omega), h1.1, h1.2]
    · rw [if_neg h1]
      by_cases h2 : (a < i ∧ b < m) ∨ (a = i ∧ b < j)
      · rw [if_pos h2, if_pos (by omega)]
      · rw [if_neg h2, if_neg (by omega)]] at this
  exact this
/-- a whole table -/
def Full (m : Nat) (f : Nat → Nat → Nat) : Nat → Nat → Option Nat := fun a b => if a < m ∧ b < m then some (f a b) else none
theorem Fil.full (m : Nat) (f : Nat → Nat → Nat) : Fil m f m 0 = Full m f := by
  funext a b
  unfold Fil Full
  by_cases h : a < m ∧ b < m
  · rw [if_pos h, if_pos (by omega)]
  · rw [if_neg h, if_neg (by omega)]
theorem Fil.in {m i j : Nat} {f : Nat → Nat → Nat} (hi : i ≤ 5) (hm : m ≤ 5) (hj : j ≤ m) : ∀ x y v, Fil m f i j x y = some v → x < 6 ∧ y < 6 := by
  intro x y v h
  unfold Fil at h
  split at h
  · omega
  · cases h
theorem Full.get {m x y : Nat} {f : Nat → Nat → Nat} (hx : x < m) (hy : y < m) : Full m f x y = some (f x y) := if_pos ⟨hx, hy⟩
theorem Full.in {m : Nat} {f : Nat → Nat → Nat} (hm : m ≤ 5) : ∀ x y v, Full m f x y = some v → x < 6 ∧ y < 6 := by
  intro x y v h
  unfold Full at h
  split at h
  · omega
  · cases h
/-- a new dict, filled -/
structure Fd (H : Hp) (D : Addr) (f : Nat → Nat → Option Nat) (H1 : Hp) : Prop where
  sm : Same H H1
  nw : H D = none
  ex : ∃ kvs, H1 D = some (.dT kvs) ∧ Rep kvs f
theorem Fd.start {H : Hp} {D : Addr} (n : H D = none) : Fd H D (fun _ _ => none) (upd H D (.dT [])) := ⟨same_new n, n, [], upd_same, .nil⟩
theorem Fd.sml {H H1 H2 : Hp} {D : Addr} {f : Nat → Nat → Option Nat} (h : Fd H D f H1) (s : Same H1 H2) : Fd H D f H2 := by
  obtain ⟨kvs, e, r⟩ := h.ex
  exact ⟨h.sm.trans s, h.nw, kvs, s _ _ e, r⟩
/-- d[x, y] = v -/
theorem Fd.put {H H1 H2 : Hp} {D q : Addr} {f g : Nat → Nat → Option Nat} {x y v : Nat} (h : Fd H D f H1) (s : Same H1 H2) (hq : H2 q = some (.tup [.int (x : Nat), .int (y : Nat)])) (hb : ∀ x y v, f x y = some v → x < 6 ∧ y < 6)
    (hg : ∀ kvs, Rep kvs f → Rep (putK kvs (keyI x y) (.int (v : Nat))) g) : ∃ H3, DPut H2 D (.ref q) (.int (v : Nat)) H3 ∧ Fd H D g H3 := by
  obtain ⟨kvs, e, r⟩ := h.ex
  have e2 := s _ _ e
  have szb : 4000000 ≤ sizeLine := by decide
  have := r.len hb
  refine ⟨upd H2 D (.dT (putK kvs (keyI x y) (.int (v : Nat)))), .inr ⟨kvs, keyI x y, q, e2, rfl, hq, by omega, rfl⟩, Same.upd0 (h.sm.trans s) h.nw, h.nw, _, upd_same, hg kvs r⟩
/-- a table of numbers at t -/
def TbAt (H : Hp) (t : Addr) (m : Nat) (f : Nat → Nat → Nat) : Prop := ∃ kvs, H t = some (.dT kvs) ∧ Rep kvs (Full m f)
theorem TbAt.sm {H H' : Hp} {t : Addr} {m : Nat} {f : Nat → Nat → Nat} (h : TbAt H t m f) (s : Same H H') : TbAt H' t m f := h.elim fun kvs h => ⟨kvs, s _ _ h.1, h.2⟩
theorem TbAt.get {H : Hp} {t q : Addr} {m x y : Nat} {f : Nat → Nat → Nat} (h : TbAt H t m f) (hq : H q = some (.tup [.int (x : Nat), .int (y : Nat)])) (hx : x < m) (hy : y < m) : DGet H t (.ref q) (some (.int (f x y : Nat))) := by
  obtain ⟨kvs, e, r⟩ := h
  exact .inr ⟨kvs, keyI x y, q, .inl e, rfl, hq, (r.val (Full.get hx hy)).symm⟩
theorem TbAt.of {H H1 : Hp} {D : Addr} {m : Nat} {f : Nat → Nat → Nat} (h : Fd H D (Fil m f m 0) H1) : TbAt H1 D m f := by
  obtain ⟨kvs, e, r⟩ := h.ex
  rw [Fil.full] at r
  exact ⟨kvs, e, r⟩
end K12

set_option maxHeartbeats 4000000
/-! The tables that are drawn. -/
namespace K12
open PySem PySem.Spec L2
def mn (i j : Int) : Int := if j < i then j else i
def red (m r : Int) : Int := r - (m - 1) * (if decide (m < r) = true then 1 else 0)
def redN : Nat → Int → Int → Int
  | 0, _, r => r
  | n + 1, m, r => red m (redN n m r)
def plainL (m x y : Int) : List Int := [x, y, 0, mn x y, (x + y) % m, mn (x + y + 1) (m - 1), if x = y then x else 0, mn (redN 4 m (x + y + 2)) m - 1]
def plainF (w m x y : Nat) : Nat := ((plainL m x y).getD w 0).toNat
theorem plain_ok : ∀ w < 8, ∀ m < 5, ∀ x < m, ∀ y < m, (plainL (m : Nat) (x : Nat) (y : Nat))[w]? = some (plainF w m x y : Nat) := by decide +kernel
theorem plain_in : ∀ w < 8, ∀ m < 5, ∀ x < m, ∀ y < m, plainF w m x y < m := by decide +kernel
section
variable {P : Program} {w : World} {K : PySem.W.Frag} {mg : Str → Option Value} {base : Heap} {a : Ad} {n : Nat}
def spPl : Sp := fun vs H Q _ => ∃ (y m : Nat), vs = [.int (y : Nat), .int (m : Nat)] ∧ y < 8 ∧ 1 ≤ m ∧ m ≤ 4 ∧ ∀ q H', Same H H' → H q = none → TbAt H' q m (plainF y m) → Q (.ref q) H'
theorem sc_law_plain_table : FnScope ["_law_way", "_law_many", "_law_told", "_law_x", "_law_y", "_law_raised", "_law_spin", "_law_some"] ["_law_way", "_law_many"] (defScope s_law_plain_table) := ⟨rfl, rfl, rfl, by decide +kernel, rfl, by decide +kernel, by decide +kernel⟩
theorem bd_law_plain_table : BindsOf "_law_plain_table" "_law_plain_table" s_law_plain_table ["_law_way", "_law_many"] := fun _ _ _ _ _ _ us hl => match us, hl with | [_, _], _ => rfl
theorem d_plain (T : Tp K mg a) : Df P w K mg base (n + 1) "_law_plain_table" ["_law_way", "_law_many"] spPl := by
  refine df_mk T 37 rfl sc_law_plain_table bd_law_plain_table (fun vs H Q E h => ?_) (fun f cdv A outer s H vs Q E hr h => ?_)
  · obtain ⟨y, m, rfl, _⟩ := h
    rfl
  · obtain ⟨wy, m, rfl, hw, h1, hm, go⟩ := h
    have hu := hu1 hr
    have hs := szl
    refine ⟨_, (pss_cons (ps_set (i := 2) sc_law_plain_table.nd rfl (Or.inl rfl) pe_dnewT)
    (pss_cons (ps_for PassesOwn.never rfl (pi_range1 (by rfl) T.f_range (pa_cons (pv 1) pa_nil)) (pg_name (i := 3) sc_law_plain_table.nd rfl (Or.inl rfl))
      (pss_one (ps_for PassesOwn.never rfl (pi_range1 (by rfl) T.f_range (pa_cons (pv 1) pa_nil)) (pg_name (i := 4) sc_law_plain_table.nd rfl (Or.inl rfl))
        (pss_cons (ps_set (i := 5) sc_law_plain_table.nd rfl (Or.inl rfl) (pe_op op_add (pe_op op_add (pv 3) (pv 4)) pe_int))
        (pss_cons (ps_for PassesOwn.never rfl (pi_range1 (by rfl) T.f_range (pa_cons pe_int pa_nil)) (pg_name (i := 6) sc_law_plain_table.nd rfl (Or.inl rfl))
          (pss_one (ps_set (i := 5) sc_law_plain_table.nd rfl (Or.inl rfl) (pe_op op_sub (pv 5) (pe_op op_mul (pe_op op_sub (pv 1) pe_int) (pe_callTy call_int1 (by rfl) T.f_int (by decide +kernel) (pa_cons (pe_cmpR op_gt (pv 5) (pv 1) (nomark _)) pa_nil)))))))
        (pss_cons (ps_set (i := 7) sc_law_plain_table.nd rfl (Or.inl rfl) (pe_lst (pa_cons (pv 3) (pa_cons (pv 4) (pa_cons pe_int (pa_cons (pe_callB (call_min2 rfl) (by rfl) T.f_min (by decide +kernel) (pa_cons (pv 3) (pa_cons (pv 4) pa_nil))) (pa_cons (pe_op op_mod (pe_callTy call_int1 (by rfl) T.f_int (by decide +kernel) (pa_cons (pe_op op_add (pv 3) (pv 4)) pa_nil)) (pv 1)) (pa_cons (pe_callB (call_min2 rfl) (by rfl) T.f_min (by decide +kernel) (pa_cons (pe_op op_add (pe_op op_add (pv 3) (pv 4)) pe_int) (pa_cons (pe_op op_sub (pv 1) pe_int) pa_nil))) pa_nil))))))))
        (pss_one (ps_dput hu (pv 2) (pe_tup (pa_cons (pv 3) (pa_cons (pv 4) pa_nil))) (pe_ix (ix_listK (K := K) rfl) (pe_op op_cat (pv 7) (pe_lst (pa_cons (pe_ifExp (pt_cmpR op_eq (pv 3) (pv 4) (nomark _)) (pv 3) pe_int) (pa_cons (pe_op op_sub (pe_callB (call_min2 rfl) (by rfl) T.f_min (by decide +kernel) (pa_cons (pv 5) (pa_cons (pv 1) pa_nil))) pe_int) pa_nil)))) (pv 0) (fun _ _ => rfl)) rfl))))))))
    (pss_one (ps_ret (pv 2))))), ?_⟩
    refine fun D nD => ?_
    refine ⟨_, rfl, m, rfl, by omega, by omega, ?_⟩
    refine for_range (lo := 0) (n := (m : Int).toNat) (fun i σ H1 => Fd H D (Fil m (plainF wy m) i 0) H1 ∧ ∃ (u3 u4 u5 u6 u7 : Option V), σ = [some (.int (wy : Nat)), some (.int (m : Nat)), some (.ref D), u3, u4, u5, u6, u7]) ⟨by rw [Fil.zero]; exact Fd.start nD, _, _, _, _, _, rfl⟩ ?_ ?_
    · rintro i σ H1 hi ⟨fd, u3, u4, u5, u6, u7, rfl⟩
      have him : i < m := by omega
      refine ⟨_, rfl, m, rfl, by omega, by omega, ?_⟩
      refine for_range (lo := 0) (n := (m : Int).toNat) (fun j σ H1 => Fd H D (Fil m (plainF wy m) i j) H1 ∧ ∃ (u4 u5 u6 u7 : Option V), σ = [some (.int (wy : Nat)), some (.int (m : Nat)), some (.ref D), some (.int (i : Nat)), u4, u5, u6, u7]) ⟨fd, u4, u5, u6, u7, by rw [show (0 : Int) + (i : Nat) = (i : Nat) by omega]; rfl⟩ ?_ ?_
      · rintro j σ H2 hj ⟨fd, u4, u5, u6, u7, rfl⟩
        have hjm : j < m := by omega
        rw [show (0 : Int) + (j : Nat) = (j : Nat) by omega]
        refine ⟨_, rfl, _, rfl, _, _, rfl, rfl, _, _, rfl, rfl, ?_⟩
        refine ⟨_, rfl, by decide, by decide, ?_⟩
        refine for_range (lo := 0) (n := 4) (fun l σ H3 => H3 = H2 ∧ ∃ (u6 u7 : Option V), σ = [some (.int (wy : Nat)), some (.int (m : Nat)), some (.ref D), some (.int (i : Nat)), some (.int (j : Nat)), some (.int (redN l m ((i : Nat) + (j : Nat) + 2))), u6, u7]) ⟨rfl, u6, u7, rfl⟩ ?_ ?_
        · rintro l σ H3 hl ⟨rfl, u6, u7, rfl⟩
          refine ⟨_, rfl, _, rfl, _, _, rfl, rfl, _, rfl, _, rfl, _, _, rfl, rfl, .inr ⟨_, rfl, _, _, rfl, rfl, .inl ⟨by omega, by omega⟩, _, _, rfl, rfl, ?_⟩⟩
          exact ⟨rfl, _, _, rfl⟩
        · rintro σ H3 ⟨rfl, u6, u7, rfl⟩
          refine ⟨_, rfl, _, rfl, _, rfl, _, rfl, _, _, rfl, _, rfl, _, rfl, _, _, rfl, rfl, .inl ⟨_, rfl, _, rfl, _, _, rfl, rfl, (by show (0 : Int) < (m : Int); omega), _, rfl, _, rfl, _, _, rfl, rfl, _, _, rfl, rfl, _, rfl, _, _, rfl, rfl, _, _, rfl, Nat.le_trans (by decide : 6 ≤ 4096) hs, fun q1 n1 => ?_⟩⟩
          generalize g1 : upd _ q1 _ = H4
          obtain ⟨s1, f1⟩ := new_of n1 g1
          refine ⟨_, rfl, _, rfl, _, rfl, rfl, _, rfl, ?_⟩
          refine if_int (if ((i : Nat) : Int) = (j : Nat) then ((i : Nat) : Int) else 0) (fun hc Q' q => ?_) (fun hc Q' q => ?_) ?_
          · have : ((i : Nat) : Int) = (j : Nat) := by have := of_decide_eq_true hc; injection this
            rw [if_pos this] at q
            exact ⟨_, rfl, q⟩
          · have : ¬ ((i : Nat) : Int) = (j : Nat) := fun z => of_decide_eq_false hc (by rw [z])
            rw [if_neg this] at q
            exact q
          refine ⟨_, rfl, _, rfl, _, _, rfl, _, _, rfl, rfl, Nat.le_trans (by decide : 2 ≤ 4096) hs, fun q2 n2 => ?_⟩
          generalize g2 : upd _ q2 _ = H5
          obtain ⟨s2, f2⟩ := new_of n2 g2
          refine ⟨q1, q2, _, _, rfl, rfl, s2 _ _ f1, f2, Nat.le_trans (by decide : 8 ≤ 4096) hs, fun q3 n3 => ?_⟩
          generalize g3 : upd _ q3 _ = H6
          obtain ⟨s3, f3⟩ := new_of n3 g3
          have hpo := plain_ok wy hw m (by omega) i him j hjm
          refine ⟨_, rfl, q3, (plainL (m : Nat) (i : Nat) (j : Nat)).map V.int, _, _, rfl, rfl, SqL.of f3, at_of (j := wy) rfl (by rw [List.getElem?_map, hpo]; rfl), ?_⟩
          refine ⟨_, rfl, _, rfl, _, rfl, Nat.le_trans (by decide : 2 ≤ 4096) hs, fun q4 n4 => ?_⟩
          generalize g4 : upd _ q4 _ = H7
          obtain ⟨s4, f4⟩ := new_of n4 g4
          obtain ⟨H8, dp, fd8⟩ := fd.put (s1.trans (s2.trans (s3.trans s4))) f4 (Fil.in (by omega) (by omega) (by omega)) fun kvs r => Fil.step r hjm
          exact ⟨D, H8, rfl, dp, fd8, _, _, _, _, rfl⟩
      · rintro σ H2 ⟨fd, u4, u5, u6, u7, rfl⟩
        rw [show (m : Int).toNat = m by omega, Fil.row] at fd
        exact ⟨fd, _, _, _, _, _, rfl⟩
    · rintro σ H1 ⟨fd, u3, u4, u5, u6, u7, rfl⟩
      rw [show (m : Int).toNat = m by omega] at fd
      exact ⟨_, rfl, go D H1 fd.sm nD (TbAt.of fd)⟩
end
end K12

set_option maxHeartbeats 4000000
/-! More tables. -/
namespace K12
open PySem PySem.Spec L2
def cycI (m l x y : Int) : Int := (if x + y + 2 ≤ m then x + y + 2 else l + (x + y + 2 - l) % (m - l + 1)) - 1
def cycF (m l x y : Nat) : Nat := (cycI m l x y).toNat
theorem cyc_ok0 : ∀ m < 5, ∀ k < m, ∀ x < m, ∀ y < m, cycI (m : Nat) ((k + 1 : Nat) : Nat) (x : Nat) (y : Nat) = (cycF m (k + 1) x y : Nat) ∧ cycF m (k + 1) x y < m := by decide +kernel
theorem cyc_ok (m : Nat) (hm : m < 5) (l : Nat) (_ : l < 5) (h1 : 1 ≤ l) (h2 : l ≤ m) (x : Nat) (hx : x < m) (y : Nat) (hy : y < m) : cycI (m : Nat) (l : Nat) (x : Nat) (y : Nat) = (cycF m l x y : Nat) ∧ cycF m l x y < m := by
  have := cyc_ok0 m hm (l - 1) (by omega) x hx y hy
  rw [show l - 1 + 1 = l by omega] at this
  exact this
def twoF (f g : Nat → Nat → Nat) (x y : Nat) : Nat := 2 * f (x / 2) (y / 2) + g (x % 2) (y % 2)
def twinF (f : Nat → Nat → Nat) (m t x y : Nat) : Nat := f (if x < m then x else t) (if y < m then y else t)
section
variable {P : Program} {w : World} {K : PySem.W.Frag} {mg : Str → Option Value} {base : Heap} {a : Ad} {n : Nat}
def spCy : Sp := fun vs H Q _ => ∃ (m l : Nat), vs = [.int (m : Nat), .int (l : Nat)] ∧ 1 ≤ l ∧ l ≤ m ∧ m ≤ 4 ∧ ∀ q H', Same H H' → H q = none → TbAt H' q m (cycF m l) → Q (.ref q) H'
theorem sc_law_cyclic_table : FnScope ["_law_many", "_law_lead", "_law_told", "_law_x", "_law_y", "_law_raised"] ["_law_many", "_law_lead"] (defScope s_law_cyclic_table) := ⟨rfl, rfl, rfl, by decide +kernel, rfl, by decide +kernel, by decide +kernel⟩
theorem bd_law_cyclic_table : BindsOf "_law_cyclic_table" "_law_cyclic_table" s_law_cyclic_table ["_law_many", "_law_lead"] := fun _ _ _ _ _ _ us hl => match us, hl with | [_, _], _ => rfl
theorem d_cyclic (T : Tp K mg a) : Df P w K mg base (n + 1) "_law_cyclic_table" ["_law_many", "_law_lead"] spCy := by
  refine df_mk T 55 rfl sc_law_cyclic_table bd_law_cyclic_table (fun vs H Q E h => ?_) (fun f cdv A outer s H vs Q E hr h => ?_)
  · obtain ⟨y, m, rfl, _⟩ := h
    rfl
  · obtain ⟨m, l, rfl, hl, hlm, hm, go⟩ := h
    have hu := hu1 hr
    have hs := szl
    refine ⟨_, (pss_cons (ps_set (i := 2) sc_law_cyclic_table.nd rfl (Or.inl rfl) pe_dnewT)
    (pss_cons (ps_for PassesOwn.never rfl (pi_range1 (by rfl) T.f_range (pa_cons (pv 0) pa_nil)) (pg_name (i := 3) sc_law_cyclic_table.nd rfl (Or.inl rfl))
      (pss_one (ps_for PassesOwn.never rfl (pi_range1 (by rfl) T.f_range (pa_cons (pv 0) pa_nil)) (pg_name (i := 4) sc_law_cyclic_table.nd rfl (Or.inl rfl))
        (pss_cons (ps_set (i := 5) sc_law_cyclic_table.nd rfl (Or.inl rfl) (pe_op op_add (pe_op op_add (pv 3) (pv 4)) pe_int))
        (pss_one (ps_dput hu (pv 2) (pe_tup (pa_cons (pv 3) (pa_cons (pv 4) pa_nil))) (pe_op op_sub (pe_ifExp (pt_cmpR op_le (pv 5) (pv 0) (nomark _)) (pv 5) (pe_op op_add (pv 1) (pe_op op_mod (pe_callTy call_int1 (by rfl) T.f_int (by decide +kernel) (pa_cons (pe_op op_sub (pv 5) (pv 1)) pa_nil)) (pe_op op_add (pe_op op_sub (pv 0) (pv 1)) pe_int)))) pe_int) rfl))))))
    (pss_one (ps_ret (pv 2))))), ?_⟩
    refine fun D nD => ?_
    refine ⟨_, rfl, m, rfl, by omega, by omega, ?_⟩
    refine for_range (lo := 0) (n := (m : Int).toNat) (fun i σ H1 => Fd H D (Fil m (cycF m l) i 0) H1 ∧ ∃ (u3 u4 u5 : Option V), σ = [some (.int (m : Nat)), some (.int (l : Nat)), some (.ref D), u3, u4, u5]) ⟨by rw [Fil.zero]; exact Fd.start nD, _, _, _, rfl⟩ ?_ ?_
    · rintro i σ H1 hi ⟨fd, u3, u4, u5, rfl⟩
      have him : i < m := by omega
      refine ⟨_, rfl, m, rfl, by omega, by omega, ?_⟩
      refine for_range (lo := 0) (n := (m : Int).toNat) (fun j σ H1 => Fd H D (Fil m (cycF m l) i j) H1 ∧ ∃ (u4 u5 : Option V), σ = [some (.int (m : Nat)), some (.int (l : Nat)), some (.ref D), some (.int (i : Nat)), u4, u5]) ⟨fd, u4, u5, by rw [show (0 : Int) + (i : Nat) = (i : Nat) by omega]; rfl⟩ ?_ ?_
      · rintro j σ H2 hj ⟨fd, u4, u5, rfl⟩
        have hjm : j < m := by omega
        rw [show (0 : Int) + (j : Nat) = (j : Nat) by omega]
        refine ⟨_, rfl, _, rfl, _, _, rfl, rfl, _, _, rfl, rfl, ?_⟩
        have hpo := cyc_ok m (by omega) l (by omega) hl hlm i him j hjm
        refine ⟨_, rfl, _, rfl, _, _, rfl, rfl, _, rfl, ?_⟩
        refine if_int (if (((i : Nat) : Int) + (j : Nat) + 2) ≤ (m : Nat) then (((i : Nat) : Int) + (j : Nat) + 2) else (l : Nat) + (((i : Nat) : Int) + (j : Nat) + 2 - (l : Nat)) % ((m : Nat) - (l : Nat) + 1)) (fun hc Q' q => ?_) (fun hc Q' q => ?_) ?_
        · rw [if_pos (of_decide_eq_true hc)] at q
          exact ⟨_, rfl, q⟩
        · rw [if_neg (of_decide_eq_false hc)] at q
          exact ⟨_, rfl, _, rfl, _, rfl, _, _, rfl, rfl, .inl ⟨_, rfl, _, rfl, _, rfl, _, _, rfl, rfl, _, _, rfl, rfl, _, _, rfl, rfl, (by show (0 : Int) < (m : Nat) - (l : Nat) + 1; omega), _, _, rfl, rfl, q⟩⟩
        refine ⟨_, _, rfl, rfl, ?_⟩
        have e : (V.int ((if (((i : Nat) : Int) + (j : Nat) + 2) ≤ (m : Nat) then (((i : Nat) : Int) + (j : Nat) + 2) else (l : Nat) + (((i : Nat) : Int) + (j : Nat) + 2 - (l : Nat)) % ((m : Nat) - (l : Nat) + 1)) - 1)) = V.int (cycF m l i j : Nat) := congrArg V.int hpo.1
        refine ⟨_, rfl, _, rfl, _, rfl, Nat.le_trans (by decide : 2 ≤ 4096) hs, fun q4 n4 => ?_⟩
        generalize g4 : upd _ q4 _ = H7
        obtain ⟨s4, f4⟩ := new_of n4 g4
        obtain ⟨H8, dp, fd8⟩ := fd.put s4 f4 (Fil.in (by omega) (by omega) (by omega)) fun kvs r => Fil.step r hjm
        rw [← e] at dp
        exact ⟨D, H8, rfl, dp, fd8, _, _, rfl⟩
      · rintro σ H2 ⟨fd, u4, u5, rfl⟩
        rw [show (m : Int).toNat = m by omega, Fil.row] at fd
        exact ⟨fd, _, _, _, rfl⟩
    · rintro σ H1 ⟨fd, u3, u4, u5, rfl⟩
      rw [show (m : Int).toNat = m by omega] at fd
      exact ⟨_, rfl, go D H1 fd.sm nD (TbAt.of fd)⟩
def spTf : Sp := fun vs H Q _ => ∃ (t u : Addr) (f g : Nat → Nat → Nat), vs = [.ref t, .ref u] ∧ TbAt H t 2 f ∧ TbAt H u 2 g ∧ (∀ x < 2, ∀ y < 2, f x y < 2) ∧ (∀ x < 2, ∀ y < 2, g x y < 2) ∧ ∀ q H', Same H H' → H q = none → TbAt H' q 4 (twoF f g) → Q (.ref q) H'
theorem sc_law_twofold_table : FnScope ["_law_one", "_law_other", "_law_found", "_law_x", "_law_y"] ["_law_one", "_law_other"] (defScope s_law_twofold_table) := ⟨rfl, rfl, rfl, by decide +kernel, rfl, by decide +kernel, by decide +kernel⟩
theorem bd_law_twofold_table : BindsOf "_law_twofold_table" "_law_twofold_table" s_law_twofold_table ["_law_one", "_law_other"] := fun _ _ _ _ _ _ us hl => match us, hl with | [_, _], _ => rfl
theorem d_twofold (T : Tp K mg a) : Df P w K mg base (n + 1) "_law_twofold_table" ["_law_one", "_law_other"] spTf := by
  refine df_mk T 39 rfl sc_law_twofold_table bd_law_twofold_table (fun vs H Q E h => ?_) (fun f cdv A outer s H vs Q E hr h => ?_)
  · obtain ⟨t, u, f, g, rfl, _⟩ := h
    rfl
  · obtain ⟨t, u, ff, gg, rfl, ht, hu', hf, hg, go⟩ := h
    have hu := hu1 hr
    have hs := szl
    have two : 2 ≤ sizeLine := Nat.le_trans (by decide : 2 ≤ 4096) hs
    refine ⟨_, (pss_cons (ps_set (i := 2) sc_law_twofold_table.nd rfl (Or.inl rfl) pe_dnewT)
    (pss_cons (ps_for PassesOwn.never rfl (pi_range1 (by rfl) T.f_range (pa_cons pe_int pa_nil)) (pg_name (i := 3) sc_law_twofold_table.nd rfl (Or.inl rfl))
      (pss_one (ps_for PassesOwn.never rfl (pi_range1 (by rfl) T.f_range (pa_cons pe_int pa_nil)) (pg_name (i := 4) sc_law_twofold_table.nd rfl (Or.inl rfl))
        (pss_one (ps_dput hu (pv 2) (pe_tup (pa_cons (pv 3) (pa_cons (pv 4) pa_nil))) (pe_op op_add (pe_op op_mul pe_int (pe_dget hu (pv 0) (pe_tup (pa_cons (pe_op op_fdiv (pv 3) pe_int) (pa_cons (pe_op op_fdiv (pv 4) pe_int) pa_nil))) (fun _ _ => rfl))) (pe_dget hu (pv 1) (pe_tup (pa_cons (pe_op op_mod (pe_callTy call_int1 (by rfl) T.f_int (by decide +kernel) (pa_cons (pv 3) pa_nil)) pe_int) (pa_cons (pe_op op_mod (pe_callTy call_int1 (by rfl) T.f_int (by decide +kernel) (pa_cons (pv 4) pa_nil)) pe_int) pa_nil))) (fun _ _ => rfl))) rfl)))))
    (pss_one (ps_ret (pv 2))))), ?_⟩
    refine fun D nD => ?_
    refine ⟨_, rfl, by decide, by decide, ?_⟩
    refine for_range (lo := 0) (n := 4) (fun i σ H1 => Fd H D (Fil 4 (twoF ff gg) i 0) H1 ∧ ∃ (u3 u4 : Option V), σ = [some (.ref t), some (.ref u), some (.ref D), u3, u4]) ⟨by rw [Fil.zero]; exact Fd.start nD, _, _, rfl⟩ ?_ ?_
    · rintro i σ H1 hi ⟨fd, u3, u4, rfl⟩
      refine ⟨_, rfl, by decide, by decide, ?_⟩
      refine for_range (lo := 0) (n := 4) (fun j σ H1 => Fd H D (Fil 4 (twoF ff gg) i j) H1 ∧ ∃ (u4 : Option V), σ = [some (.ref t), some (.ref u), some (.ref D), some (.int (i : Nat)), u4]) ⟨fd, u4, by rw [show (0 : Int) + (i : Nat) = (i : Nat) by omega]; rfl⟩ ?_ ?_
      · rintro j σ H2 hj ⟨fd, u4, rfl⟩
        rw [show (0 : Int) + (j : Nat) = (j : Nat) by omega]
        have x1 : i / 2 < 2 := by omega
        have y1 : j / 2 < 2 := by omega
        have x2 : i % 2 < 2 := by omega
        have y2 : j % 2 < 2 := by omega
        refine ⟨_, rfl, _, rfl, _, _, rfl, rfl, ⟨by decide, by decide⟩, _, rfl, _, _, rfl, rfl, ⟨by decide, by decide⟩, two, fun q1 n1 => ?_⟩
        generalize g1 : upd _ q1 _ = H3
        obtain ⟨s1, f1⟩ := new_of n1 g1
        have f1' : H3 q1 = some (.tup [.int ((i / 2 : Nat) : Nat), .int ((j / 2 : Nat) : Nat)]) := f1
        refine ⟨t, _, rfl, (ht.sm (fd.sm.trans s1)).get f1' x1 y1, _, _, rfl, rfl, .inl ⟨by decide, by decide⟩, _, rfl, _, rfl, .inl ⟨_, rfl, _, _, rfl, rfl, (by show (0 : Int) < 2; decide), _, rfl, .inl ⟨_, rfl, _, _, rfl, rfl, (by show (0 : Int) < 2; decide), two, fun q2 n2 => ?_⟩⟩⟩
        generalize g2 : upd _ q2 _ = H4
        obtain ⟨s2, f2⟩ := new_of n2 g2
        have f2' : H4 q2 = some (.tup [.int ((i % 2 : Nat) : Nat), .int ((j % 2 : Nat) : Nat)]) := f2
        refine ⟨u, _, rfl, (hu'.sm (fd.sm.trans (s1.trans s2))).get f2' x2 y2, _, _, rfl, rfl, ?_⟩
        refine ⟨_, rfl, _, rfl, _, rfl, two, fun q4 n4 => ?_⟩
        generalize g4 : upd _ q4 _ = H7
        obtain ⟨s4, f4⟩ := new_of n4 g4
        obtain ⟨H8, dp, fd8⟩ := fd.put (s1.trans (s2.trans s4)) f4 (Fil.in (by omega) (by omega) (by omega)) fun kvs r => Fil.step r hj
        have e : V.int ((2 : Int) * (ff (i / 2) (j / 2) : Nat) + (gg (i % 2) (j % 2) : Nat)) = V.int (twoF ff gg i j : Nat) := congrArg V.int (by unfold twoF; omega)
        rw [← e] at dp
        exact ⟨D, H8, rfl, dp, fd8, _, rfl⟩
      · rintro σ H2 ⟨fd, u4, rfl⟩
        rw [Fil.row] at fd
        exact ⟨fd, _, _, rfl⟩
    · rintro σ H1 ⟨fd, u3, u4, rfl⟩
      exact ⟨_, rfl, go D H1 fd.sm nD (TbAt.of fd)⟩
def spTw : Sp := fun vs H Q _ => ∃ (t : Addr) (m j : Nat) (f : Nat → Nat → Nat), vs = [.ref t, .int (m : Nat), .int (j : Nat)] ∧ TbAt H t m f ∧ j < m ∧ m ≤ 3 ∧ ∀ q H', Same H H' → H q = none → TbAt H' q (m + 1) (twinF f m j) → Q (.ref q) H'
theorem head_at {m j i : Nat} (hi : i < m + 1) : (rgV 0 (m : Nat) ++ [V.int (j : Nat)])[i]? = some (V.int ((if i < m then i else j : Nat) : Nat)) := by
  have hl : (rgV 0 (m : Nat)).length = m := by rw [rgV_length]; omega
  by_cases h : i < m
  · rw [List.getElem?_append_left (by omega), if_pos h]
    unfold rgV
    rw [List.getElem?_map, List.getElem?_range (by omega)]
    show some (V.int (0 + (i : Nat))) = _
    rw [show (0 : Int) + (i : Nat) = (i : Nat) by omega]
  · have : i = m := by omega
    subst this
    rw [List.getElem?_append_right (by omega), hl, Nat.sub_self, if_neg h]
    rfl
theorem sc_law_twin_table : FnScope ["_law_told", "_law_many", "_law_twin", "_law_head", "_law_found", "_law_x", "_law_y"] ["_law_told", "_law_many", "_law_twin"] (defScope s_law_twin_table) := ⟨rfl, rfl, rfl, by decide +kernel, rfl, by decide +kernel, by decide +kernel⟩
theorem bd_law_twin_table : BindsOf "_law_twin_table" "_law_twin_table" s_law_twin_table ["_law_told", "_law_many", "_law_twin"] := fun _ _ _ _ _ _ us hl => match us, hl with | [_, _, _], _ => rfl
theorem d_twin (T : Tp K mg a) : Df P w K mg base (n + 1) "_law_twin_table" ["_law_told", "_law_many", "_law_twin"] spTw := by
  refine df_mk T 53 rfl sc_law_twin_table bd_law_twin_table (fun vs H Q E h => ?_) (fun f cdv A outer s H vs Q E hr h => ?_)
  · obtain ⟨t, m, j, f, rfl, _⟩ := h
    rfl
  · obtain ⟨t, m, tw, ff, rfl, ht, htw, hm, go⟩ := h
    have hu := hu1 hr
    have hs := szl
    have two : 2 ≤ sizeLine := Nat.le_trans (by decide : 2 ≤ 4096) hs
    refine ⟨_, (pss_cons (ps_set (i := 3) sc_law_twin_table.nd rfl (Or.inl rfl) (pe_op op_cat (pe_listRg rfl (by rfl) T.f_list (prg_1 (by rfl) T.f_range (pv 1))) (pe_lst (pa_cons (pv 2) pa_nil))))
    (pss_cons (ps_set (i := 4) sc_law_twin_table.nd rfl (Or.inl rfl) pe_dnewT)
    (pss_cons (ps_for PassesOwn.never rfl (pi_range1 (by rfl) T.f_range (pa_cons (pe_op op_add (pv 1) pe_int) pa_nil)) (pg_name (i := 5) sc_law_twin_table.nd rfl (Or.inl rfl))
      (pss_one (ps_for PassesOwn.never rfl (pi_range1 (by rfl) T.f_range (pa_cons (pe_op op_add (pv 1) pe_int) pa_nil)) (pg_name (i := 6) sc_law_twin_table.nd rfl (Or.inl rfl))
        (pss_one (ps_dput hu (pv 4) (pe_tup (pa_cons (pv 5) (pa_cons (pv 6) pa_nil))) (pe_dget hu (pv 0) (pe_tup (pa_cons (pe_ix (ix_listK (K := K) rfl) (pv 3) (pv 5) (fun _ _ => rfl)) (pa_cons (pe_ix (ix_listK (K := K) rfl) (pv 3) (pv 6) (fun _ _ => rfl)) pa_nil))) (fun _ _ => rfl)) rfl)))))
    (pss_one (ps_ret (pv 4)))))), ?_⟩
    refine ⟨_, rfl, _, rfl, RgOk.of_le (by decide) (by omega) (by decide) (by omega), fun q0 n0 => ?_⟩
    generalize g0 : upd _ q0 _ = H0
    obtain ⟨s0, f0⟩ := new_of n0 g0
    refine ⟨_, rfl, Nat.le_trans (by decide : 1 ≤ 4096) hs, fun q1 n1 => ?_⟩
    generalize g1 : upd _ q1 _ = H1
    obtain ⟨s1, f1⟩ := new_of n1 g1
    refine ⟨q0, q1, _, _, rfl, rfl, s1 _ _ f0, f1, ?_, fun q2 n2 => ?_⟩
    · rw [rgV_length]; show _ + 1 ≤ _; omega
    generalize g2 : upd _ q2 _ = H2
    obtain ⟨s2, f2⟩ := new_of n2 g2
    have s02 := s0.trans (s1.trans s2)
    refine fun D nD => ?_
    refine ⟨_, rfl, _, _, rfl, rfl, _, rfl, by omega, by omega, ?_⟩
    have e1 : (((m : Nat) : Int) + 1).toNat = m + 1 := by omega
    refine for_range (lo := 0) (n := (((m : Nat) : Int) + 1).toNat) (fun i σ H1 => Fd H2 D (Fil (m + 1) (twinF ff m tw) i 0) H1 ∧ ∃ (u3 u4 : Option V), σ = [some (.ref t), some (.int (m : Nat)), some (.int (tw : Nat)), some (.ref q2), some (.ref D), u3, u4]) ⟨by rw [Fil.zero]; exact Fd.start nD, _, _, rfl⟩ ?_ ?_
    · rintro i σ H3 hi ⟨fd, u3, u4, rfl⟩
      rw [e1] at hi
      refine ⟨_, rfl, _, _, rfl, rfl, _, rfl, by omega, by omega, ?_⟩
      refine for_range (lo := 0) (n := (((m : Nat) : Int) + 1).toNat) (fun j σ H1 => Fd H2 D (Fil (m + 1) (twinF ff m tw) i j) H1 ∧ ∃ (u4 : Option V), σ = [some (.ref t), some (.int (m : Nat)), some (.int (tw : Nat)), some (.ref q2), some (.ref D), some (.int (i : Nat)), u4]) ⟨fd, u4, by rw [show (0 : Int) + (i : Nat) = (i : Nat) by omega]; rfl⟩ ?_ ?_
      · rintro j σ H4 hj ⟨fd, u4, rfl⟩
        rw [e1] at hj
        rw [show (0 : Int) + (j : Nat) = (j : Nat) by omega]
        have f2' := fd.sm _ _ f2
        refine ⟨_, rfl, _, rfl, _, rfl, q2, _, _, _, rfl, rfl, SqL.of f2', at_of (j := i) rfl (head_at hi), _, rfl, _, rfl, q2, _, _, _, rfl, rfl, SqL.of f2', at_of (j := j) rfl (head_at hj), two, fun q3 n3 => ?_⟩
        generalize g3 : upd _ q3 _ = H5
        obtain ⟨s3, f3⟩ := new_of n3 g3
        have b1 : (if i < m then i else tw) < m := by split <;> omega
        have b2 : (if j < m then j else tw) < m := by split <;> omega
        refine ⟨t, _, rfl, (ht.sm (s02.trans (fd.sm.trans s3))).get f3 b1 b2, ?_⟩
        refine ⟨_, rfl, _, rfl, _, rfl, two, fun q4 n4 => ?_⟩
        generalize g4 : upd _ q4 _ = H7
        obtain ⟨s4, f4⟩ := new_of n4 g4
        obtain ⟨H8, dp, fd8⟩ := fd.put (s3.trans s4) f4 (Fil.in (by omega) (by omega) (by omega)) fun kvs r => Fil.step r hj
        exact ⟨D, H8, rfl, dp, fd8, _, rfl⟩
      · rintro σ H4 ⟨fd, u4, rfl⟩
        rw [e1, Fil.row] at fd
        exact ⟨fd, _, _, rfl⟩
    · rintro σ H3 ⟨fd, u3, u4, rfl⟩
      rw [e1] at fd
      exact ⟨_, rfl, go D H3 (s02.trans fd.sm) (s02.free nD) (TbAt.of fd)⟩
end
end K12

set_option maxHeartbeats 4000000
/-! Tables made of tables; any table. -/
namespace K12
open PySem PySem.Spec L2
/-- a new list of pairs: a key as a tuple, a value -/
structure Pq (H : Hp) (D : Addr) (kvs : List (List Key × V)) (H1 : Hp) : Prop where
  sm : Same H H1
  nw : H D = none
  ex : ∃ ps : List Addr, H1 D = some (.lst (ps.map V.ref)) ∧ Paired (fun p kv => ∃ q, H1 q = some (.tup (kv.1.map kV)) ∧ H1 p = some (.tup [.ref q, kv.2])) ps kvs
theorem Pq.start {H : Hp} {D : Addr} (n : H D = none) : Pq H D [] (upd H D (.lst [])) := ⟨same_new n, n, [], upd_same, .nil⟩
theorem Pq.step {H H1 H2 : Hp} {D p q : Addr} {kvs kws : List (List Key × V)} {k : List Key} {v : V} (h : Pq H D kvs H1) (s : Same H1 H2) (eq : H2 q = some (.tup (k.map kV))) (ep : H2 p = some (.tup [.ref q, v])) (l : kvs.length < sizeLine) (ec : kws = kvs ++ [(k, v)]) :
    ∃ acc, H2 D = some (.lst acc) ∧ acc.length < sizeLine ∧ Pq H D kws (upd H2 D (.lst (acc ++ [.ref p]))) := by
  obtain ⟨ps, e1, hp⟩ := h.ex
  have hl := paired_len hp
  have eD := s _ _ e1
  have up : ∀ r xs, H2 r = some (.tup xs) → upd H2 D (.lst (ps.map V.ref ++ [.ref p])) r = some (.tup xs) := fun r xs er => by
    rw [upd_ne (fun z => by subst z; rw [eD] at er; cases er)]; exact er
  refine ⟨_, eD, by rw [List.length_map]; omega, Same.upd0 (h.sm.trans s) h.nw, h.nw, ps ++ [p], by rw [List.map_append]; exact upd_same, ?_⟩
  rw [ec]
  refine paired_snoc (paired_imp (fun p kv hb => ?_) hp) ⟨q, up _ _ eq, up _ _ ep⟩
  obtain ⟨q', h1, h2⟩ := hb
  exact ⟨q', up _ _ (s _ _ h1), up _ _ (s _ _ h2)⟩
/-- the list once a lock is taken off -/
theorem Pq.unl {H H1 : Hp} {D d : Addr} {kvs : List (List Key × V)} {u f : HO} (e : H d = some u) (h : Pq (upd H d f) D kvs H1) (nt : ∀ xs, f ≠ .tup xs) : Pq H D kvs (upd H1 d u) := by
  obtain ⟨n1, n2⟩ := frz_new e h.nw
  obtain ⟨ps, e1, hp⟩ := h.ex
  refine ⟨Same.unlock e h.sm, n2, ps, by rw [upd_ne n1]; exact e1, paired_imp (fun p kv hb => ?_) hp⟩
  obtain ⟨q, h1, h2⟩ := hb
  have fd := h.sm _ _ (upd_same (H := H) (a := d) (o := f))
  have ne : ∀ r xs, H1 r = some (.tup xs) → r ≠ d := fun r xs er z => by
    subst z
    rw [fd] at er
    injection er with er
    exact nt xs er
  exact ⟨q, by rw [upd_ne (ne _ _ h1)]; exact h1, by rw [upd_ne (ne _ _ h2)]; exact h2⟩
theorem Pq.pairs {K : PySem.W.Frag} {H H1 : Hp} {D : Addr} {kvs : List (List Key × V)} (h : Pq H D kvs H1) : ∃ ps : List Addr, SqL K H1 D (ps.map V.ref) ∧ Paired (PairT K H1) ps kvs := by
  obtain ⟨ps, e, hp⟩ := h.ex
  exact ⟨ps, SqL.of e, paired_imp (fun p kv ⟨q, h1, h2⟩ => ⟨q, h1, SqT.of h2⟩) hp⟩
def Sd (m : Nat) (f : Nat → Nat → Nat) (u v : Nat → Nat) (i : Nat) : Nat → Nat → Option Nat := fun a b => if a < m ∧ b < m then some (f a b) else if b = m ∧ a < i then some (u a) else if a = m ∧ b < i then some (v b) else none
def sideF (m : Nat) (f : Nat → Nat → Nat) (u v : Nat → Nat) (a b : Nat) : Nat := if a < m ∧ b < m then f a b else if b = m then u a else v b
theorem Sd.zero (m : Nat) (f : Nat → Nat → Nat) (u v : Nat → Nat) : Sd m f u v 0 = Full m f := by
  funext a b
  unfold Sd Full
  by_cases h : a < m ∧ b < m
  · rw [if_pos h, if_pos h]
  · rw [if_neg h, if_neg h, if_neg (by omega), if_neg (by omega)]
theorem Sd.step {kvs : List (List Key × V)} {m i : Nat} {f : Nat → Nat → Nat} {u v : Nat → Nat} (h : Rep kvs (Sd m f u v i)) (hi : i ≤ m) (huv : u m = v m) :
    Rep (putK (putK kvs (keyI i m) (.int (u i : Nat))) (keyI m i) (.int (v i : Nat))) (Sd m f u v (i + 1)) := by
  have h2 := (h.put i m (u i)).put m i (v i)
  rw [show (fun a b => if a = m ∧ b = i then some (v i) else if a = i ∧ b = m then some (u i) else Sd m f u v i a b) = Sd m f u v (i + 1) from by
    funext a b
    unfold Sd
    by_cases h0 : a < m ∧ b < m
    · rw [if_neg (by omega), if_neg (by omega), if_pos h0, if_pos h0]
    · rw [if_neg h0, if_neg h0]
      by_cases h1 : a = m ∧ b = i
      · rw [if_pos h1]
        by_cases hm : b = m
        · have e1 : i = m := by omega
          rw [if_pos (by omega), h1.1, e1, huv]
        · rw [if_neg (by omega), if_pos (by omega), h1.2]
      · rw [if_neg h1]
        by_cases h2 : a = i ∧ b = m
        · rw [if_pos h2, if_pos (by omega), h2.1]
        · rw [if_neg h2]
          by_cases h3 : b = m ∧ a < i
          · rw [if_pos h3, if_pos (by omega)]
          · rw [if_neg h3, if_neg (show ¬ (b = m ∧ a < i + 1) by omega)]
            by_cases h4 : a = m ∧ b < i
            · rw [if_pos h4, if_pos (show a = m ∧ b < i + 1 by omega)]
            · rw [if_neg h4, if_neg (show ¬ (a = m ∧ b < i + 1) by omega)]] at h2
  exact h2
theorem Sd.full (m : Nat) (f : Nat → Nat → Nat) (u v : Nat → Nat) : Sd m f u v (m + 1) = Full (m + 1) (sideF m f u v) := by
  funext a b
  unfold Sd Full sideF
  by_cases h : a < m ∧ b < m
  · rw [if_pos h, if_pos h, if_pos (by omega)]
  · rw [if_neg h, if_neg h]
    by_cases h1 : b = m ∧ a < m + 1
    · rw [if_pos h1, if_pos (by omega), if_pos h1.1]
    · rw [if_neg h1]
      by_cases h2 : a = m ∧ b < m + 1
      · rw [if_pos h2, if_pos (by omega), if_neg (by omega)]
      · rw [if_neg h2, if_neg (by omega)]
theorem Sd.in {m i : Nat} {f : Nat → Nat → Nat} {u v : Nat → Nat} (hm : m ≤ 4) (hi : i ≤ 5) : ∀ x y w, Sd m f u v i x y = some w → x < 6 ∧ y < 6 := by
  intro x y w h
  unfold Sd at h
  split at h
  · omega
  · split at h
    · omega
    · split at h
      · omega
      · cases h
section
variable {P : Program} {w : World} {K : PySem.W.Frag} {mg : Str → Option Value} {base : Heap} {a : Ad} {n : Nat}
def wideU (c : Nat) (m : Nat) (x : Nat) : Nat := if c = 0 then m else x
def spWi : Sp := fun vs H Q _ => ∃ (t : Addr) (m c : Nat) (f : Nat → Nat → Nat), vs = [.ref t, .int (m : Nat), .int (c : Nat)] ∧ TbAt H t m f ∧ m ≤ 3 ∧ ∀ q H', Same H H' → H q = none → TbAt H' q (m + 1) (sideF m f (wideU c m) (wideU c m)) → Q (.ref q) H'
theorem sc_law_wide_table : FnScope ["_law_told", "_law_many", "_law_way", "_law_found", "_law_x", "_law_key"] ["_law_told", "_law_many", "_law_way"] (defScope s_law_wide_table) := ⟨rfl, rfl, rfl, by decide +kernel, rfl, by decide +kernel, by decide +kernel⟩
theorem bd_law_wide_table : BindsOf "_law_wide_table" "_law_wide_table" s_law_wide_table ["_law_told", "_law_many", "_law_way"] := fun _ _ _ _ _ _ us hl => match us, hl with | [_, _, _], _ => rfl
theorem d_wide (T : Tp K mg a) : Df P w K mg base (n + 1) "_law_wide_table" ["_law_told", "_law_many", "_law_way"] spWi := by
  refine df_mk T 38 rfl sc_law_wide_table bd_law_wide_table (fun vs H Q E h => ?_) (fun f cdv A outer s H vs Q E hr h => ?_)
  · obtain ⟨t, m, c, f, rfl, _⟩ := h
    rfl
  · obtain ⟨t, m, c, ff, rfl, ⟨kvs, et, rp⟩, hm, go⟩ := h
    have hu := hu1 hr
    have hu2 := hu2_ hr
    have hs := szl
    have two : 2 ≤ sizeLine := Nat.le_trans (by decide : 2 ≤ 4096) hs
    have kl := rp.len (Full.in (by omega))
    refine ⟨_, (pss_cons (ps_set (i := 3) sc_law_wide_table.nd rfl (Or.inl rfl) (pe_callTy (call_dictPTK (K := K) rfl rfl hu2) (by rfl) T.f_dict (by decide +kernel) (pa_cons (pe_lock (pe_lc (own := [("_law_key", 5)]) rfl sc_law_wide_table.nd (pi_keys (pv 0)) (blkOk_by (own := [("_law_key", 5)]) (N := ["_law_told", "_law_many", "_law_way", "_law_found", "_law_x", "_law_key"]) (sc := defScope s_law_wide_table) (by decide +kernel)) (fun _ _ _ _ _ => (pg_name (i := 5) sc_law_wide_table.nd rfl (Or.inl rfl))) (fun _ _ _ _ _ => pts_nil) (fun _ _ _ _ _ => (pe_tup (pa_cons (pv 5) (pa_cons (pe_dget hu (pv 0) (pv 5) (fun _ _ => rfl)) pa_nil)))))) pa_nil)))
    (pss_cons (ps_for PassesOwn.never rfl (pi_range1 (by rfl) T.f_range (pa_cons (pe_op op_add (pv 1) pe_int) pa_nil)) (pg_name (i := 4) sc_law_wide_table.nd rfl (Or.inl rfl))
      (pss_cons (ps_dput hu (pv 3) (pe_tup (pa_cons (pv 4) (pa_cons (pv 1) pa_nil))) (pe_ifExp (pt_cmpR op_eq (pv 2) pe_int (nomark _)) (pv 1) (pv 4)) rfl)
      (pss_one (ps_dput hu (pv 3) (pe_tup (pa_cons (pv 1) (pa_cons (pv 4) pa_nil))) (pe_ifExp (pt_cmpR op_eq (pv 2) pe_int (nomark _)) (pv 1) (pv 4)) rfl))))
    (pss_one (ps_ret (pv 3))))), ?_⟩
    refine ⟨t, _, et, trivial, fun od => ?_⟩
    refine ⟨_, rfl, t, od, rfl, .inr ⟨_, upd_same, fun D nD => ?_⟩⟩
    refine lc_it walk_keysT (fun i H1 => Pq (upd H t (.frz od (.dT kvs))) D (kvs.take i) H1) (Pq.start nD) (fun i H1 _ hv => hv.sm _ _ upd_same) ?_ ?_
    · rintro i v H1 H2 hi hv ⟨rfl, k, v, q, hk, rfl, hq⟩
      refine ⟨rfl, _, rfl, _, rfl, _, rfl, t, _, rfl, .inr ⟨kvs, k, q, .inr ⟨od, hv.sm _ _ upd_same⟩, rfl, hq, (valV_nodup rp.nd (List.mem_of_getElem? hk)).symm⟩, two, fun q1 n1 => ?_⟩
      generalize g1 : upd _ q1 _ = H3
      obtain ⟨s1, f1⟩ := new_of n1 g1
      refine hv.step s1 (s1 _ _ hq) f1 ?_ ?_
      · rw [List.length_take]; omega
      · rw [List.take_add_one, hk]; rfl
    · intro H1 hv
      refine ⟨hv.sm _ _ upd_same, ?_⟩
      rw [List.take_length] at hv
      have hv2 := hv.unl et (fun xs z => nomatch z)
      generalize upd H1 t (.dT kvs) = H2 at hv2
      obtain ⟨ps, hq1, hp1⟩ := hv2.pairs (K := K)
      refine ⟨D, ps, kvs, rfl, hq1, hp1, fun D2 n2 => ?_⟩
      rw [mergeT_new rp.nd]
      have n02 : H D2 = none := hv2.sm.free n2
      have fd0 : Fd H2 D2 (Sd m ff (wideU c m) (wideU c m) 0) (upd H2 D2 (.dT kvs)) := ⟨same_new n2, n2, kvs, upd_same, by rw [Sd.zero]; exact rp⟩
      generalize upd H2 D2 (.dT kvs) = H3 at fd0
      have e1 : (((m : Nat) : Int) + 1).toNat = m + 1 := by omega
      refine ⟨_, rfl, _, _, rfl, rfl, _, rfl, by omega, by omega, ?_⟩
      refine for_range (lo := 0) (n := (((m : Nat) : Int) + 1).toNat) (fun i σ H4 => Fd H2 D2 (Sd m ff (wideU c m) (wideU c m) i) H4 ∧ ∃ (u4 u5 : Option V), σ = [some (.ref t), some (.int (m : Nat)), some (.int (c : Nat)), some (.ref D2), u4, u5]) ⟨fd0, _, _, rfl⟩ ?_ ?_
      · rintro i σ H4 hi ⟨fd, u4, u5, rfl⟩
        rw [e1] at hi
        rw [show (0 : Int) + (i : Nat) = (i : Nat) by omega]
        obtain ⟨kws, ek, rk⟩ := fd.ex
        have kl2 := rk.len (Sd.in (by omega) (by omega))
        have val : ∀ Q' : VK, Q' (.int (wideU c m i : Nat)) = Q' (.int (if (c : Int) = 0 then ((m : Nat) : Int) else ((i : Nat) : Int))) := fun Q' => by
          congr 2
          unfold wideU
          by_cases h : c = 0
          · rw [if_pos h, if_pos (by omega)]
          · rw [if_neg h, if_neg (by omega)]
        refine ⟨_, rfl, rfl, _, rfl, ?_⟩
        refine if_int (wideU c m i : Nat) (fun hc Q' q => ?_) (fun hc Q' q => ?_) ?_
        · have : (c : Int) = 0 := by have := of_decide_eq_true hc; injection this
          unfold wideU at q
          rw [if_pos (by omega)] at q
          exact ⟨_, rfl, q⟩
        · have : ¬ (c : Int) = 0 := fun z => of_decide_eq_false hc (by rw [z])
          unfold wideU at q
          rw [if_neg (by omega)] at q
          exact ⟨_, rfl, q⟩
        refine ⟨_, rfl, _, rfl, _, rfl, two, fun q4 n4 => ?_⟩
        generalize g4 : upd _ q4 _ = H5
        obtain ⟨s4, f4⟩ := new_of n4 g4
        have szb : 4000000 ≤ sizeLine := by decide
        refine ⟨D2, _, rfl, .inr ⟨kws, keyI i m, q4, s4 _ _ ek, rfl, f4, by omega, rfl⟩, ?_⟩
        have p1 := rk.put i m (wideU c m i)
        have kl3 := p1.len (fun x y v hv => by
          by_cases h : x = i ∧ y = m
          · omega
          · rw [if_neg h] at hv
            exact Sd.in (by omega) (by omega) x y v hv)
        have s5 : Same H2 (upd H5 D2 (.dT (putK kws (keyI i m) (.int (wideU c m i : Nat))))) := Same.upd0 (fd.sm.trans s4) n2
        have e5 : upd H5 D2 (.dT (putK kws (keyI i m) (.int (wideU c m i : Nat)))) D2 = some (.dT (putK kws (keyI i m) (.int (wideU c m i : Nat)))) := upd_same
        generalize upd H5 D2 (.dT (putK kws (keyI i m) (.int (wideU c m i : Nat)))) = H6 at s5 e5
        refine ⟨_, rfl, rfl, _, rfl, ?_⟩
        refine if_int (wideU c m i : Nat) (fun hc Q' q => ?_) (fun hc Q' q => ?_) ?_
        · have : (c : Int) = 0 := by have := of_decide_eq_true hc; injection this
          unfold wideU at q
          rw [if_pos (by omega)] at q
          exact ⟨_, rfl, q⟩
        · have : ¬ (c : Int) = 0 := fun z => of_decide_eq_false hc (by rw [z])
          unfold wideU at q
          rw [if_neg (by omega)] at q
          exact ⟨_, rfl, q⟩
        refine ⟨_, rfl, _, rfl, _, rfl, two, fun q7 n7 => ?_⟩
        generalize g7 : upd _ q7 _ = H7
        obtain ⟨s7, f7⟩ := new_of n7 g7
        refine ⟨D2, _, rfl, .inr ⟨_, keyI m i, q7, s7 _ _ e5, rfl, f7, by omega, rfl⟩, ⟨Same.upd0 (s5.trans s7) n2, n2, _, upd_same, Sd.step rk (by omega) rfl⟩, _, _, rfl⟩
      · rintro σ H4 ⟨fd, u4, u5, rfl⟩
        rw [e1] at fd
        obtain ⟨kws, ek, rk⟩ := fd.ex
        rw [Sd.full] at rk
        exact ⟨_, rfl, go D2 H4 (hv2.sm.trans fd.sm) n02 ⟨kws, ek, rk⟩⟩
def ledU (m : Nat) (x : Nat) : Nat := if x = m then m else 0
def spLe : Sp := fun vs H Q _ => ∃ (t : Addr) (m : Nat) (f : Nat → Nat → Nat), vs = [.ref t, .int (m : Nat)] ∧ TbAt H t m f ∧ m ≤ 3 ∧ ∀ q H', Same H H' → H q = none → TbAt H' q (m + 1) (sideF m f (ledU m) id) → Q (.ref q) H'
theorem sc_law_leading_table : FnScope ["_law_told", "_law_many", "_law_found", "_law_x", "_law_key"] ["_law_told", "_law_many"] (defScope s_law_leading_table) := ⟨rfl, rfl, rfl, by decide +kernel, rfl, by decide +kernel, by decide +kernel⟩
theorem bd_law_leading_table : BindsOf "_law_leading_table" "_law_leading_table" s_law_leading_table ["_law_told", "_law_many"] := fun _ _ _ _ _ _ us hl => match us, hl with | [_, _], _ => rfl
theorem d_leading (T : Tp K mg a) : Df P w K mg base (n + 1) "_law_leading_table" ["_law_told", "_law_many"] spLe := by
  refine df_mk T 54 rfl sc_law_leading_table bd_law_leading_table (fun vs H Q E h => ?_) (fun f cdv A outer s H vs Q E hr h => ?_)
  · obtain ⟨t, m, f, rfl, _⟩ := h
    rfl
  · obtain ⟨t, m, ff, rfl, ⟨kvs, et, rp⟩, hm, go⟩ := h
    have hu := hu1 hr
    have hu2 := hu2_ hr
    have hs := szl
    have two : 2 ≤ sizeLine := Nat.le_trans (by decide : 2 ≤ 4096) hs
    have kl := rp.len (Full.in (by omega))
    refine ⟨_, (pss_cons (ps_set (i := 2) sc_law_leading_table.nd rfl (Or.inl rfl) (pe_callTy (call_dictPTK (K := K) rfl rfl hu2) (by rfl) T.f_dict (by decide +kernel) (pa_cons (pe_lock (pe_lc (own := [("_law_key", 4)]) rfl sc_law_leading_table.nd (pi_keys (pv 0)) (blkOk_by (own := [("_law_key", 4)]) (N := ["_law_told", "_law_many", "_law_found", "_law_x", "_law_key"]) (sc := defScope s_law_leading_table) (by decide +kernel)) (fun _ _ _ _ _ => (pg_name (i := 4) sc_law_leading_table.nd rfl (Or.inl rfl))) (fun _ _ _ _ _ => pts_nil) (fun _ _ _ _ _ => (pe_tup (pa_cons (pv 4) (pa_cons (pe_dget hu (pv 0) (pv 4) (fun _ _ => rfl)) pa_nil)))))) pa_nil)))
    (pss_cons (ps_for PassesOwn.never rfl (pi_range1 (by rfl) T.f_range (pa_cons (pe_op op_add (pv 1) pe_int) pa_nil)) (pg_name (i := 3) sc_law_leading_table.nd rfl (Or.inl rfl))
      (pss_cons (ps_dput hu (pv 2) (pe_tup (pa_cons (pv 3) (pa_cons (pv 1) pa_nil))) (pe_ifExp (pt_cmpR op_eq (pv 3) (pv 1) (nomark _)) (pv 1) pe_int) rfl)
      (pss_one (ps_dput hu (pv 2) (pe_tup (pa_cons (pv 1) (pa_cons (pv 3) pa_nil))) (pv 3) rfl))))
    (pss_one (ps_ret (pv 2))))), ?_⟩
    refine ⟨t, _, et, trivial, fun od => ?_⟩
    refine ⟨_, rfl, t, od, rfl, .inr ⟨_, upd_same, fun D nD => ?_⟩⟩
    refine lc_it walk_keysT (fun i H1 => Pq (upd H t (.frz od (.dT kvs))) D (kvs.take i) H1) (Pq.start nD) (fun i H1 _ hv => hv.sm _ _ upd_same) ?_ ?_
    · rintro i v H1 H2 hi hv ⟨rfl, k, v, q, hk, rfl, hq⟩
      refine ⟨rfl, _, rfl, _, rfl, _, rfl, t, _, rfl, .inr ⟨kvs, k, q, .inr ⟨od, hv.sm _ _ upd_same⟩, rfl, hq, (valV_nodup rp.nd (List.mem_of_getElem? hk)).symm⟩, two, fun q1 n1 => ?_⟩
      generalize g1 : upd _ q1 _ = H3
      obtain ⟨s1, f1⟩ := new_of n1 g1
      refine hv.step s1 (s1 _ _ hq) f1 ?_ ?_
      · rw [List.length_take]; omega
      · rw [List.take_add_one, hk]; rfl
    · intro H1 hv
      refine ⟨hv.sm _ _ upd_same, ?_⟩
      rw [List.take_length] at hv
      have hv2 := hv.unl et (fun xs z => nomatch z)
      generalize upd H1 t (.dT kvs) = H2 at hv2
      obtain ⟨ps, hq1, hp1⟩ := hv2.pairs (K := K)
      refine ⟨D, ps, kvs, rfl, hq1, hp1, fun D2 n2 => ?_⟩
      rw [mergeT_new rp.nd]
      have n02 : H D2 = none := hv2.sm.free n2
      have fd0 : Fd H2 D2 (Sd m ff (ledU m) id 0) (upd H2 D2 (.dT kvs)) := ⟨same_new n2, n2, kvs, upd_same, by rw [Sd.zero]; exact rp⟩
      generalize upd H2 D2 (.dT kvs) = H3 at fd0
      have e1 : (((m : Nat) : Int) + 1).toNat = m + 1 := by omega
      refine ⟨_, rfl, _, _, rfl, rfl, _, rfl, by omega, by omega, ?_⟩
      refine for_range (lo := 0) (n := (((m : Nat) : Int) + 1).toNat) (fun i σ H4 => Fd H2 D2 (Sd m ff (ledU m) id i) H4 ∧ ∃ (u4 u5 : Option V), σ = [some (.ref t), some (.int (m : Nat)), some (.ref D2), u4, u5]) ⟨fd0, _, _, rfl⟩ ?_ ?_
      · rintro i σ H4 hi ⟨fd, u4, u5, rfl⟩
        rw [e1] at hi
        rw [show (0 : Int) + (i : Nat) = (i : Nat) by omega]
        obtain ⟨kws, ek, rk⟩ := fd.ex
        have kl2 := rk.len (Sd.in (by omega) (by omega))
        refine ⟨_, rfl, _, rfl, rfl, _, rfl, ?_⟩
        refine if_int (ledU m i : Nat) (fun hc Q' q => ?_) (fun hc Q' q => ?_) ?_
        · have : ((i : Nat) : Int) = (m : Nat) := by have := of_decide_eq_true hc; injection this
          unfold ledU at q
          rw [if_pos (by omega)] at q
          exact ⟨_, rfl, q⟩
        · have : ¬ ((i : Nat) : Int) = (m : Nat) := fun z => of_decide_eq_false hc (by rw [z])
          unfold ledU at q
          rw [if_neg (by omega)] at q
          exact q
        refine ⟨_, rfl, _, rfl, _, rfl, two, fun q4 n4 => ?_⟩
        generalize g4 : upd _ q4 _ = H5
        obtain ⟨s4, f4⟩ := new_of n4 g4
        have szb : 4000000 ≤ sizeLine := by decide
        refine ⟨D2, _, rfl, .inr ⟨kws, keyI i m, q4, s4 _ _ ek, rfl, f4, by omega, rfl⟩, ?_⟩
        have p1 := rk.put i m (ledU m i)
        have kl3 := p1.len (fun x y v hv => by
          by_cases h : x = i ∧ y = m
          · omega
          · rw [if_neg h] at hv
            exact Sd.in (by omega) (by omega) x y v hv)
        have s5 : Same H2 (upd H5 D2 (.dT (putK kws (keyI i m) (.int (ledU m i : Nat))))) := Same.upd0 (fd.sm.trans s4) n2
        have e5 : upd H5 D2 (.dT (putK kws (keyI i m) (.int (ledU m i : Nat)))) D2 = some (.dT (putK kws (keyI i m) (.int (ledU m i : Nat)))) := upd_same
        generalize upd H5 D2 (.dT (putK kws (keyI i m) (.int (ledU m i : Nat)))) = H6 at s5 e5
        refine ⟨_, rfl, _, rfl, _, rfl, _, rfl, two, fun q7 n7 => ?_⟩
        generalize g7 : upd _ q7 _ = H7
        obtain ⟨s7, f7⟩ := new_of n7 g7
        refine ⟨D2, _, rfl, .inr ⟨_, keyI m i, q7, s7 _ _ e5, rfl, f7, by omega, rfl⟩, ⟨Same.upd0 (s5.trans s7) n2, n2, _, upd_same, Sd.step rk (by omega) (by unfold ledU; rw [if_pos rfl]; rfl)⟩, _, _, rfl⟩
      · rintro σ H4 ⟨fd, u4, u5, rfl⟩
        rw [e1] at fd
        obtain ⟨kws, ek, rk⟩ := fd.ex
        rw [Sd.full] at rk
        exact ⟨_, rfl, go D2 H4 (hv2.sm.trans fd.sm) n02 ⟨kws, ek, rk⟩⟩
end
end K12

set_option maxHeartbeats 4000000
/-! Any table. -/
namespace K12
open PySem PySem.Spec L2
/-- closed, and the order of making does not matter -/
structure Tb (m : Nat) (f : Nat → Nat → Nat) : Prop where
  cl : ∀ x < m, ∀ y < m, f x y < m
  as : ∀ x < m, ∀ y < m, ∀ z < m, f (f x y) z = f x (f y z)
theorem cyc_tb0 : ∀ m < 5, ∀ k < m, (∀ x < m, ∀ y < m, cycF m (k + 1) x y < m) ∧ ∀ x < m, ∀ y < m, ∀ z < m, cycF m (k + 1) (cycF m (k + 1) x y) z = cycF m (k + 1) x (cycF m (k + 1) y z) := by decide +kernel
theorem cyc_tb {m l : Nat} (hm : m ≤ 4) (h1 : 1 ≤ l) (h2 : l ≤ m) : Tb m (cycF m l) := by
  have := cyc_tb0 m (by omega) (l - 1) (by omega)
  rw [show l - 1 + 1 = l by omega] at this
  exact ⟨this.1, this.2⟩
section
variable {P : Program} {w : World} {K : PySem.W.Frag} {mg : Str → Option Value} {base : Heap} {a : Ad} {n : Nat}
def spAny : Sp := fun vs H Q _ => ∃ (p : Addr) (k m : Nat), vs = [.ref p, .int (m : Nat)] ∧ Pu p k H ∧ k ≤ 800000000 ∧ 1 ≤ m ∧ m ≤ 4 ∧ ∀ q f H', Ext p 30 H H' → q ≠ p → TbAt H' q m f → Tb m f → Q (.ref q) H'
theorem sc_law_any_table : FnScope ["_law_purse_here", "_law_many", "_law_told", "_law_x", "_law_y", "_law_z"] ["_law_purse_here", "_law_many"] (defScope s_law_any_table) := ⟨rfl, rfl, rfl, by decide +kernel, rfl, by decide +kernel, by decide +kernel⟩
theorem bd_law_any_table : BindsOf "_law_any_table" "_law_any_table" s_law_any_table ["_law_purse_here", "_law_many"] := fun _ _ _ _ _ _ us hl => match us, hl with | [_, _], _ => rfl
theorem d_any (T : Tp K mg a) (D_law_draw : DfDraw P w K mg base n) (D_law_cyclic_table : Df P w K mg base n "_law_cyclic_table" ["_law_many", "_law_lead"] spCy) : Df P w K mg base (n + 1) "_law_any_table" ["_law_purse_here", "_law_many"] spAny := by
  refine df_mk T 56 rfl sc_law_any_table bd_law_any_table (fun vs H Q E h => ?_) (fun f cdv A outer s H vs Q E hr h => ?_)
  · obtain ⟨p, k, m, rfl, _⟩ := h
    rfl
  · obtain ⟨p, k, m, rfl, hp, hk, h1, hm, go⟩ := h
    have hu := hu1 hr
    have hs := szl
    have two : 2 ≤ sizeLine := Nat.le_trans (by decide : 2 ≤ 4096) hs
    have szb : 4000000 ≤ sizeLine := by decide
    refine ⟨_, (pss_cons (ps_set (i := 2) sc_law_any_table.nd rfl (Or.inr rfl) pe_dnewT)
    (pss_cons (ps_for PassesOwn.never rfl (pi_range1 (by rfl) T.f_range (pa_cons (pv 1) pa_nil)) (pg_name (i := 3) sc_law_any_table.nd rfl (Or.inr rfl))
      (pss_one (ps_for PassesOwn.never rfl (pi_range1 (by rfl) T.f_range (pa_cons (pv 1) pa_nil)) (pg_name (i := 4) sc_law_any_table.nd rfl (Or.inr rfl))
        (pss_one (ps_dput hu (pv 2) (pe_tup (pa_cons (pv 3) (pa_cons (pv 4) pa_nil))) (pe_f D_law_draw hr (by rfl) (pa_cons (pv 0) (pa_cons (pv 1) pa_nil))) rfl)))))
    (pss_cons (ps_lock (ps_for PassesOwn.never rfl (pi_keys (pv 2)) (pg_tup rfl (pgs_cons (pg_name (i := 3) sc_law_any_table.nd rfl (Or.inr rfl)) (pgs_cons (pg_name (i := 4) sc_law_any_table.nd rfl (Or.inr rfl)) pgs_nil)))
      (pss_one (ps_if (pt_val (pe_callB (cr_anyK (K := K) rfl rfl) (by rfl) T.f_any (by decide +kernel) (pa_cons (pe_lc (own := [("_law_z", 5)]) rfl sc_law_any_table.nd (pi_range1 (by rfl) T.f_range (pa_cons (pv 1) pa_nil)) (blkOk_by (own := [("_law_z", 5)]) (N := ["_law_purse_here", "_law_many", "_law_told", "_law_x", "_law_y", "_law_z"]) (sc := defScope s_law_any_table) (by decide +kernel)) (fun _ _ _ _ _ => (pg_name (i := 5) sc_law_any_table.nd rfl (Or.inl rfl))) (fun _ _ _ _ _ => pts_nil) (fun _ _ _ _ _ => (pe_cmpR op_ne (pe_dget hu (pv 2) (pe_tup (pa_cons (pe_dget hu (pv 2) (pe_tup (pa_cons (pv 3) (pa_cons (pv 4) pa_nil))) (fun _ _ => rfl)) (pa_cons (pv 5) pa_nil))) (fun _ _ => rfl)) (pe_dget hu (pv 2) (pe_tup (pa_cons (pv 3) (pa_cons (pe_dget hu (pv 2) (pe_tup (pa_cons (pv 4) (pa_cons (pv 5) pa_nil))) (fun _ _ => rfl)) pa_nil))) (fun _ _ => rfl)) (nomark _)))) pa_nil)))
        (pss_one (ps_ret (pe_f D_law_cyclic_table hr (by rfl) (pa_cons (pv 1) (pa_cons (pe_op op_add pe_int (pe_f D_law_draw hr (by rfl) (pa_cons (pv 0) (pa_cons (pv 1) pa_nil)))) pa_nil)))))
        pss_nil))))
    (pss_one (ps_ret (pv 2)))))), ?_⟩
    refine fun D nD => ?_
    have nDp := hp.ne nD
    have em : (m : Int).toNat = m := by omega
    refine ⟨_, rfl, m, rfl, by omega, by omega, ?_⟩
    refine for_range (lo := 0) (n := (m : Int).toNat) (fun i σ H1 => Ext p (i * m) H H1 ∧ (∃ f kvs, H1 D = some (.dT kvs) ∧ Rep kvs (Fil m f i 0) ∧ ∀ x y, f x y < m) ∧ ∃ (u3 u4 : Option V), σ = [some (.ref p), some (.int (m : Nat)), some (.ref D), u3, u4, none])
      ⟨by rw [Nat.zero_mul]; exact .of (same_new nD), ⟨fun _ _ => 0, [], upd_same, by rw [Fil.zero]; exact .nil, fun _ _ => h1⟩, _, _, rfl⟩ ?_ ?_
    · rintro i σ H1 hi ⟨x1, tf, u3, u4, rfl⟩
      rw [em] at hi
      refine ⟨_, rfl, m, rfl, by omega, by omega, ?_⟩
      refine for_range (lo := 0) (n := (m : Int).toNat) (fun j σ H1 => Ext p (i * m + j) H H1 ∧ (∃ f kvs, H1 D = some (.dT kvs) ∧ Rep kvs (Fil m f i j) ∧ ∀ x y, f x y < m) ∧ ∃ (u4 : Option V), σ = [some (.ref p), some (.int (m : Nat)), some (.ref D), some (.int (i : Nat)), u4, none])
        ⟨x1, tf, u4, by rw [show (0 : Int) + (i : Nat) = (i : Nat) by omega]; rfl⟩ ?_ ?_
      · rintro j σ H2 hj ⟨x2, ⟨ff, kvs, ek, rk, bk⟩, u4, rfl⟩
        rw [em] at hj
        rw [show (0 : Int) + (j : Nat) = (j : Nat) by omega]
        have im : i * m + j ≤ 16 := by
          have : i * m ≤ 3 * 4 := Nat.mul_le_mul (by omega) (by omega)
          omega
        refine ⟨_, rfl, _, rfl, p, _, _, rfl, x2.pu _ hp, by omega, ⟨by omega, by omega⟩, fun d H3 d0 d1 x3 => ?_⟩
        obtain ⟨dn, rfl⟩ : ∃ dn : Nat, d = (dn : Nat) := ⟨d.toNat, by omega⟩
        refine ⟨_, rfl, _, rfl, _, rfl, two, fun q4 n4 => ?_⟩
        generalize g4 : upd _ q4 _ = H4
        obtain ⟨s4, f4⟩ := new_of n4 g4
        have e4 := s4 _ _ (x3.keep _ _ nDp ek)
        have kl := rk.len (Fil.in (by omega) (by omega) (by omega))
        have x4 := (x2.trans x3).same s4
        refine ⟨D, _, rfl, .inr ⟨kvs, keyI i j, q4, e4, rfl, f4, by omega, rfl⟩, (x4.upd0 nD).mono (by omega), ⟨fun a b => if a = i ∧ b = j then dn else ff a b, _, upd_same, ?_, fun x y => ?_⟩, _, rfl⟩
        · have r1 : Rep kvs (Fil m (fun a b => if a = i ∧ b = j then dn else ff a b) i j) := by
            rw [show Fil m (fun a b => if a = i ∧ b = j then dn else ff a b) i j = Fil m ff i j from by
              funext a b
              unfold Fil
              by_cases h : (a < i ∧ b < m) ∨ (a = i ∧ b < j)
              · rw [if_pos h, if_pos h]
                show some (if a = i ∧ b = j then dn else ff a b) = _
                rw [if_neg (by omega)]
              · rw [if_neg h, if_neg h]]
            exact rk
          have := Fil.step r1 hj
          rw [show (if i = i ∧ j = j then dn else ff i j) = dn from if_pos ⟨rfl, rfl⟩] at this
          exact this
        · show (if x = i ∧ y = j then dn else ff x y) < m
          split
          · omega
          · exact bk x y
      · rintro σ H2 ⟨x2, ⟨ff, kvs, ek, rk, bk⟩, u4, rfl⟩
        rw [em, Fil.row] at rk
        rw [em] at x2
        exact ⟨x2.mono (by rw [Nat.succ_mul]; exact Nat.le_refl _), ⟨ff, kvs, ek, rk, bk⟩, _, _, rfl⟩
    · rintro σ H1 ⟨x1, ⟨ff, kvs, ek, rk, bk⟩, u3, u4, rfl⟩
      rw [em, Fil.full] at rk
      rw [em] at x1
      have mm : m * m ≤ 16 := Nat.mul_le_mul hm hm
      have x16 : Ext p 16 H H1 := x1.mono mm
      have pu1 := x16.pu _ hp
      have kl := rk.len (Full.in (by omega))
      -- is it one of those?
      refine ⟨D, _, ek, trivial, fun od => ?_⟩
      have pu2 : Pu p (k + 16) (upd H1 D (.frz od (.dT kvs))) := by
        obtain ⟨a, b, c, e, r⟩ := pu1
        exact ⟨a, b, c, by rw [upd_ne nDp.symm]; exact e, r⟩
      refine ⟨_, rfl, D, od, rfl, .inr ⟨_, upd_same, ?_⟩⟩
      refine for_it walk_keysT (fun i σ H2 => Same (upd H1 D (.frz od (.dT kvs))) H2 ∧ (∀ j, j < i → ∀ x y v, kvs[j]? = some (keyI x y, v) → ∀ z < m, ff (ff x y) z = ff x (ff y z)) ∧ ∃ (u3 u4 : Option V), σ = [some (.ref p), some (.int (m : Nat)), some (.ref D), u3, u4, none])
        ⟨Same.refl _, fun j hj => absurd hj (Nat.not_lt_zero _), _, _, rfl⟩ (fun i σ H2 _ hv => hv.1 _ _ upd_same) ?_ ?_
      · rintro i v σ H2 H3 hi ⟨s2, okj, u3, u4, rfl⟩ ⟨rfl, kk, vv, q, hkk, rfl, hq⟩
        obtain ⟨x, y, vn, e1, hv⟩ := rk.to _ (List.mem_of_getElem? hkk)
        injection e1 with e1 e2
        subst e1 e2
        have hxy : x < m ∧ y < m ∧ vn = ff x y := by
          unfold Full at hv
          split at hv
          · rename_i h; cases hv; exact ⟨h.1, h.2, rfl⟩
          · cases hv
        obtain ⟨hx, hy, rfl⟩ := hxy
        have eD := s2 _ _ (upd_same (H := H1) (a := D) (o := .frz od (.dT kvs)))
        refine ⟨q, _, rfl, SqT.of hq, rfl, _, _, rfl, _, _, rfl, rfl, ?_⟩
        refine ⟨_, rfl, _, rfl, by omega, by omega, fun D2 n2 => ?_⟩
        refine lc_range (lo := 0) (n := (m : Int).toNat) (fun z H4 => Ac _ D2 ((List.range z).map fun z => V.bl (!decide (ff (ff x y) z = ff x (ff y z)))) H4) (Ac.start n2) ?_ ?_
        · rintro z H4 hz ac
          rw [em] at hz
          rw [show (0 : Int) + (z : Nat) = (z : Nat) by omega]
          have fx := bk x y
          have fy := bk y z
          refine ⟨rfl, _, rfl, _, rfl, _, rfl, _, rfl, two, fun q1 n1 => ?_⟩
          generalize g1 : upd _ q1 _ = H5
          obtain ⟨s5, f5⟩ := new_of n1 g1
          have eD5 := s5 _ _ (ac.sm _ _ eD)
          refine ⟨D, _, rfl, .inr ⟨kvs, keyI x y, q1, .inr ⟨od, eD5⟩, rfl, f5, (rk.val (Full.get hx hy)).symm⟩, _, rfl, two, fun q2 n2 => ?_⟩
          generalize g2 : upd _ q2 _ = H6
          obtain ⟨s6, f6⟩ := new_of n2 g2
          have eD6 := s6 _ _ eD5
          refine ⟨D, _, rfl, .inr ⟨kvs, keyI (ff x y) z, q2, .inr ⟨od, eD6⟩, rfl, f6, (rk.val (Full.get fx hz)).symm⟩, ?_⟩
          refine ⟨_, rfl, _, rfl, _, rfl, _, rfl, _, rfl, two, fun q3 n3 => ?_⟩
          generalize g3 : upd _ q3 _ = H7
          obtain ⟨s7, f7⟩ := new_of n3 g3
          have eD7 := s7 _ _ eD6
          refine ⟨D, _, rfl, .inr ⟨kvs, keyI y z, q3, .inr ⟨od, eD7⟩, rfl, f7, (rk.val (Full.get hy hz)).symm⟩, two, fun q4 n4 => ?_⟩
          generalize g4 : upd _ q4 _ = H8
          obtain ⟨s8, f8⟩ := new_of n4 g4
          have eD8 := s8 _ _ eD7
          refine ⟨D, _, rfl, .inr ⟨kvs, keyI x (ff y z), q4, .inr ⟨od, eD8⟩, rfl, f8, (rk.val (Full.get hx fy)).symm⟩, rfl, ?_⟩
          refine ac.step (s5.trans (s6.trans (s7.trans s8))) ?_ ?_
          · rw [List.length_map, List.length_range]; omega
          · rw [List.range_succ, List.map_append]
            congr 1
            show [V.bl _] = [V.bl _]
            congr 3
            exact decide_eq_decide.mpr ⟨fun h => by rw [h], fun h => by injection h with h; omega⟩
        · rintro H4 ac
          rw [em] at ac
          refine ⟨D2, (List.range m).map fun z => !decide (ff (ff x y) z = ff x (ff y z)), rfl, SqL.of (by rw [List.map_map]; exact ac.at_), _, rfl, ?_⟩
          have s24 := s2.trans ac.sm
          cases hb : ((List.range m).map fun z => !decide (ff (ff x y) z = ff x (ff y z))).any id with
          | true =>
            refine ifT ?_
            have pu4 : Pu p (k + 16) H4 := by
              obtain ⟨a, b, c, e, r⟩ := pu2
              exact ⟨a, b, c, s24 _ _ e, r⟩
            refine ⟨_, rfl, _, rfl, _, rfl, p, _, _, rfl, pu4, by omega, ⟨by omega, by omega⟩, fun d H5 d0 d1 x5 => ⟨_, _, rfl, rfl, ?_⟩⟩
            obtain ⟨dn, rfl⟩ : ∃ dn : Nat, d = (dn : Nat) := ⟨d.toNat, by omega⟩
            refine ⟨m, dn + 1, congrArg (fun z : Int => [V.int (m : Nat), V.int z]) (by omega : (1 : Int) + (dn : Nat) = ((dn + 1 : Nat) : Nat)), by omega, by omega, hm, fun q H6 s6 nq tq => ?_⟩
            have xu : Ext p 1 (upd H1 D (.frz od (.dT kvs))) H6 := (Ext.pre s24 x5).same s6
            have eD6 := xu.keep D _ nDp upd_same
            refine ⟨eD6, ?_⟩
            have x6 := Ext.unlock nDp ek xu
            have pu6 := x5.pu _ pu4
            refine go q (cycF m (dn + 1)) _ ((x16.trans x6).mono (by omega)) (pu6.ne nq) ?_ (cyc_tb hm (by omega) (by omega))
            obtain ⟨kws, ew, rw_⟩ := tq
            refine ⟨kws, ?_, rw_⟩
            rw [upd_ne (fun z => by
              subst z
              rw [x5.keep _ _ nDp (s24 _ _ upd_same)] at nq
              cases nq)]
            exact ew
          | false =>
            refine ifF ?_
            refine ⟨s24, fun j hj x' y' v' hkj z hz => ?_, _, _, rfl⟩
            by_cases hji : j < i
            · exact okj j hji x' y' v' hkj z hz
            · obtain rfl : j = i := by omega
              rw [hkk] at hkj
              injection hkj with hkj
              injection hkj with hkj _
              obtain ⟨rfl, rfl⟩ := keyI_inj hkj
              have := List.any_eq_false.mp hb (!decide (ff (ff x y) z = ff x (ff y z))) (List.mem_map.mpr ⟨z, List.mem_range.mpr hz, rfl⟩)
              simpa using this
      · rintro σ H2 ⟨s2, okj, u3, u4, rfl⟩
        have eD := s2 _ _ (upd_same (H := H1) (a := D) (o := .frz od (.dT kvs)))
        refine ⟨eD, _, rfl, ?_⟩
        have sE : Same H1 (upd H2 D (.dT kvs)) := Same.unlock ek s2
        refine go D ff _ ((x16.same sE).mono (by omega)) nDp ⟨kvs, upd_same, rk⟩ ⟨fun x _ y _ => bk x y, fun x hx y hy z hz => ?_⟩
        obtain ⟨j, hj⟩ := List.mem_iff_getElem?.mp (rk.fro x y _ (Full.get hx hy))
        exact okj j (List.getElem?_eq_some_iff.mp hj).1 x y _ hj z hz
end
end K12

set_option maxHeartbeats 8000000
/-! The table that is drawn. -/
namespace K12
open PySem PySem.Spec L2
def TbD (m : Nat) (f : Nat → Nat → Nat) : Prop := (∀ x < m, ∀ y < m, f x y < m) ∧ ∀ x < m, ∀ y < m, ∀ z < m, f (f x y) z = f x (f y z)
instance (m : Nat) (f : Nat → Nat → Nat) : Decidable (TbD m f) := inferInstanceAs (Decidable ((∀ x < m, ∀ y < m, f x y < m) ∧ ∀ x < m, ∀ y < m, ∀ z < m, f (f x y) z = f x (f y z)))
theorem Tb.of {m : Nat} {f : Nat → Nat → Nat} (h : TbD m f) : Tb m f := ⟨h.1, h.2⟩
theorem plain_tb : ∀ w < 8, ∀ m < 5, TbD m (plainF w m) := by decide +kernel
theorem wide_tb : ∀ w < 8, ∀ m < 4, ∀ c < 2, TbD (m + 1) (sideF m (plainF w m) (wideU c m) (wideU c m)) := by decide +kernel
theorem twin_tb : ∀ w < 8, ∀ m < 4, ∀ t < m, TbD (m + 1) (twinF (plainF w m) m t) := by decide +kernel
theorem lead_tb : ∀ w < 2, ∀ m < 4, TbD (m + 1) (sideF m (plainF (w + 1) m) (ledU m) id) := by decide +kernel
theorem two_tb : ∀ w < 8, ∀ v < 8, TbD 4 (twoF (plainF w 2) (plainF v 2)) := by decide +kernel
theorem Tb.op {m : Nat} {f : Nat → Nat → Nat} (h : Tb m f) : Tb m fun x y => f y x := ⟨fun x hx y hy => h.cl y hy x hx, fun x hx y hy z hz => (h.as z hz y hy x hx).symm⟩
theorem sort_ex : ∀ ws : List Str, ws.Nodup → ∃ ks : List Str, ks.Perm ws ∧ ks.Pairwise slt
  | [], _ => ⟨[], .refl _, .nil⟩
  | x :: ws, h => by
    have hn := List.nodup_cons.mp h
    obtain ⟨ks, hp, hs⟩ := sort_ex ws hn.2
    have hx : x ∉ ks := fun m => hn.1 (hp.subset m)
    have ins : ∀ l : List Str, l.Pairwise slt → x ∉ l → ∃ l' : List Str, l'.Perm (x :: l) ∧ l'.Pairwise slt := by
      intro l
      induction l with
      | nil => intro _ _; exact ⟨[x], .refl _, List.pairwise_singleton _ _⟩
      | cons y l ih =>
        intro hl hxl
        have q := List.pairwise_cons.mp hl
        by_cases hlt : slt x y
        · refine ⟨x :: y :: l, .refl _, List.pairwise_cons.mpr ⟨fun z hz => ?_, hl⟩⟩
          rcases List.mem_cons.mp hz with e | hz
          · rw [e]; exact hlt
          · exact slt_trans hlt (q.1 z hz)
        · have hyx : slt y x := Classical.byContradiction fun hn => hxl (by rw [slt_tri hlt hn]; exact List.mem_cons_self)
          obtain ⟨l', p', s'⟩ := ih q.2 fun m => hxl (List.mem_cons_of_mem _ m)
          refine ⟨y :: l', (List.Perm.cons y p').trans (List.Perm.swap x y l), List.pairwise_cons.mpr ⟨fun z hz => ?_, s'⟩⟩
          rcases List.mem_cons.mp (p'.subset hz) with e | hz
          · rw [e]; exact hyx
          · exact q.1 z hz
    obtain ⟨l', p', s'⟩ := ins ks hs hx
    exact ⟨l', p'.trans (List.Perm.cons x hp), s'⟩
/-- a table of words -/
structure WTb (ks : List Str) (mul : Str → Str → Str) : Prop where
  kw : ∀ k ∈ ks, isWord k
  kst : ks.Pairwise slt
  kn : ks.length ≤ 4
  kp : 0 < ks.length
  cl : ∀ a ∈ ks, ∀ b ∈ ks, mul a b ∈ ks
  as : ∀ a ∈ ks, ∀ b ∈ ks, ∀ c ∈ ks, mul (mul a b) c = mul a (mul b c)
def wName (ws : List Str) (e : List Key × V) : List Key × V := match e with
  | ([.inl x, .inl y], .int v) => (keyP (ws.getD x.toNat "", ws.getD y.toNat ""), .str (ws.getD v.toNat ""))
  | e => e
theorem wName_of (ws : List Str) (x y v : Nat) : wName ws (keyI x y, .int (v : Nat)) = (keyP (ws.getD x "", ws.getD y ""), .str (ws.getD v "")) := rfl
def mulOf (kvs : List (List Key × V)) (a b : Str) : Str := match valV kvs (keyP (a, b)) with
  | some (.str z) => z
  | _ => ""
/-- a table of numbers, told in words -/
theorem named_tb {kvs : List (List Key × V)} {m : Nat} {f : Nat → Nat → Nat} {ws : List Str} (rk : Rep kvs (Full m f)) (tb : Tb m f) (h1 : 1 ≤ m) (h4 : m ≤ 4) (hl : ws.length = m) (hn : ws.Nodup) (hw : ∀ x ∈ ws, isWord x) :
    ((kvs.map (wName ws)).map (·.1)).Nodup ∧ ∃ (ks : List Str) (qs : List (Str × Str)), (kvs.map (wName ws)).map (·.1) = qs.map keyP ∧ qs.Perm (prs ks) ∧ WTb ks (mulOf (kvs.map (wName ws))) ∧
      (∀ q ∈ prs ks, valV (kvs.map (wName ws)) (keyP q) = some (.str (mulOf (kvs.map (wName ws)) q.1 q.2))) ∧ ks.Perm ws := by
  have get : ∀ x, x < m → ∃ h : x < ws.length, ws.getD x "" = ws[x] := fun x hx => ⟨by omega, by rw [List.getD_eq_getElem?_getD, List.getElem?_eq_getElem (by omega)]; rfl⟩
  have inj : ∀ x y, x < m → y < m → ws.getD x "" = ws.getD y "" → x = y := fun x y hx hy e => by
    obtain ⟨h1, e1⟩ := get x hx
    obtain ⟨h2, e2⟩ := get y hy
    rw [e1, e2] at e
    exact (List.getElem_inj hn).mp e
  have ent : ∀ e ∈ kvs, ∃ x y, x < m ∧ y < m ∧ e = (keyI x y, V.int (f x y : Nat)) := fun e he => by
    obtain ⟨x, y, v, e1, hv⟩ := rk.to e he
    unfold Full at hv
    split at hv
    · rename_i h; cases hv; exact ⟨x, y, h.1, h.2, e1⟩
    · cases hv
  have nd : ((kvs.map (wName ws)).map (·.1)).Nodup := by
    have gen : ∀ l : List (List Key × V), (∀ e ∈ l, ∃ x y, x < m ∧ y < m ∧ e = (keyI x y, V.int (f x y : Nat))) → (l.map (·.1)).Nodup → ((l.map (wName ws)).map (·.1)).Nodup := by
      intro l
      induction l with
      | nil => intro _ _; exact List.nodup_nil
      | cons e l ih =>
        intro he hnd
        rw [List.map_cons] at hnd
        have n := List.nodup_cons.mp hnd
        rw [List.map_cons, List.map_cons, List.nodup_cons]
        refine ⟨fun hm => ?_, ih (fun e m => he e (List.mem_cons_of_mem _ m)) n.2⟩
        obtain ⟨e2, he2, e3⟩ := List.mem_map.mp hm
        obtain ⟨e4, he4, rfl⟩ := List.mem_map.mp he2
        obtain ⟨x, y, hx, hy, rfl⟩ := he e List.mem_cons_self
        obtain ⟨x', y', hx', hy', rfl⟩ := he e4 (List.mem_cons_of_mem _ he4)
        rw [wName_of, wName_of] at e3
        have := keyP_inj e3
        have i1 := inj x' x hx' hx (congrArg Prod.fst this)
        have i2 := inj y' y hy' hy (congrArg Prod.snd this)
        subst i1 i2
        exact n.1 (List.mem_map.mpr ⟨_, he4, rfl⟩)
    exact gen kvs ent rk.nd
  have val : ∀ x y, x < m → y < m → valV (kvs.map (wName ws)) (keyP (ws.getD x "", ws.getD y "")) = some (.str (ws.getD (f x y) "")) := fun x y hx hy =>
    valV_nodup nd (List.mem_map.mpr ⟨_, rk.fro x y _ (Full.get hx hy), wName_of ws x y (f x y)⟩)
  have mulv : ∀ x y, x < m → y < m → mulOf (kvs.map (wName ws)) (ws.getD x "") (ws.getD y "") = ws.getD (f x y) "" := fun x y hx hy => by
    unfold mulOf
    rw [val x y hx hy]
  obtain ⟨ks, hp, hs⟩ := sort_ex ws hn
  have idx : ∀ k ∈ ks, ∃ x, x < m ∧ k = ws.getD x "" := fun k hk => by
    obtain ⟨x, hx⟩ := List.mem_iff_getElem?.mp (hp.subset hk)
    obtain ⟨hlt, e⟩ := List.getElem?_eq_some_iff.mp hx
    exact ⟨x, by omega, by obtain ⟨_, e2⟩ := get x (by omega); rw [e2, e]⟩
  have memk : ∀ x, x < m → ws.getD x "" ∈ ks := fun x hx => by
    obtain ⟨h, e⟩ := get x hx
    rw [e]
    exact hp.symm.subset (List.getElem_mem h)
  have keys : ∀ k ∈ (kvs.map (wName ws)).map (·.1), ∃ q : Str × Str, k = keyP q := fun k hk => by
    obtain ⟨e, he, rfl⟩ := List.mem_map.mp hk
    obtain ⟨e2, he2, rfl⟩ := List.mem_map.mp he
    obtain ⟨x, y, hx, hy, rfl⟩ := ent e2 he2
    exact ⟨_, rfl⟩
  have gen : ∀ l : List (List Key), (∀ k ∈ l, ∃ q : Str × Str, k = keyP q) → ∃ qs : List (Str × Str), l = qs.map keyP := by
    intro l
    induction l with
    | nil => intro _; exact ⟨[], rfl⟩
    | cons k l ih =>
      intro h
      obtain ⟨q, e⟩ := h k List.mem_cons_self
      obtain ⟨qs, e2⟩ := ih fun k m => h k (List.mem_cons_of_mem _ m)
      exact ⟨q :: qs, by rw [e, e2]; rfl⟩
  obtain ⟨qs, hqs⟩ := gen _ keys
  have qn : qs.Nodup := by
    have := nd
    rw [hqs, List.nodup_iff_pairwise_ne, List.pairwise_map] at this
    exact this.imp fun {a b} h e => h (by rw [e])
  have qp : qs.Perm (prs ks) := (List.perm_ext_iff_of_nodup qn (prs_nodup hs)).mpr fun q => by
    constructor
    · intro hq
      have : keyP q ∈ (kvs.map (wName ws)).map (·.1) := by rw [hqs]; exact List.mem_map.mpr ⟨q, hq, rfl⟩
      obtain ⟨e, he, e1⟩ := List.mem_map.mp this
      obtain ⟨e2, he2, rfl⟩ := List.mem_map.mp he
      obtain ⟨x, y, hx, hy, rfl⟩ := ent e2 he2
      rw [wName_of] at e1
      have := keyP_inj e1
      rw [← this]
      exact mem_prs.mpr ⟨memk x hx, memk y hy⟩
    · intro hq
      obtain ⟨h1, h2⟩ := mem_prs.mp hq
      obtain ⟨x, hx, e1⟩ := idx _ h1
      obtain ⟨y, hy, e2⟩ := idx _ h2
      have : keyP q ∈ qs.map keyP := by
        rw [← hqs]
        refine List.mem_map.mpr ⟨_, valV_mem (val x y hx hy), ?_⟩
        rw [← e1, ← e2]
      obtain ⟨q', hq', e⟩ := List.mem_map.mp this
      rw [← keyP_inj e]
      exact hq'
  refine ⟨nd, ks, qs, hqs, qp, ⟨fun k hk => hw k (hp.subset hk), hs, by rw [hp.length_eq]; omega, by rw [hp.length_eq]; omega, fun a ha b hb => ?_, fun a ha b hb c hc => ?_⟩, fun q hq => ?_, hp⟩
  · obtain ⟨x, hx, rfl⟩ := idx a ha
    obtain ⟨y, hy, rfl⟩ := idx b hb
    rw [mulv x y hx hy]
    exact memk _ (tb.cl x hx y hy)
  · obtain ⟨x, hx, rfl⟩ := idx a ha
    obtain ⟨y, hy, rfl⟩ := idx b hb
    obtain ⟨z, hz, rfl⟩ := idx c hc
    rw [mulv x y hx hy, mulv _ z (tb.cl x hx y hy) hz, mulv y z hy hz, mulv x _ hx (tb.cl y hy z hz), tb.as x hx y hy z hz]
  · obtain ⟨h1, h2⟩ := mem_prs.mp hq
    obtain ⟨x, hx, e1⟩ := idx _ h1
    obtain ⟨y, hy, e2⟩ := idx _ h2
    have : keyP q = keyP (ws.getD x "", ws.getD y "") := by rw [← e1, ← e2]
    rw [this, val x y hx hy, e1, e2, mulv x y hx hy]
theorem if_and {c : Bool} {t : TT} {σ : L2.St} {H : Hp} {Qc : Bool → Hp → Prop} (R : Bool → Hp → Prop) (h1 : c = true → ∀ Q : Bool → Hp → Prop, (∀ b H', R b H' → Q b H') → t σ H Q) (h2 : c = false → R false H) (q : ∀ b H', R b H' → Qc b H') : if c = true then t σ H Qc else Qc false H := by
  cases c with
  | true => exact ifT (h1 rfl Qc q)
  | false => exact ifF (q _ _ (h2 rfl))
theorem plEq {y m : Nat} (e : ((m : Nat) : Int) - 1 = ((m - 1 : Nat) : Nat)) : [V.int (y : Nat), V.int (((m : Nat) : Int) - 1)] = [V.int (y : Nat), V.int ((m - 1 : Nat) : Nat)] := by rw [e]
theorem wdEq {q : Addr} {m c : Nat} (e : ((m : Nat) : Int) - 1 = ((m - 1 : Nat) : Nat)) : [V.ref q, V.int (((m : Nat) : Int) - 1), V.int (c : Nat)] = [V.ref q, V.int ((m - 1 : Nat) : Nat), V.int (c : Nat)] := by rw [e]
theorem ldEq {y m : Nat} (h : (1 : Int) + (y : Nat) = ((y + 1 : Nat) : Nat)) (e : ((m : Nat) : Int) - 1 = ((m - 1 : Nat) : Nat)) : [V.int ((1 : Int) + (y : Nat)), V.int (((m : Nat) : Int) - 1)] = [V.int ((y + 1 : Nat) : Nat), V.int ((m - 1 : Nat) : Nat)] := by rw [e, h]
theorem ldEq' {q : Addr} {m : Nat} (e : ((m : Nat) : Int) - 1 = ((m - 1 : Nat) : Nat)) : [V.ref q, V.int (((m : Nat) : Int) - 1)] = [V.ref q, V.int ((m - 1 : Nat) : Nat)] := by rw [e]
/-- an entry turned about -/
def flipK (e : List Key × V) : List Key × V := (e.1.reverse, e.2)
theorem flip_rep {kvs : List (List Key × V)} {m : Nat} {f : Nat → Nat → Nat} (rk : Rep kvs (Full m f)) : Rep (kvs.map flipK) (Full m fun x y => f y x) := by
  refine ⟨?_, fun e he => ?_, fun x y v hv => ?_⟩
  · have h := rk.nd
    rw [List.map_map, show (kvs.map ((·.1) ∘ flipK)) = (kvs.map (·.1)).map List.reverse by rw [List.map_map]; rfl, List.nodup_iff_pairwise_ne, List.pairwise_map]
    rw [List.nodup_iff_pairwise_ne] at h
    exact h.imp fun {a b} hab e => hab (by have := congrArg List.reverse e; rwa [List.reverse_reverse, List.reverse_reverse] at this)
  · obtain ⟨e2, he2, rfl⟩ := List.mem_map.mp he
    obtain ⟨x, y, v, e1, hv⟩ := rk.to e2 he2
    refine ⟨y, x, v, by rw [e1]; rfl, ?_⟩
    unfold Full at hv ⊢
    split at hv
    · rename_i h
      rw [if_pos ⟨h.2, h.1⟩]; exact hv
    · cases hv
  · unfold Full at hv
    split at hv
    · rename_i h
      cases hv
      exact List.mem_map.mpr ⟨_, rk.fro y x _ (Full.get h.2 h.1), rfl⟩
    · cases hv
section
variable {P : Program} {w : World} {K : PySem.W.Frag} {mg : Str → Option Value} {base : Heap} {a : Ad} {n : Nat}
def spTable : Sp := fun vs H Q _ => ∃ (p : Addr) (k m : Nat), vs = [.ref p, .int (m : Nat)] ∧ Pu p k H ∧ k ≤ 700000000 ∧ 1 ≤ m ∧ m ≤ 4 ∧ ∀ q ks mul H', Ext p 400 H H' → q ≠ p → H' q = some (.dT (grid ks mul)) → WTb ks mul → Q (.ref q) H'
theorem sc_law_table : FnScope ["_law_purse_here", "_law_most", "_law_many", "_law_words_here", "_law_named", "_law_way", "_law_told", "_law_late", "_law_pair", "_law_x", "_law_y"] ["_law_purse_here", "_law_most"] (defScope s_law_table) := ⟨rfl, rfl, rfl, by decide +kernel, rfl, by decide +kernel, by decide +kernel⟩
theorem bd_law_table : BindsOf "_law_table" "_law_table" s_law_table ["_law_purse_here", "_law_most"] := fun _ _ _ _ _ _ us hl => match us, hl with | [_, _], _ => rfl
theorem d_table (T : Tp K mg a) (D_law_draw : DfDraw P w K mg base n) (D_law_any_table : Df P w K mg base n "_law_any_table" ["_law_purse_here", "_law_many"] spAny) (D_law_leading_table : Df P w K mg base n "_law_leading_table" ["_law_told", "_law_many"] spLe)
    (D_law_plain_table : Df P w K mg base n "_law_plain_table" ["_law_way", "_law_many"] spPl) (D_law_twin_table : Df P w K mg base n "_law_twin_table" ["_law_told", "_law_many", "_law_twin"] spTw) (D_law_twofold_table : Df P w K mg base n "_law_twofold_table" ["_law_one", "_law_other"] spTf)
    (D_law_wide_table : Df P w K mg base n "_law_wide_table" ["_law_told", "_law_many", "_law_way"] spWi) (D_law_words : Df P w K mg base n "_law_words" ["_law_purse_here", "_law_many"] spWds) : Df P w K mg base (n + 1) "_law_table" ["_law_purse_here", "_law_most"] spTable := by
  refine df_mk T 40 rfl sc_law_table bd_law_table (fun vs H Q E h => ?_) (fun f cdv A outer s H vs Q E hr h => ?_)
  · obtain ⟨p, k, m, rfl, _⟩ := h
    rfl
  · obtain ⟨p, k, m0, rfl, hp, hk, hm1, hm4, go⟩ := h
    have hu := hu1 hr
    have hu2 := hu2_ hr
    have hs := szl
    have two : 2 ≤ sizeLine := Nat.le_trans (by decide : 2 ≤ 4096) hs
    refine ⟨_, (pss_cons (ps_set (i := 2) sc_law_table.nd rfl (Or.inl rfl) (pe_op op_add pe_int (pe_f D_law_draw hr (by rfl) (pa_cons (pv 0) (pa_cons (pv 1) pa_nil)))))
    (pss_cons (ps_asg (pe_tup (pa_cons (pe_f D_law_draw hr (by rfl) (pa_cons (pv 0) (pa_cons pe_int pa_nil))) (pa_cons pe_non (pa_cons (pe_f D_law_draw hr (by rfl) (pa_cons (pv 0) (pa_cons pe_int pa_nil))) pa_nil)))) (pg_tup rfl (pgs_cons (pg_name (i := 5) sc_law_table.nd rfl (Or.inl rfl)) (pgs_cons (pg_name (i := 6) sc_law_table.nd rfl (Or.inr rfl)) (pgs_cons (pg_name (i := 7) sc_law_table.nd rfl (Or.inl rfl)) pgs_nil)))))
    (C8.pss_cut (ps_if (PW.pt (pw_and (pt_cmpR op_eq (pv 2) pe_int (nomark _)) (pw_and1 (pt_cmpR op_eq (pe_f D_law_draw hr (by rfl) (pa_cons (pv 0) (pa_cons pe_int pa_nil))) pe_int (nomark _)))))
      (pss_one (ps_set (i := 6) sc_law_table.nd rfl (Or.inr rfl) (pe_f D_law_twofold_table hr (by rfl) (pa_cons (pe_f D_law_plain_table hr (by rfl) (pa_cons (pv 5) (pa_cons pe_int pa_nil))) (pa_cons (pe_f D_law_plain_table hr (by rfl) (pa_cons (pe_f D_law_draw hr (by rfl) (pa_cons (pv 0) (pa_cons pe_int pa_nil))) (pa_cons pe_int pa_nil))) pa_nil)))))
      (pss_one (ps_if (PW.pt (pw_and (pt_cmpR op_gt (pv 2) pe_int (nomark _)) (pw_and1 (pt_cmpR op_lt (pv 7) pe_int (nomark _)))))
        (pss_one (ps_set (i := 6) sc_law_table.nd rfl (Or.inr rfl) (pe_f D_law_wide_table hr (by rfl) (pa_cons (pe_f D_law_plain_table hr (by rfl) (pa_cons (pv 5) (pa_cons (pe_op op_sub (pv 2) pe_int) pa_nil))) (pa_cons (pe_op op_sub (pv 2) pe_int) (pa_cons (pv 7) pa_nil))))))
        (pss_one (ps_if (PW.pt (pw_and (pt_cmpR op_gt (pv 2) pe_int (nomark _)) (pw_and1 (pt_cmpR op_eq (pv 7) pe_int (nomark _)))))
          (pss_one (ps_set (i := 6) sc_law_table.nd rfl (Or.inr rfl) (pe_f D_law_twin_table hr (by rfl) (pa_cons (pe_f D_law_plain_table hr (by rfl) (pa_cons (pv 5) (pa_cons (pe_op op_sub (pv 2) pe_int) pa_nil))) (pa_cons (pe_op op_sub (pv 2) pe_int) (pa_cons (pe_f D_law_draw hr (by rfl) (pa_cons (pv 0) (pa_cons (pe_op op_sub (pv 2) pe_int) pa_nil))) pa_nil))))))
          (pss_one (ps_if (PW.pt (pw_and (pt_cmpR op_gt (pv 2) pe_int (nomark _)) (pw_and1 (pt_cmpR op_eq (pv 7) pe_int (nomark _)))))
            (pss_one (ps_set (i := 6) sc_law_table.nd rfl (Or.inr rfl) (pe_f D_law_leading_table hr (by rfl) (pa_cons (pe_f D_law_plain_table hr (by rfl) (pa_cons (pe_op op_add pe_int (pe_f D_law_draw hr (by rfl) (pa_cons (pv 0) (pa_cons pe_int pa_nil)))) (pa_cons (pe_op op_sub (pv 2) pe_int) pa_nil))) (pa_cons (pe_op op_sub (pv 2) pe_int) pa_nil)))))
            (pss_one (ps_if (pt_cmpR op_lt (pv 7) pe_int (nomark _))
              (pss_one (ps_set (i := 6) sc_law_table.nd rfl (Or.inr rfl) (pe_f D_law_any_table hr (by rfl) (pa_cons (pv 0) (pa_cons (pv 2) pa_nil)))))
              (pss_one (ps_set (i := 6) sc_law_table.nd rfl (Or.inr rfl) (pe_f D_law_plain_table hr (by rfl) (pa_cons (pv 5) (pa_cons (pv 2) pa_nil))))))))))))))
    (C8.pss_cut (ps_if (pt_cmpR op_eq (pe_f D_law_draw hr (by rfl) (pa_cons (pv 0) (pa_cons pe_int pa_nil))) pe_int (nomark _))
      (pss_one (ps_set (i := 6) sc_law_table.nd rfl (Or.inr rfl) (pe_callTy (call_dictPTK (K := K) rfl rfl hu2) (by rfl) T.f_dict (by decide +kernel) (pa_cons (pe_lock (pe_lc (own := [("_law_x", 9), ("_law_y", 10)]) rfl sc_law_table.nd (pi_keys (pv 6)) (blkOk_by (own := [("_law_x", 9), ("_law_y", 10)]) (N := ["_law_purse_here", "_law_most", "_law_many", "_law_words_here", "_law_named", "_law_way", "_law_told", "_law_late", "_law_pair", "_law_x", "_law_y"]) (sc := defScope s_law_table) (by decide +kernel)) (fun _ _ _ _ _ => (pg_tb (n := 2) rfl (pgs_cons (pg_name (i := 9) sc_law_table.nd rfl (Or.inl rfl)) (pgs_cons (pg_name (i := 10) sc_law_table.nd rfl (Or.inl rfl)) pgs_nil)))) (fun _ _ _ _ _ => pts_nil) (fun _ _ _ _ _ => (pe_tup (pa_cons (pe_tup (pa_cons (pv 10) (pa_cons (pv 9) pa_nil))) (pa_cons (pe_dget hu (pv 6) (pe_tup (pa_cons (pv 9) (pa_cons (pv 10) pa_nil))) (fun _ _ => rfl)) pa_nil)))))) pa_nil))))
      pss_nil)
    (pss_cons (ps_set (i := 3) sc_law_table.nd rfl (Or.inr rfl) (pe_f D_law_words hr (by rfl) (pa_cons (pv 0) (pa_cons (pv 2) pa_nil))))
    (pss_cons (ps_set (i := 4) sc_law_table.nd rfl (Or.inr rfl) (pe_callTy (call_dictPTK (K := K) rfl rfl hu2) (by rfl) T.f_dict (by decide +kernel) (pa_cons (pe_lock (pe_lc (own := [("_law_x", 9), ("_law_y", 10)]) rfl sc_law_table.nd (pi_keys (pv 6)) (blkOk_by (own := [("_law_x", 9), ("_law_y", 10)]) (N := ["_law_purse_here", "_law_most", "_law_many", "_law_words_here", "_law_named", "_law_way", "_law_told", "_law_late", "_law_pair", "_law_x", "_law_y"]) (sc := defScope s_law_table) (by decide +kernel)) (fun _ _ _ _ _ => (pg_tb (n := 2) rfl (pgs_cons (pg_name (i := 9) sc_law_table.nd rfl (Or.inl rfl)) (pgs_cons (pg_name (i := 10) sc_law_table.nd rfl (Or.inl rfl)) pgs_nil)))) (fun _ _ _ _ _ => pts_nil) (fun _ _ _ _ _ => (pe_tup (pa_cons (pe_tup (pa_cons (pe_ix (ix_listK (K := K) rfl) (pv 3) (pv 9) (fun _ _ => rfl)) (pa_cons (pe_ix (ix_listK (K := K) rfl) (pv 3) (pv 10) (fun _ _ => rfl)) pa_nil))) (pa_cons (pe_ix (ix_listK (K := K) rfl) (pv 3) (pe_dget hu (pv 6) (pe_tup (pa_cons (pv 9) (pa_cons (pv 10) pa_nil))) (fun _ _ => rfl)) (fun _ _ => rfl)) pa_nil)))))) pa_nil)))
    (pss_one (ps_ret (pe_callTy (call_dictPTK (K := K) rfl rfl hu2) (by rfl) T.f_dict (by decide +kernel) (pa_cons (pe_lc (own := [("_law_pair", 8)]) rfl sc_law_table.nd (pi_listK (K := K) rfl (pe_callB (call_sortedP rfl hr.units) (by rfl) T.f_sorted (by decide +kernel) (pa_cons (pv 4) pa_nil))) (blkOk_by (own := [("_law_pair", 8)]) (N := ["_law_purse_here", "_law_most", "_law_many", "_law_words_here", "_law_named", "_law_way", "_law_told", "_law_late", "_law_pair", "_law_x", "_law_y"]) (sc := defScope s_law_table) (by decide +kernel)) (fun _ _ _ _ _ => (pg_name (i := 8) sc_law_table.nd rfl (Or.inl rfl))) (fun _ _ _ _ _ => pts_nil) (fun _ _ _ _ _ => (pe_tup (pa_cons (pv 8) (pa_cons (pe_dget hu (pv 4) (pv 8) (fun _ _ => rfl)) pa_nil))))) pa_nil)))))))))), ?_⟩
    refine ⟨_, rfl, _, rfl, p, k, _, rfl, hp, by omega, ⟨by omega, by omega⟩, fun d1 H1 d10 d11 x1 => ⟨_, _, rfl, rfl, ?_⟩⟩
    obtain ⟨m, hm, mm1, mm4⟩ : ∃ m : Nat, (1 : Int) + d1 = (m : Nat) ∧ 1 ≤ m ∧ m ≤ 4 := ⟨(1 + d1).toNat, by omega, by omega, by omega⟩
    show gName 2 (V.int ((1 : Int) + d1)) _ _ _
    rw [hm]
    have pu1 := x1.pu _ hp
    refine ⟨_, rfl, p, _, _, rfl, pu1, by omega, ⟨by decide, by decide⟩, fun d2 H2 d20 d21 x2 => ?_⟩
    obtain ⟨wy, rfl⟩ : ∃ wy : Nat, d2 = (wy : Nat) := ⟨d2.toNat, by omega⟩
    have hw : wy < 8 := by omega
    have pu2 := x2.pu _ pu1
    refine ⟨_, rfl, p, _, _, rfl, pu2, by omega, ⟨by decide, by decide⟩, fun d3 H3 d30 d31 x3 => ?_⟩
    obtain ⟨lt, rfl⟩ : ∃ lt : Nat, d3 = (lt : Nat) := ⟨d3.toNat, by omega⟩
    refine ⟨Nat.le_trans (by decide : 3 ≤ 4096) hs, fun q4 n4 => ?_⟩
    generalize g4 : upd _ q4 _ = H4
    obtain ⟨s4, f4⟩ := new_of n4 g4
    have x04 : Ext p 3 H H4 := ((x1.trans x2).trans x3).same s4
    have pu4 := x04.pu _ hp
    refine ⟨q4, _, rfl, SqT.of f4, rfl, _, _, rfl, _, _, rfl, _, _, rfl, rfl, ?_⟩
    clear x1 x2 x3 pu1 pu2 s4
    refine ⟨fun σ' H' => ∃ q f, Ext p 60 H H' ∧ q ≠ p ∧ TbAt H' q m f ∧ Tb m f ∧ σ' = [some (.ref p), some (.int (m0 : Nat)), some (.int (m : Nat)), none, none, some (.int (wy : Nat)), some (.ref q), some (.int (lt : Nat)), none, none, none], ?_, ?_⟩
    · -- which table
      have e1 : ((m : Nat) : Int) - 1 = ((m - 1 : Nat) : Nat) := by omega
      refine ⟨_, rfl, rfl, _, rfl, ?_⟩
      refine if_and (fun b H' => Ext p 1 H4 H' ∧ (b = true → m = 4)) (fun hc Q' q => ?_) (fun hc => ⟨(Ext.refl p H4).mono (by omega), fun z => (by cases z)⟩) (fun b H5 hb => ?_)
      · have h4 : m = 4 := by have := of_decide_eq_true hc; injection this with this; omega
        exact ⟨_, rfl, p, _, _, rfl, pu4, by omega, ⟨by decide, by decide⟩, fun d6 H6 d60 d61 x6 => ⟨rfl, _, rfl, q _ _ ⟨x6, fun _ => h4⟩⟩⟩
      obtain ⟨x5, hb⟩ := hb
      have x05 := x04.trans x5
      have pu5 := x05.pu _ hp
      cases b with
      | true =>
        obtain rfl := hb rfl
        refine ifT ?_
        refine ⟨_, rfl, wy, 2, rfl, hw, by decide, by decide, fun q6 H6 s6 n6 t6 => ?_⟩
        have x06 := x05.same s6
        refine ⟨_, rfl, p, _, _, rfl, x06.pu _ hp, by omega, ⟨by decide, by decide⟩, fun d7 H7 d70 d71 x7 => ?_⟩
        obtain ⟨wv, rfl⟩ : ∃ wv : Nat, d7 = (wv : Nat) := ⟨d7.toNat, by omega⟩
        have x07 := x06.trans x7
        have nq6 : q6 ≠ p := pu5.ne n6
        refine ⟨wv, 2, rfl, by omega, by decide, by decide, fun q8 H8 s8 n8 t8 => ?_⟩
        have x08 := x07.same s8
        have t6' : TbAt H8 q6 2 (plainF wy 2) := t6.elim fun kvs h => ⟨kvs, s8 _ _ (x7.keep _ _ nq6 h.1), h.2⟩
        refine ⟨q6, q8, _, _, rfl, t6', t8, (plain_tb wy hw 2 (by decide)).1, (plain_tb wv (by omega) 2 (by decide)).1, fun q9 H9 s9 n9 t9 => ?_⟩
        exact ⟨q9, _, (x08.same s9).mono (by omega), (x08.pu _ hp).ne n9, t9, Tb.of (two_tb wy hw wv (by omega)), rfl⟩
      | false =>
        refine ifF ?_
        clear hb
        refine ⟨_, rfl, _, _, rfl, rfl, _, rfl, ?_⟩
        refine if_and (fun b H' => H' = H5 ∧ (b = true ↔ 1 < m ∧ lt < 2)) (fun hc Q' q => ?_) (fun hc => ⟨rfl, ⟨fun z => (by cases z), fun z => absurd (of_decide_eq_false hc) (by omega)⟩⟩) (fun b H5' hb => ?_)
        · have := of_decide_eq_true hc
          exact ⟨_, rfl, _, _, rfl, rfl, _, rfl, q _ _ ⟨rfl, ⟨fun z => ⟨by omega, by have := of_decide_eq_true z; omega⟩, fun z => decide_eq_true (by omega)⟩⟩⟩
        obtain ⟨rfl, hb⟩ := hb
        cases b with
        | true =>
          obtain ⟨h1m, hlt⟩ := hb.mp rfl
          refine ifT ?_
          refine ⟨_, rfl, _, rfl, _, _, rfl, rfl, wy, m - 1, plEq e1, hw, by omega, by omega, fun q6 H6 s6 n6 t6 => ?_⟩
          have x06 := x05.same s6
          refine ⟨_, rfl, _, _, rfl, rfl, _, rfl, q6, m - 1, lt, _, wdEq e1, t6, by omega, fun q9 H9 s9 n9 t9 => ?_⟩
          rw [show m - 1 + 1 = m by omega] at t9
          have tb := wide_tb wy hw (m - 1) (by omega) lt hlt
          rw [show m - 1 + 1 = m by omega] at tb
          exact ⟨q9, _, (x06.same s9).mono (by omega), (x06.pu _ hp).ne n9, t9, Tb.of tb, rfl⟩
        | false =>
          have hb1 : ¬ (1 < m ∧ lt < 2) := fun z => by have := hb.mpr z; cases this
          clear hb
          refine ifF ?_
          refine ⟨_, rfl, _, _, rfl, rfl, _, rfl, ?_⟩
          refine if_and (fun b H' => H' = H5' ∧ (b = true ↔ 1 < m ∧ lt = 2)) (fun hc Q' q => ?_) (fun hc => ⟨rfl, ⟨fun z => (by cases z), fun z => absurd (of_decide_eq_false hc) (by omega)⟩⟩) (fun b H5 hb => ?_)
          · have := of_decide_eq_true hc
            exact ⟨_, rfl, rfl, _, rfl, q _ _ ⟨rfl, ⟨fun z => ⟨by omega, by have := of_decide_eq_true z; injection this with this; omega⟩, fun z => decide_eq_true (by rw [z.2]; rfl)⟩⟩⟩
          obtain ⟨rfl, hb⟩ := hb
          cases b with
          | true =>
            obtain ⟨h1m, hlt⟩ := hb.mp rfl
            refine ifT ?_
            refine ⟨_, rfl, _, rfl, _, _, rfl, rfl, wy, m - 1, plEq e1, hw, by omega, by omega, fun q6 H6 s6 n6 t6 => ?_⟩
            have x06 := x05.same s6
            have nq6 : q6 ≠ p := pu5.ne n6
            refine ⟨_, rfl, _, _, rfl, rfl, _, rfl, _, rfl, _, _, rfl, rfl, p, _, _, rfl, x06.pu _ hp, by omega, ⟨by omega, by omega⟩, fun d7 H7 d70 d71 x7 => ?_⟩
            obtain ⟨tw, rfl⟩ : ∃ tw : Nat, d7 = (tw : Nat) := ⟨d7.toNat, by omega⟩
            have x07 := x06.trans x7
            have t6' : TbAt H7 q6 (m - 1) (plainF wy (m - 1)) := t6.elim fun kvs h => ⟨kvs, x7.keep _ _ nq6 h.1, h.2⟩
            refine ⟨q6, m - 1, tw, _, wdEq e1, t6', by omega, by omega, fun q9 H9 s9 n9 t9 => ?_⟩
            rw [show m - 1 + 1 = m by omega] at t9
            have tb := twin_tb wy hw (m - 1) (by omega) tw (by omega)
            rw [show m - 1 + 1 = m by omega] at tb
            exact ⟨q9, _, (x07.same s9).mono (by omega), (x07.pu _ hp).ne n9, t9, Tb.of tb, rfl⟩
          | false =>
            have hb2 : ¬ (1 < m ∧ lt = 2) := fun z => by have := hb.mpr z; cases this
            clear hb
            refine ifF ?_
            refine ⟨_, rfl, _, _, rfl, rfl, _, rfl, ?_⟩
            refine if_and (fun b H' => H' = H5 ∧ (b = true ↔ 1 < m ∧ lt = 3)) (fun hc Q' q => ?_) (fun hc => ⟨rfl, ⟨fun z => (by cases z), fun z => absurd (of_decide_eq_false hc) (by omega)⟩⟩) (fun b H5' hb => ?_)
            · have := of_decide_eq_true hc
              exact ⟨_, rfl, rfl, _, rfl, q _ _ ⟨rfl, ⟨fun z => ⟨by omega, by have := of_decide_eq_true z; injection this with this; omega⟩, fun z => decide_eq_true (by rw [z.2]; rfl)⟩⟩⟩
            obtain ⟨rfl, hb⟩ := hb
            cases b with
            | true =>
              obtain ⟨h1m, hlt⟩ := hb.mp rfl
              refine ifT ?_
              refine ⟨_, rfl, p, _, _, rfl, pu5, by omega, ⟨by decide, by decide⟩, fun d6 H6 d60 d61 x6 => ⟨_, _, rfl, rfl, _, rfl, _, _, rfl, rfl, ?_⟩⟩
              obtain ⟨wv, rfl⟩ : ∃ wv : Nat, d6 = (wv : Nat) := ⟨d6.toNat, by omega⟩
              have x06 := x05.trans x6
              refine ⟨wv + 1, m - 1, ldEq (by omega) e1, by omega, by omega, by omega, fun q7 H7 s7 n7 t7 => ?_⟩
              have x07 := x06.same s7
              refine ⟨_, rfl, _, _, rfl, rfl, q7, m - 1, _, ldEq' e1, t7, by omega, fun q9 H9 s9 n9 t9 => ?_⟩
              rw [show m - 1 + 1 = m by omega] at t9
              have tb := lead_tb wv (by omega) (m - 1) (by omega)
              rw [show m - 1 + 1 = m by omega] at tb
              exact ⟨q9, _, (x07.same s9).mono (by omega), (x07.pu _ hp).ne n9, t9, Tb.of tb, rfl⟩
            | false =>
              refine ifF ?_
              refine ⟨_, rfl, _, _, rfl, rfl, _, rfl, ?_⟩
              cases hl6 : decide (((lt : Nat) : Int) < 6) with
              | true =>
                refine ifT ?_
                exact ⟨_, rfl, _, rfl, p, _, m, rfl, pu5, by omega, mm1, mm4, fun q f H' x6 nq t6 tb => ⟨q, f, (x05.trans x6).mono (by omega), nq, t6, tb, rfl⟩⟩
              | false =>
                refine ifF ?_
                exact ⟨_, rfl, _, rfl, wy, m, rfl, hw, mm1, mm4, fun q H' s6 n6 t6 => ⟨q, _, (x05.same s6).mono (by omega), pu5.ne n6, t6, Tb.of (plain_tb wy hw m (by omega)), rfl⟩⟩
    rintro σ5 H5 ⟨q5, ff, x05, nq5, tb5, tf5, rfl⟩
    have pu5 := x05.pu _ hp
    refine ⟨fun σ' H' => ∃ q f, Ext p 61 H H' ∧ q ≠ p ∧ TbAt H' q m f ∧ Tb m f ∧ σ' = [some (.ref p), some (.int (m0 : Nat)), some (.int (m : Nat)), none, none, some (.int (wy : Nat)), some (.ref q), some (.int (lt : Nat)), none, none, none], ?_, ?_⟩
    · refine ⟨_, rfl, p, _, _, rfl, pu5, by omega, ⟨by decide, by decide⟩, fun d6 H6 d60 d61 x6 => ⟨rfl, _, rfl, ?_⟩⟩
      have x06 := x05.trans x6
      obtain ⟨kvs, ek, rk⟩ := tb5
      have ek6 := x6.keep _ _ nq5 ek
      have kl := rk.len (Full.in (by omega))
      cases hd : decide (V.int d6 = V.int 0) with
      | false =>
        refine ifF ?_
        exact ⟨q5, ff, x06.mono (by omega), nq5, ⟨kvs, ek6, rk⟩, tf5, rfl⟩
      | true =>
        refine ifT ?_
        refine ⟨q5, _, ek6, trivial, fun od => ?_⟩
        refine ⟨_, rfl, q5, od, rfl, .inr ⟨_, upd_same, fun D nD => ?_⟩⟩
        have tr : ∀ e ∈ kvs, ∃ x y, x < m ∧ y < m ∧ e = (keyI x y, V.int (ff x y : Nat)) := fun e he => by
          obtain ⟨x, y, v, e1, hv⟩ := rk.to e he
          unfold Full at hv
          split at hv
          · rename_i h; cases hv; exact ⟨x, y, h.1, h.2, e1⟩
          · cases hv
        refine lc_it walk_keysT (fun i H1 => Pq (upd H6 q5 (.frz od (.dT kvs))) D ((kvs.take i).map flipK) H1) (Pq.start nD) (fun i H1 _ hv => hv.sm _ _ upd_same) ?_ ?_
        · rintro i v H7 H8 hi hv ⟨rfl, kk, vv, q, hk', rfl, hq⟩
          obtain ⟨x, y, hx, hy, e1⟩ := tr _ (List.mem_of_getElem? hk')
          injection e1 with e1 e2
          subst e1 e2
          refine ⟨q, _, rfl, SqT.of hq, rfl, _, _, rfl, _, _, rfl, rfl, rfl, ?_⟩
          refine ⟨_, rfl, _, rfl, two, fun q1 n1 => ?_⟩
          generalize g1 : upd _ q1 _ = H9
          obtain ⟨s1, f1⟩ := new_of n1 g1
          refine ⟨_, rfl, _, rfl, _, rfl, two, fun q2 n2 => ?_⟩
          generalize g2 : upd _ q2 _ = H10
          obtain ⟨s2, f2⟩ := new_of n2 g2
          refine ⟨q5, _, rfl, .inr ⟨kvs, keyI x y, q2, .inr ⟨od, s2 _ _ (s1 _ _ (hv.sm _ _ upd_same))⟩, rfl, f2, (rk.val (Full.get hx hy)).symm⟩, two, fun q3 n3 => ?_⟩
          generalize g3 : upd _ q3 _ = H11
          obtain ⟨s3, f3⟩ := new_of n3 g3
          refine hv.step (k := keyI y x) (v := .int (ff x y : Nat)) (s1.trans (s2.trans s3)) (s3 _ _ (s2 _ _ f1)) f3 ?_ ?_
          · rw [List.length_map, List.length_take]; omega
          · rw [List.take_add_one, hk', List.map_append]; rfl
        · intro H7 hv
          refine ⟨hv.sm _ _ upd_same, ?_⟩
          rw [List.take_length] at hv
          have hv2 := hv.unl ek6 (fun xs z => nomatch z)
          generalize upd H7 q5 (.dT kvs) = H8 at hv2
          obtain ⟨ps, hq1, hp1⟩ := hv2.pairs (K := K)
          have rf := flip_rep rk
          refine ⟨D, ps, _, rfl, hq1, hp1, fun D2 n2 => ?_⟩
          rw [mergeT_new rf.nd]
          have x08 := x06.same hv2.sm
          have pu8 := x08.pu _ hp
          generalize g9 : upd _ D2 _ = H9
          obtain ⟨s9, f9⟩ := new_of n2 g9
          exact ⟨D2, fun x y => ff y x, (x08.same s9).mono (by omega), pu8.ne n2, ⟨_, f9, rf⟩, tf5.op, rfl⟩
    clear pu5 tb5 tf5 x05
    rintro σ6 H6 ⟨q6, f6, x06, nq6, ⟨kvs, ek, rk⟩, tf6, rfl⟩
    have pu6 := x06.pu _ hp
    refine ⟨_, rfl, _, rfl, p, _, m, rfl, pu6, by omega, by omega, fun q7 ws H7 x7 n7 e7 lw nw mw => ?_⟩
    have x07 := x06.trans x7
    have nq7 := pu6.ne n7
    have ek7 := x7.keep _ _ nq6 ek
    have kl := rk.len (Full.in (by omega))
    obtain ⟨nd, ks, qs, hqs, qp, wt, hval, kwp⟩ := named_tb rk tf6 mm1 mm4 lw nw mw
    have tr : ∀ e ∈ kvs, ∃ x y, x < m ∧ y < m ∧ e = (keyI x y, V.int (f6 x y : Nat)) := fun e he => by
      obtain ⟨x, y, v, e1, hv⟩ := rk.to e he
      unfold Full at hv
      split at hv
      · rename_i h; cases hv; exact ⟨x, y, h.1, h.2, e1⟩
      · cases hv
    have wat : ∀ x, x < m → atI (ws.map V.str) ((x : Nat) : Int) = some (V.str (ws.getD x "")) := fun x hx => at_of (j := x) rfl (by
      rw [List.getElem?_map, List.getD_eq_getElem?_getD, List.getElem?_eq_getElem (by omega)]; rfl)
    -- named
    refine ⟨q6, _, ek7, trivial, fun od => ?_⟩
    have n67 : q7 ≠ q6 := fun z => by subst z; rw [ek] at n7; cases n7
    refine ⟨_, rfl, q6, od, rfl, .inr ⟨_, upd_same, fun D nD => ?_⟩⟩
    have e7' : upd H7 q6 (.frz od (.dT kvs)) q7 = some (.lst (ws.map V.str)) := by rw [upd_ne n67]; exact e7
    refine lc_it walk_keysT (fun i H1 => Pq (upd H7 q6 (.frz od (.dT kvs))) D ((kvs.take i).map (wName ws)) H1) (Pq.start nD) (fun i H1 _ hv => hv.sm _ _ upd_same) ?_ ?_
    · rintro i v H8 H9 hi hv ⟨rfl, kk, vv, q, hk', rfl, hq⟩
      obtain ⟨x, y, hx, hy, e1⟩ := tr _ (List.mem_of_getElem? hk')
      injection e1 with e1 e2
      subst e1 e2
      have e78 := hv.sm _ _ e7'
      refine ⟨q, _, rfl, SqT.of hq, rfl, _, _, rfl, _, _, rfl, rfl, rfl, ?_⟩
      refine ⟨_, rfl, _, rfl, q7, _, _, _, rfl, rfl, SqL.of e78, wat x hx, _, rfl, _, rfl, q7, _, _, _, rfl, rfl, SqL.of e78, wat y hy, two, fun q1 n1 => ?_⟩
      generalize g1 : upd _ q1 _ = H10
      obtain ⟨s1, f1⟩ := new_of n1 g1
      refine ⟨_, rfl, _, rfl, _, rfl, _, rfl, two, fun q2 n2 => ?_⟩
      generalize g2 : upd _ q2 _ = H11
      obtain ⟨s2, f2⟩ := new_of n2 g2
      refine ⟨q6, _, rfl, .inr ⟨kvs, keyI x y, q2, .inr ⟨od, s2 _ _ (s1 _ _ (hv.sm _ _ upd_same))⟩, rfl, f2, (rk.val (Full.get hx hy)).symm⟩, q7, _, _, _, rfl, rfl, SqL.of (s2 _ _ (s1 _ _ e78)), wat _ (tf6.cl x hx y hy), two, fun q3 n3 => ?_⟩
      generalize g3 : upd _ q3 _ = H12
      obtain ⟨s3, f3⟩ := new_of n3 g3
      refine hv.step (k := keyP (ws.getD x "", ws.getD y "")) (v := .str (ws.getD (f6 x y) "")) (s1.trans (s2.trans s3)) (s3 _ _ (s2 _ _ f1)) f3 ?_ ?_
      · rw [List.length_map, List.length_take]; omega
      · rw [List.take_add_one, hk', List.map_append]
        rfl
    · intro H8 hv
      refine ⟨hv.sm _ _ upd_same, ?_⟩
      rw [List.take_length] at hv
      have hv2 := hv.unl ek7 (fun xs z => nomatch z)
      generalize upd H8 q6 (.dT kvs) = H9 at hv2
      obtain ⟨ps, hq1, hp1⟩ := hv2.pairs (K := K)
      refine ⟨D, ps, _, rfl, hq1, hp1, fun D2 n2 => ?_⟩
      rw [mergeT_new nd]
      have x09 := x07.same hv2.sm
      have pu9 := x09.pu _ hp
      generalize g10 : upd _ D2 _ = H10
      obtain ⟨s10, f10⟩ := new_of n2 g10
      have x010 := x09.same s10
      -- sorted
      refine ⟨_, rfl, D2, _, qs, rfl, .inl f10, hqs, fun q11 zs n11 zp zo zt => ?_⟩
      have zis := sortedP_is zp zo qp wt.kst
      generalize g11 : upd _ q11 _ = H11
      obtain ⟨s11, f11⟩ := new_of n11 g11
      have gl : (prs ks).length ≤ 16 := by
        rw [prs_len]
        exact Nat.mul_le_mul wt.kn wt.kn
      have lz : zs.length = (prs ks).length := by rw [← zis, List.length_map]
      refine ⟨q11, rfl, ⟨_, SqL.of f11⟩, fun D3 n3 => ?_⟩
      refine lc_list (xs := zs.map fun z => V.ref z.1) (fun i H1 => Pq H11 D3 ((grid ks (mulOf (kvs.map (wName ws)))).take i) H1) (Pq.start n3) (fun i H1 _ hv => SqL.of (hv.sm _ _ f11)) ?_ ?_
      · intro i v H12 hi hv
        have hi16 := (List.getElem?_eq_some_iff.mp hi).1
        rw [List.length_map] at hi16
        rw [List.getElem?_map] at hi
        obtain ⟨z, hz, rfl⟩ := Option.map_eq_some_iff.mp hi
        have mz : z.2 ∈ prs ks := by rw [← zis]; exact List.mem_map.mpr ⟨z, List.mem_of_getElem? hz, rfl⟩
        have tz := hv.sm _ _ (s11 _ _ (zt z (List.mem_of_getElem? hz)))
        have gi : (grid ks (mulOf (kvs.map (wName ws))))[i]? = some (keyP z.2, V.str (mulOf (kvs.map (wName ws)) z.2.1 z.2.2)) := by
          unfold grid
          rw [List.getElem?_map, ← zis, List.getElem?_map, hz]; rfl
        refine ⟨rfl, _, rfl, _, rfl, _, rfl, D2, _, rfl, dgetP (.inl (hv.sm _ _ (s11 _ _ f10))) tz (hval _ mz), two, fun q13 n13 => ?_⟩
        generalize g13 : upd _ q13 _ = H13
        obtain ⟨s13, f13⟩ := new_of n13 g13
        refine hv.step (k := keyP z.2) s13 (s13 _ _ tz) f13 ?_ ?_
        · rw [List.length_take]; omega
        · rw [List.take_add_one, gi]; rfl
      · intro H12 hv
        rw [List.length_map, show zs.length = (grid ks (mulOf (kvs.map (wName ws)))).length by unfold grid; rw [List.length_map]; exact lz, List.take_length] at hv
        obtain ⟨ps, hq1, hp1⟩ := hv.pairs (K := K)
        refine ⟨D3, ps, _, rfl, hq1, hp1, fun D4 n4 => ?_⟩
        rw [mergeT_new (grid_nodup wt.kst)]
        have x012 := (x010.same s11).same hv.sm
        generalize g14 : upd _ D4 _ = H14
        obtain ⟨s14, f14⟩ := new_of n4 g14
        exact go D4 ks _ H14 ((x012.same s14).mono (by omega)) ((x012.pu _ hp).ne n4) f14 wt
end
end K12

set_option maxHeartbeats 8000000
/-! The setting that is drawn. -/
namespace K12
open PySem PySem.Spec L2
/-- a setting with just the kinds, each its own deed -/
def ownSg (ks : List Str) (mul : Str → Str → Str) : Sg := ⟨ks, mul, ks.map fun k => (k, k), []⟩
theorem own_ok {ks : List Str} {mul : Str → Str → Str} (h : WTb ks mul) : (ownSg ks mul).Ok where
  kw := h.kw
  kst := h.kst
  kn := h.kn
  kp := h.kp
  cl := h.cl
  as := h.as
  dw := fun d hd => by obtain ⟨k, hk, rfl⟩ := List.mem_map.mp hd; exact h.kw k hk
  dst := by
    show ((ks.map fun k => (k, k)).map (·.1)).Pairwise slt
    rw [List.map_map, show ks.map ((·.1) ∘ fun k => (k, k)) = ks from by rw [show ((·.1) ∘ fun k : Str => (k, k)) = id from rfl, List.map_id]]
    exact h.kst
  dk := fun d hd => by obtain ⟨k, hk, rfl⟩ := List.mem_map.mp hd; exact hk
  dall := fun k hk => ⟨(k, k), List.mem_map.mpr ⟨k, hk, rfl⟩, rfl⟩
  dn := by
    show (ks.map fun k => (k, k)).length ≤ 8
    rw [List.length_map]
    exact Nat.le_trans h.kn (by decide)
  tws := List.nil_sublist _
/-- a new list of new tuples, while there are draws -/
structure PdX {β : Type} (f : β → List V) (p : Addr) (c : Nat) (H : Hp) (D : Addr) (bs : List β) (H1 : Hp) : Prop where
  ex : Ext p c H H1
  nw : H D = none
  ne : D ≠ p
  li : ∃ ps : List Addr, H1 D = some (.lst (ps.map V.ref)) ∧ Paired (fun q b => q ≠ p ∧ H1 q = some (.tup (f b))) ps bs
theorem PdX.start {β : Type} {f : β → List V} {p : Addr} {H : Hp} {D : Addr} (n : H D = none) (ne : D ≠ p) : PdX f p 0 H D [] (upd H D (.lst [])) := ⟨.of (same_new n), n, ne, [], upd_same, .nil⟩
theorem PdX.step {β : Type} {f : β → List V} {p : Addr} {c d e' : Nat} {H H1 H2 : Hp} {D q : Addr} {bs cs : List β} {b : β} (h : PdX f p c H D bs H1) (s : Ext p d H1 H2) (nq : q ≠ p) (e : H2 q = some (.tup (f b))) (l : bs.length < sizeLine) (ec : cs = bs ++ [b]) (hc : c + d ≤ e') :
    ∃ acc, H2 D = some (.lst acc) ∧ acc.length < sizeLine ∧ PdX f p e' H D cs (upd H2 D (.lst (acc ++ [.ref q]))) := by
  obtain ⟨ps, e1, hp⟩ := h.li
  have hl := paired_len hp
  have eD := s.keep _ _ h.ne e1
  have ne : ∀ r : Addr, ∀ xs, H2 r = some (.tup xs) → r ≠ D := fun r xs er z => by subst z; rw [eD] at er; cases er
  have old : Paired (fun r b => r ≠ p ∧ upd H2 D (.lst (ps.map V.ref ++ [.ref q])) r = some (.tup (f b))) ps bs := paired_imp (fun r b hb => by
    have := s.keep _ _ hb.1 hb.2
    exact ⟨hb.1, by rw [upd_ne (ne _ _ this)]; exact this⟩) hp
  refine ⟨_, eD, by rw [List.length_map]; omega, ((h.ex.trans s).mono hc).upd0 h.nw, h.nw, h.ne, ps ++ [q], by rw [List.map_append]; exact upd_same, ?_⟩
  rw [ec]
  exact paired_snoc old ⟨nq, by rw [upd_ne (ne _ _ e)]; exact e⟩
theorem pd_pairs {K : PySem.W.Frag} {H : Hp} : ∀ {ps : List Addr} {bs : List (Str × Str)}, Paired (fun q (b : Str × Str) => H q = some (.tup [V.str b.1, V.str b.2])) ps bs → Paired (fun p (kv : Key × V) => SqT K H p [kV kv.1, kv.2]) ps (dents bs)
  | _, _, .nil => .nil
  | _, _, .cons r t => .cons (SqT.of r) (pd_pairs t)
theorem dents_nd {bs : List (Str × Str)} (h : (bs.map (·.1)).Nodup) : ((dents bs).map (·.1)).Nodup := by
  rw [dents_keys, List.nodup_iff_pairwise_ne, List.pairwise_map]
  rw [List.nodup_iff_pairwise_ne] at h
  exact h.imp fun {a b} q e => q (Sum.inr.inj e)
section
variable {P : Program} {w : World} {K : PySem.W.Frag} {mg : Str → Option Value} {base : Heap} {a : Ad} {n : Nat}
def spSet : Sp := fun vs H Q _ => ∃ (p : Addr) (k m : Nat), vs = [.ref p, .int (m : Nat)] ∧ Pu p k H ∧ k ≤ 600000000 ∧ 1 ≤ m ∧ m ≤ 4 ∧ ∀ q g H', Ext p 900 H H' → LsAt p q H' g → g.Ok → Q (.ref q) H'
theorem sc_law_setting : FnScope ["_law_purse_here", "_law_most", "_law_table_here", "_law_kinds", "_law_words_here", "_law_deeds", "_law_twice", "_law_kind_here", "_law_at", "_law_word_here"] ["_law_purse_here", "_law_most"] (defScope s_law_setting) := ⟨rfl, rfl, rfl, by decide +kernel, rfl, by decide +kernel, by decide +kernel⟩
theorem bd_law_setting : BindsOf "_law_setting" "_law_setting" s_law_setting ["_law_purse_here", "_law_most"] := fun _ _ _ _ _ _ us hl => match us, hl with | [_, _], _ => rfl
theorem d_setting (T : Tp K mg a) (D_law_draw : DfDraw P w K mg base n) (D_law_kinds_of : Df P w K mg base n "_law_kinds_of" ["_law_table_here"] spKo_) (D_law_one_of : Df P w K mg base n "_law_one_of" ["_law_purse_here", "_law_some"] spOneOf)
    (D_law_squares : Df P w K mg base n "_law_squares" ["_law_table_here"] spSq_) (D_law_table : Df P w K mg base n "_law_table" ["_law_purse_here", "_law_most"] spTable) (D_law_words : Df P w K mg base n "_law_words" ["_law_purse_here", "_law_many"] spWds) :
    Df P w K mg base (n + 1) "_law_setting" ["_law_purse_here", "_law_most"] spSet := by
  refine df_mk T 43 rfl sc_law_setting bd_law_setting (fun vs H Q E h => ?_) (fun f cdv A outer s H vs Q E hr h => ?_)
  · obtain ⟨p, k, m, rfl, _⟩ := h
    rfl
  · obtain ⟨p, k, m0, rfl, hp, hk, hm1, hm4, go⟩ := h
    have hu := hu1 hr
    have hs := szl
    have two : 2 ≤ sizeLine := Nat.le_trans (by decide : 2 ≤ 4096) hs
    refine ⟨_, (pss_cons (ps_set (i := 2) sc_law_setting.nd rfl (Or.inl rfl) (pe_f D_law_table hr (by rfl) (pa_cons (pv 0) (pa_cons (pv 1) pa_nil))))
    (pss_cons (ps_set (i := 3) sc_law_setting.nd rfl (Or.inr rfl) (pe_f D_law_kinds_of hr (by rfl) (pa_cons (pv 2) pa_nil)))
    (pss_cons (ps_set (i := 4) sc_law_setting.nd rfl (Or.inl rfl) (pe_f D_law_words hr (by rfl) (pa_cons (pv 0) (pa_cons (pe_op op_add (pe_callB (call_len_seqK (K := K) rfl) (by rfl) T.f_len PySem.boot_len (pa_cons (pv 3) pa_nil)) (pe_f D_law_draw hr (by rfl) (pa_cons (pv 0) (pa_cons pe_int pa_nil)))) pa_nil))))
    (pss_cons (ps_set (i := 5) sc_law_setting.nd rfl (Or.inr rfl) (pe_callTy (call_dictP rfl) (by rfl) T.f_dict (by decide +kernel) (pa_cons (pe_lc (own := [("_law_at", 8), ("_law_word_here", 9)]) rfl sc_law_setting.nd (pi_enum (by rfl) T.f_enumerate (pa_cons (pv 4) pa_nil)) (blkOk_by (own := [("_law_at", 8), ("_law_word_here", 9)]) (N := ["_law_purse_here", "_law_most", "_law_table_here", "_law_kinds", "_law_words_here", "_law_deeds", "_law_twice", "_law_kind_here", "_law_at", "_law_word_here"]) (sc := defScope s_law_setting) (by decide +kernel)) (fun _ _ _ _ _ => (pg_tb (n := 2) rfl (pgs_cons (pg_name (i := 8) sc_law_setting.nd rfl (Or.inl rfl)) (pgs_cons (pg_name (i := 9) sc_law_setting.nd rfl (Or.inl rfl)) pgs_nil)))) (fun _ _ _ _ _ => pts_nil) (fun _ _ _ _ _ => (pe_tup (pa_cons (pv 9) (pa_cons (pe_ifExp (pt_cmpR op_lt (pv 8) (pe_callB (call_len_seqK (K := K) rfl) (by rfl) T.f_len PySem.boot_len (pa_cons (pv 3) pa_nil)) (nomark _)) (pe_ix (ix_listK (K := K) rfl) (pv 3) (pv 8) (fun _ _ => rfl)) (pe_f D_law_one_of hr (by rfl) (pa_cons (pv 0) (pa_cons (pv 3) pa_nil)))) pa_nil))))) pa_nil)))
    (pss_cons (ps_set (i := 6) sc_law_setting.nd rfl (Or.inl rfl) (pe_f D_law_squares hr (by rfl) (pa_cons (pv 2) pa_nil)))
    (C8.pss_cut (ps_if (pt_cmpR op_eq (pe_f D_law_draw hr (by rfl) (pa_cons (pv 0) (pa_cons pe_int pa_nil))) pe_int (nomark _))
      (pss_one (ps_setLc (i := 6) (own := [("_law_kind_here", 7)]) rfl sc_law_setting.nd rfl rfl (sw_true rfl rfl rfl (by decide +kernel)) (pi_listK (K := K) rfl (pv 6)) (blkOk_by (own := [("_law_kind_here", 7)]) (N := ["_law_purse_here", "_law_most", "_law_table_here", "_law_kinds", "_law_words_here", "_law_deeds", "_law_twice", "_law_kind_here", "_law_at", "_law_word_here"]) (sc := defScope s_law_setting) (by decide +kernel)) (fun _ _ _ _ _ => (pg_name (i := 7) sc_law_setting.nd rfl (Or.inl rfl))) (fun _ _ _ _ _ => (pts_one (pt_cmpR op_eq (pe_f D_law_draw hr (by rfl) (pa_cons (pv 0) (pa_cons pe_int pa_nil))) pe_int (nomark _)))) (fun _ _ _ _ _ => (pv 7))))
      pss_nil)
    (pss_one (ps_ret (pe_lst (pa_cons (pv 2) (pa_cons (pe_callTy (call_dictP rfl) (by rfl) T.f_dict (by decide +kernel) (pa_cons (pe_lc (own := [("_law_word_here", 9)]) rfl sc_law_setting.nd (pi_listK (K := K) rfl (pe_callB (call_sortedD rfl) (by rfl) T.f_sorted (by decide +kernel) (pa_cons (pv 5) pa_nil))) (blkOk_by (own := [("_law_word_here", 9)]) (N := ["_law_purse_here", "_law_most", "_law_table_here", "_law_kinds", "_law_words_here", "_law_deeds", "_law_twice", "_law_kind_here", "_law_at", "_law_word_here"]) (sc := defScope s_law_setting) (by decide +kernel)) (fun _ _ _ _ _ => (pg_name (i := 9) sc_law_setting.nd rfl (Or.inl rfl))) (fun _ _ _ _ _ => pts_nil) (fun _ _ _ _ _ => (pe_tup (pa_cons (pv 9) (pa_cons (pe_dget hu (pv 5) (pv 9) (fun _ _ => rfl)) pa_nil))))) pa_nil)) (pa_cons (pv 6) pa_nil)))))))))))), ?_⟩
    refine ⟨_, rfl, _, rfl, p, k, m0, rfl, hp, by omega, hm1, hm4, fun t ks mul H1 x1 nt et wt => ?_⟩
    have ok0 := own_ok wt
    have pu1 := x1.pu _ hp
    refine ⟨_, rfl, t, ownSg ks mul, rfl, ok0, et, fun kq H2 s2 nk ek => ?_⟩
    have ek' : H2 kq = some (.lst (ks.map V.str)) := ek
    have x02 := x1.same s2
    have nkp : kq ≠ p := pu1.ne nk
    have pu2 := x02.pu _ hp
    have kn := wt.kn
    have kp := wt.kp
    refine ⟨_, rfl, _, rfl, kq, _, rfl, .inl (SqL.of ek'), _, rfl, p, _, _, rfl, pu2, by omega, ⟨by decide, by decide⟩, fun d3 H3 d30 d31 x3 => ?_⟩
    obtain ⟨dn, rfl⟩ : ∃ dn : Nat, d3 = (dn : Nat) := ⟨d3.toNat, by omega⟩
    have x03 := x02.trans x3
    refine ⟨_, _, rfl, rfl, p, _, ks.length + dn, congrArg (fun z : Int => [V.ref p, V.int z]) (by rw [List.length_map]; omega), x03.pu _ hp, by omega, by omega, fun wq ws H4 x4 nw ew lw ndw mw => ?_⟩
    have x04 := x03.trans x4
    have pu4 := x04.pu _ hp
    have nwp : wq ≠ p := (x03.pu _ hp).ne nw
    have ek4 := x4.keep _ _ nkp (x3.keep _ _ nkp ek')
    have et4 := x4.keep _ _ nt (x3.keep _ _ nt (s2 _ _ et))
    -- deeds
    refine ⟨_, rfl, wq, _, rfl, SqL.of ew, fun D nD => ?_⟩
    have nDp := pu4.ne nD
    refine lc_it walk_enum (fun i H5 => ∃ bs : List (Str × Str), PdX (fun b : Str × Str => [V.str b.1, V.str b.2]) p i H4 D bs H5 ∧ bs.map (·.1) = ws.take i ∧ (∀ b ∈ bs, b.2 ∈ ks) ∧ ∀ j, j < i → j < ks.length → ∃ b, bs[j]? = some b ∧ some b.2 = ks[j]?)
      ⟨[], PdX.start nD nDp, by simp, fun b hb => (by cases hb), fun j hj => absurd hj (Nat.not_lt_zero _)⟩ (fun i H5 _ ⟨bs, h, _⟩ => SqL.of (h.ex.keep _ _ nwp ew)) ?_ ?_
    · rintro i v H5 H6 hi ⟨bs, pd, hb1, hb2, hb3⟩ ⟨T', x1', y1', rfl, nT, rfl, hx, hy⟩
      rw [List.length_map] at hi
      injection hx with hx
      subst hx
      have hy : (ws.map V.str)[i]? = some y1' := hy
      rw [List.getElem?_map] at hy
      obtain ⟨wd', hwd, rfl⟩ := Option.map_eq_some_iff.mp hy
      have st := same_new (o := .tup [V.int (i : Nat), V.str wd']) nT
      have x5 := pd.ex.same st
      have ek5 := x5.keep _ _ nkp ek4
      have lb : bs.length = i := by
        have := congrArg List.length hb1
        rw [List.length_map, List.length_take] at this
        omega
      have key : ∀ (kk : Str) (c : Nat) (H7 : Hp), kk ∈ ks → (i < ks.length → some kk = ks[i]?) → c ≤ 1 → Ext p c (upd H5 T' (.tup [V.int (i : Nat), V.str wd'])) H7 → ∀ q, H7 q = none →
          ∃ acc, upd H7 q (.tup [V.str wd', V.str kk]) D = some (.lst acc) ∧ acc.length < sizeLine ∧ ∃ bs : List (Str × Str), PdX (fun b : Str × Str => [V.str b.1, V.str b.2]) p (i + 1) H4 D bs (upd (upd H7 q (.tup [V.str wd', V.str kk])) D (.lst (acc ++ [.ref q]))) ∧ bs.map (·.1) = ws.take (i + 1) ∧ (∀ b ∈ bs, b.2 ∈ ks) ∧ ∀ j, j < i + 1 → j < ks.length → ∃ b, bs[j]? = some b ∧ some b.2 = ks[j]? := by
        intro kk c H7 hkk hki hc x7 q nq
        have xx := (Ext.pre st x7).same (same_new (o := .tup [V.str wd', V.str kk]) nq)
        have pu7 := x7.pu _ (x5.pu _ pu4)
        obtain ⟨acc, h1, h2, h3⟩ := pd.step (b := (wd', kk)) xx (pu7.ne nq) upd_same (by omega) rfl (e' := i + 1) (by omega)
        refine ⟨acc, h1, h2, _, h3, ?_, fun b hb => ?_, fun j hj hjk => ?_⟩
        · rw [List.map_append, hb1, List.take_add_one, hwd]; rfl
        · rcases List.mem_append.mp hb with hb | hb
          · exact hb2 b hb
          · rw [List.mem_singleton.mp hb]; exact hkk
        · by_cases hji : j < i
          · obtain ⟨b, h1, h2⟩ := hb3 j hji hjk
            exact ⟨b, by rw [List.getElem?_append_left (by omega)]; exact h1, h2⟩
          · obtain rfl : j = i := by omega
            exact ⟨(wd', kk), by rw [List.getElem?_append_right (by omega), lb, Nat.sub_self]; rfl, hki hjk⟩
      refine ⟨T', _, rfl, SqT.of upd_same, rfl, _, _, rfl, _, _, rfl, rfl, rfl, ?_⟩
      refine ⟨_, rfl, _, rfl, _, rfl, kq, _, rfl, .inl (SqL.of ek5), _, _, rfl, rfl, _, rfl, ?_⟩
      cases hlt : decide (((i : Nat) : Int) < ((ks.map V.str).length : Nat)) with
      | true =>
        have hik : i < ks.length := by have := of_decide_eq_true hlt; rw [List.length_map] at this; omega
        refine ifT ?_
        refine ⟨_, rfl, _, rfl, kq, _, _, .str ks[i], rfl, rfl, SqL.of ek5, at_of (j := i) rfl (by rw [List.getElem?_map, List.getElem?_eq_getElem hik]; rfl), two, fun q nq => ?_⟩
        exact key ks[i] 0 _ (List.getElem_mem hik) (fun _ => (List.getElem?_eq_getElem hik).symm) (by decide) (Ext.refl _ _) q nq
      | false =>
        have hik : ¬ i < ks.length := fun z => of_decide_eq_false hlt (by rw [List.length_map]; omega)
        refine ifF ?_
        refine ⟨_, rfl, _, rfl, p, kq, _, ks.map V.str, rfl, x5.pu _ pu4, by omega, nkp, ek5, by rw [List.length_map]; omega, by rw [List.length_map]; omega, fun v H7 hv x7 => ?_⟩
        obtain ⟨kk, hkk, rfl⟩ := List.mem_map.mp hv
        exact ⟨two, fun q nq => key kk 1 H7 hkk (fun z => absurd z hik) (by decide) x7 q nq⟩
    · rintro H5 ⟨bs, pd, hb1, hb2, hb3⟩
      rw [List.length_map] at hb1 hb3 pd
      rw [List.take_length] at hb1
      have lbs : bs.length = ws.length := by rw [← hb1, List.length_map]
      have ndb : (bs.map (·.1)).Nodup := by rw [hb1]; exact ndw
      obtain ⟨ps, e5, hp5⟩ := pd.li
      have x05 := x04.trans pd.ex
      refine ⟨D, ps, dents bs, rfl, SqL.of e5, pd_pairs (paired_imp (fun q b h => h.2) hp5), fun D6 n6 => ?_⟩
      rw [mergeK_new (dents_nd ndb)]
      have pu5 := x05.pu _ hp
      have n6p := pu5.ne n6
      generalize g6 : upd _ D6 _ = H6
      obtain ⟨s6, f6⟩ := new_of n6 g6
      have x06 := x05.same s6
      have et6 := s6 _ _ (pd.ex.keep _ _ nt et4)
      -- twice
      refine ⟨_, rfl, t, ownSg ks mul, rfl, ok0, et6, fun q7 H7 s7 n7 e7 => ?_⟩
      have x07 := x06.same s7
      have pu7 := x07.pu _ hp
      have n7p := (x06.pu _ hp).ne n7
      have e67 := s7 _ _ f6
      have et7 := s7 _ _ et6
      have sq4 : (ownSg ks mul).sq.length ≤ 4 := Nat.le_trans (List.length_filter_le _ _) kn
      refine ⟨fun σ' H' => ∃ (q : Addr) (tw : List Str), Ext p 10 H7 H' ∧ q ≠ p ∧ H' q = some (.lst (tw.map V.str)) ∧ tw.Sublist (ownSg ks mul).sq ∧ σ' = [some (.ref p), some (.int (m0 : Nat)), some (.ref t), some (.ref kq), some (.ref wq), some (.ref D6), some (.ref q), none, none, none], ?_, ?_⟩
      · refine ⟨_, rfl, p, _, _, rfl, pu7, by omega, ⟨by decide, by decide⟩, fun d8 H8 d80 d81 x8 => ⟨rfl, _, rfl, ?_⟩⟩
        have pu8 := x8.pu _ pu7
        cases hd : decide (V.int d8 = V.int 0) with
        | false =>
          refine ifF ?_
          exact ⟨q7, _, x8.mono (by omega), n7p, x8.keep _ _ n7p e7, List.Sublist.refl _, rfl⟩
        | true =>
          refine ifT ?_
          have e78 := x8.keep _ _ n7p e7
          refine ⟨_, rfl, q7, rfl, ⟨_, SqL.of e78⟩, fun D9 n9 => ?_⟩
          refine lc_list (xs := (ownSg ks mul).sq.map V.str) (fun i H9 => ∃ tw : List Str, AcX p i H8 D9 (tw.map V.str) H9 ∧ tw.Sublist ((ownSg ks mul).sq.take i)) ⟨[], AcX.start n9 (pu8.ne n9), List.nil_sublist _⟩ (fun i H9 _ hv => hv.elim fun tw h => SqL.of (h.1.ex.keep _ _ n7p e78)) ?_ ?_
          · rintro i v H9 hi ⟨tw, ac, sl⟩
            have hi4 : i < 4 := by
              have := (List.getElem?_eq_some_iff.mp hi).1
              rw [List.length_map] at this
              omega
            rw [List.getElem?_map] at hi
            obtain ⟨y, hy, rfl⟩ := Option.map_eq_some_iff.mp hi
            have tk : (ownSg ks mul).sq.take (i + 1) = (ownSg ks mul).sq.take i ++ [y] := by rw [List.take_add_one, hy]; rfl
            refine ⟨rfl, _, rfl, p, _, _, rfl, ac.ex.pu _ pu8, by omega, ⟨by decide, by decide⟩, fun d10 H10 d100 d101 x10 => ⟨rfl, _, rfl, ?_⟩⟩
            cases hd2 : decide (V.int d10 = V.int 0) with
            | true =>
              refine ifT ⟨_, rfl, ?_⟩
              have ltw : tw.length ≤ i := by have := sl.length_le; rw [List.length_take] at this; omega
              obtain ⟨acc, h1, h2, h3⟩ := ac.step (ys := (tw ++ [y]).map V.str) x10 (by rw [List.length_map]; omega) (by rw [List.map_append]; rfl) (e' := i + 1) (by omega)
              exact ⟨acc, h1, h2, tw ++ [y], h3, by rw [tk]; exact sl.append (List.Sublist.refl _)⟩
            | false =>
              refine ifF ?_
              exact ⟨tw, ac.exl x10 (by omega), by rw [tk]; exact sl.trans (List.sublist_append_left _ _)⟩
          · rintro H9 ⟨tw, ac, sl⟩
            rw [List.length_map, List.take_length] at sl
            exact ⟨D9, tw, (x8.trans ac.ex).mono (by rw [List.length_map]; omega), ac.ne, ac.at_, sl, rfl⟩
      rintro σ8 H8 ⟨q8, tw, x8, n8p, e8, stw, rfl⟩
      have x08 := x07.trans x8
      have pu8 := x08.pu _ hp
      have e68 := x8.keep _ _ n6p e67
      have et8 := x8.keep _ _ nt et7
      -- the deeds in order
      refine ⟨_, rfl, _, rfl, D6, dents bs, bs.map (·.1), rfl, .inl e68, dents_keys bs, by rw [List.length_map]; omega, fun ys q9 yp ys' n9 => ?_⟩
      obtain ⟨ys0, yp0, ys0'⟩ := sort_ex (bs.map (·.1)) ndb
      obtain rfl : ys = ys0 := sorted_is yp ys' yp0.symm ys0'
      generalize g9 : upd _ q9 _ = H9
      obtain ⟨s9, f9⟩ := new_of n9 g9
      have x09 := x08.same s9
      have hg' : ∀ y ∈ ys, ∃ kk, (y, kk) ∈ bs := fun y hy => by
        obtain ⟨b, hb, e⟩ := List.mem_map.mp (yp0.subset hy)
        exact ⟨b.2, by rw [← e]; exact hb⟩
      have vb : ∀ y kk, (y, kk) ∈ bs → valV (dents bs) (Sum.inr y : Key) = some (.str kk) := fun y kk h => valV_nodup (dents_nd ndb) (List.mem_map.mpr ⟨_, h, rfl⟩)
      refine ⟨q9, rfl, ⟨_, SqL.of f9⟩, fun D10 n10 => ?_⟩
      have lys : ys.length ≤ 6 := by rw [yp0.length_eq, List.length_map]; omega
      refine lc_list (xs := ys.map V.str) (fun i H1 => ∃ ds : List (Str × Str), Pd (fun b : Str × Str => [V.str b.1, V.str b.2]) H9 D10 ds H1 ∧ ds.map (·.1) = ys.take i ∧ ∀ d ∈ ds, d ∈ bs) ⟨[], Pd.start n10, by simp, fun d hd => (by cases hd)⟩ (fun i H1 _ hv => hv.elim fun ds h => SqL.of (h.1.sm _ _ f9)) ?_ ?_
      · rintro i v H10 hi ⟨ds, pd', hd1, hd2⟩
        rw [List.getElem?_map] at hi
        obtain ⟨y, hy, rfl⟩ := Option.map_eq_some_iff.mp hi
        obtain ⟨kk, hkk⟩ := hg' y (List.mem_of_getElem? hy)
        have hi6 := (List.getElem?_eq_some_iff.mp hy).1
        have ld : ds.length ≤ i := by
          have := congrArg List.length hd1
          rw [List.length_map, List.length_take] at this
          omega
        refine ⟨rfl, _, rfl, _, rfl, _, rfl, D6, _, rfl, dgetK (.inl (pd'.sm _ _ (s9 _ _ e68))) (vb y kk hkk), two, fun q11 n11 => ?_⟩
        generalize g11 : upd _ q11 _ = H11
        obtain ⟨s11, f11⟩ := new_of n11 g11
        obtain ⟨acc, h1, h2, h3⟩ := pd'.step (b := (y, kk)) s11 f11 (by omega) rfl
        refine ⟨acc, h1, h2, _, h3, by rw [List.map_append, hd1, List.take_add_one, hy]; rfl, fun d hd => ?_⟩
        rcases List.mem_append.mp hd with hd | hd
        · exact hd2 d hd
        · rw [List.mem_singleton.mp hd]; exact hkk
      · rintro H10 ⟨ds, pd', hd1, hd2⟩
        rw [List.length_map, List.take_length] at hd1
        have nds : (ds.map (·.1)).Nodup := by rw [hd1]; exact ys0'.imp fun {a b} h => slt_ne h
        obtain ⟨ps, e10, hp10⟩ := pd'.ex
        refine ⟨D10, ps, dents ds, rfl, SqL.of e10, pd_pairs hp10, fun q11 n11 => ?_⟩
        rw [mergeK_new (dents_nd nds)]
        have x010 := x09.same pd'.sm
        have n11p := (x010.pu _ hp).ne n11
        generalize g11 : upd _ q11 _ = H11
        obtain ⟨s11, f11⟩ := new_of n11 g11
        have x011 := x010.same s11
        have s811 := s9.trans (pd'.sm.trans s11)
        refine ⟨_, rfl, Nat.le_trans (by decide : 3 ≤ 4096) hs, fun q12 n12 => ?_⟩
        have n12p := (x011.pu _ hp).ne n12
        generalize g12 : upd _ q12 _ = H12
        obtain ⟨s12, f12⟩ := new_of n12 g12
        have s812 := s811.trans s12
        refine go q12 ⟨ks, mul, ds, tw⟩ H12 ((x011.same s12).mono (by omega)) ⟨t, q11, q8, n12p, nt, n11p, n8p, f12, s812 _ _ et8, s12 _ _ f11, s812 _ _ e8⟩ ?_
        refine ⟨wt.kw, wt.kst, wt.kn, wt.kp, wt.cl, wt.as, fun d hd => ?_, by show (ds.map (·.1)).Pairwise slt; rw [hd1]; exact ys0', fun d hd => hb2 d (hd2 d hd), fun kk hkk => ?_, ?_, stw⟩
        · exact mw _ (by rw [← hb1]; exact List.mem_map.mpr ⟨d, hd2 d hd, rfl⟩)
        · have hkk : kk ∈ ks := hkk
          obtain ⟨j, hj⟩ := List.mem_iff_getElem?.mp hkk
          have hjl := (List.getElem?_eq_some_iff.mp hj).1
          obtain ⟨b, h1, h2⟩ := hb3 j (by omega) hjl
          rw [hj] at h2
          injection h2 with h2
          have mb := List.mem_of_getElem? h1
          have : b.1 ∈ ds.map (·.1) := by rw [hd1]; exact yp0.symm.subset (List.mem_map.mpr ⟨b, mb, rfl⟩)
          obtain ⟨d, hd, e⟩ := List.mem_map.mp this
          have v1 := vb d.1 d.2 (hd2 d hd)
          have v2 := vb b.1 b.2 mb
          rw [e, v2] at v1
          injection v1 with v1
          injection v1 with v1
          exact ⟨d, hd, by rw [← v1, h2]⟩
        · show ds.length ≤ 8
          have := congrArg List.length hd1
          rw [List.length_map] at this
          omega
end
end K12

set_option maxHeartbeats 8000000
/-! The log that is drawn. -/
namespace K12
open PySem PySem.Spec L2
theorem cut_drop {xs : List V} {k : Nat} (h : k ≤ xs.length) : cutV xs (some (k : Int)) none = xs.drop k := by
  unfold cutV
  rw [HT.sIx_none, HT.sIx_nat, Nat.min_eq_left h]
  exact List.take_of_length_le (by rw [List.length_drop]; exact Nat.le_refl _)
theorem cut_take {xs : List V} {k : Nat} (h : k ≤ xs.length) : cutV xs none (some (k : Int)) = xs.take k := by
  unfold cutV
  rw [HT.sIx_none, HT.sIx_nat, Nat.min_eq_left h, List.drop_zero, Nat.sub_zero]
theorem cut_mid {xs : List V} {i j : Nat} (h1 : i ≤ xs.length) (h2 : j ≤ xs.length) : cutV xs (some (i : Int)) (some (j : Int)) = (xs.drop i).take (j - i) := by
  unfold cutV
  rw [HT.sIx_nat, HT.sIx_nat, Nat.min_eq_left h1, Nat.min_eq_left h2]
theorem isLog_drop {g : Sg} {l : List Str} (h : IsLog g l) (k : Nat) : IsLog g (l.drop k) := fun x hx => h x (List.mem_of_mem_drop hx)
theorem isLog_take {g : Sg} {l : List Str} (h : IsLog g l) (k : Nat) : IsLog g (l.take k) := fun x hx => h x (List.mem_of_mem_take hx)
theorem isLog_app {g : Sg} {l m : List Str} (h : IsLog g l) (k : IsLog g m) : IsLog g (l ++ m) := fun x hx => (List.mem_append.mp hx).elim (h x) (k x)
theorem strs_shaped {l : List Str} (h : ∀ y ∈ l, isWord y) : SeqAt.shaped (.list (l.map PyData.str)) = true := by
  unfold SeqAt.shaped
  rw [Bool.and_eq_true]
  refine ⟨by unfold PyData.canLay0; exact strs_lay _ h, decide_eq_true ?_⟩
  unfold PyData.depth
  have := strs_dep l
  omega
theorem if_or {c : Bool} {t : TT} {σ : L2.St} {H : Hp} {Qc : Bool → Hp → Prop} (R : Bool → Hp → Prop) (h1 : c = true → R true H) (h2 : c = false → ∀ Q : Bool → Hp → Prop, (∀ b H', R b H' → Q b H') → t σ H Q) (q : ∀ b H', R b H' → Qc b H') : if c = true then Qc true H else t σ H Qc := by
  cases c with
  | true => exact ifT (q _ _ (h1 rfl))
  | false => exact ifF (h2 rfl Qc q)
theorem eq_nil_data (l : List Str) : PyData.eqv (.list (l.map PyData.str)) (.list []) = decide (l = []) := by
  cases l with
  | nil => rfl
  | cons x r => simp [PyData.eqv, PyData.eqvAll]
section
variable {P : Program} {w : World} {K : PySem.W.Frag} {mg : Str → Option Value} {base : Heap} {a : Ad} {n : Nat}
def spLg : Sp := fun vs H Q _ => ∃ (p s : Addr) (k m : Nat) (g : Sg), vs = [.ref p, .ref s, .int (m : Nat)] ∧ Pu p k H ∧ k ≤ 500000000 ∧ LsAt p s H g ∧ g.Ok ∧ 1 ≤ m ∧ m ≤ 10 ∧
  ∀ q (log : List Str) H', Ext p 80 H H' → q ≠ p → H' q = some (.lst (log.map V.str)) → IsLog g log → log.length = m → Q (.ref q) H'
theorem sc_law_log : FnScope ["_law_purse_here", "_law_setting_here", "_law_many", "_law_deeds", "_law_found", "_law_size"] ["_law_purse_here", "_law_setting_here", "_law_many"] (defScope s_law_log) := ⟨rfl, rfl, rfl, by decide +kernel, rfl, by decide +kernel, by decide +kernel⟩
theorem bd_law_log : BindsOf "_law_log" "_law_log" s_law_log ["_law_purse_here", "_law_setting_here", "_law_many"] := fun _ _ _ _ _ _ us hl => match us, hl with | [_, _, _], _ => rfl
theorem d_log (T : Tp K mg a) (D_law_draw : DfDraw P w K mg base n) (D_law_one_of : Df P w K mg base n "_law_one_of" ["_law_purse_here", "_law_some"] spOneOf) : Df P w K mg base (n + 1) "_law_log" ["_law_purse_here", "_law_setting_here", "_law_many"] spLg := by
  refine df_mk T 44 rfl sc_law_log bd_law_log (fun vs H Q E h => ?_) (fun f cdv A outer s H vs Q E hr h => ?_)
  · obtain ⟨p, s, k, m, g, rfl, _⟩ := h
    rfl
  · obtain ⟨p, ls, k, m, g, rfl, hp, hk, hL, ok, h1, hm, go⟩ := h
    have hs := szl
    have szb : 4000000 ≤ sizeLine := by decide
    obtain ⟨t, d, tw, _, nt, nd, ntw, ex, et, ed, etw⟩ := id hL
    have dn := ok.dn
    have kp := ok.kp
    have dpos : 0 < g.ds.length := by
      cases hks : g.ks with
      | nil => rw [hks] at kp; cases kp
      | cons x r =>
        obtain ⟨dd, hd, _⟩ := ok.dall x (by rw [hks]; exact List.mem_cons_self)
        exact List.length_pos_of_mem hd
    refine ⟨_, (pss_cons (ps_par (i := 3) (j := 4) (by rfl) sc_law_log.nd rfl rfl (by decide) rfl rfl (pa_cons (pe_callB (call_sortedD rfl) (by rfl) T.f_sorted (by decide +kernel) (pa_cons (pe_ix (ix_listK (K := K) rfl) (pv 1) pe_int (fun _ _ => rfl)) pa_nil)) (pa_cons (pe_lst pa_nil) pa_nil)) (by rfl))
    (pss_cons (ps_while PassesOwn.never (pt_cmpR op_lt (pe_callB (call_len_seqK (K := K) rfl) (by rfl) T.f_len PySem.boot_len (pa_cons (pv 4) pa_nil)) (pv 2) (nomark _))
      (pss_one (ps_if (PW.pt (pw_or (pt_cmpR (op_eqDK (K := K) rfl hr.units) (pv 4) (pe_lst pa_nil) (nomark _)) (pw_or1 (pt_cmpR op_gt (pe_f D_law_draw hr (by rfl) (pa_cons (pv 0) (pa_cons pe_int pa_nil))) pe_int (nomark _)))))
        (pss_one (ps_expr (pe_bm PySem.F.plainAttrs_list PySem.F.slot_list_append PySem.F.type_list_append mt_append (pv 4) (pa_cons (pe_f D_law_one_of hr (by rfl) (pa_cons (pv 0) (pa_cons (pv 3) pa_nil))) pa_nil))))
        (pss_cons (ps_set (i := 5) sc_law_log.nd rfl (Or.inl rfl) (pe_op op_add pe_int (pe_f D_law_draw hr (by rfl) (pa_cons (pv 0) (pa_cons (pe_callB (call_min2 rfl) (by rfl) T.f_min (by decide +kernel) (pa_cons (pe_callB (call_len_seqK (K := K) rfl) (by rfl) T.f_len PySem.boot_len (pa_cons (pv 4) pa_nil)) (pa_cons pe_int pa_nil))) pa_nil)))))
        (pss_one (ps_set (i := 4) sc_law_log.nd rfl (Or.inl rfl) (pe_op op_cat (pv 4) (pe_slice (sl_listK (K := K) rfl) (pv 4) (po_some (pe_op op_sub (pe_callB (call_len_seqK (K := K) rfl) (by rfl) T.f_len PySem.boot_len (pa_cons (pv 4) pa_nil)) (pv 5))) po_none))))))))
    (pss_one (ps_ret (pe_slice (sl_listK (K := K) rfl) (pv 4) po_none (po_some (pv 2))))))), ?_⟩
    refine ⟨_, rfl, ls, _, 1, .ref d, rfl, rfl, SqL.of ex, at1 _ _ _, d, _, g.ds.map (·.1), rfl, .inl ed, dents_keys _, by rw [List.length_map]; omega, fun ys q1 yp ys' n1 => ?_⟩
    obtain rfl : ys = g.ds.map (·.1) := sorted_is yp ys' (List.Perm.refl _) ok.dst
    have n1p := hp.ne n1
    generalize g1 : upd _ q1 _ = H1
    obtain ⟨s1, f1⟩ := new_of n1 g1
    have x01 : Ext p 0 H H1 := .of s1
    refine ⟨Nat.zero_le _, fun q2 n2 => ?_⟩
    have n2p := (x01.pu _ hp).ne n2
    generalize g2 : upd _ q2 _ = H2
    obtain ⟨s2, f2⟩ := new_of n2 g2
    have x02 := x01.same s2
    refine ⟨_, _, rfl, ?_⟩
    refine ⟨fun j σ H3 => ∃ (l : List Str) (fa : Addr) (u5 : Option V), j + l.length = 20 ∧ Ext p (4 * l.length) H H3 ∧ H fa = none ∧ fa ≠ p ∧ H3 fa = some (.lst (l.map V.str)) ∧ H3 q1 = some (.lst ((g.ds.map (·.1)).map V.str)) ∧ fa ≠ q1 ∧ IsLog g l ∧ l.length ≤ 14 ∧
      σ = [some (.ref p), some (.ref ls), some (.int (m : Nat)), some (.ref q1), some (.ref fa), u5], ⟨20, [], q2, none, rfl, x02, s1.free n2, n2p, f2, s2 _ _ f1, fun z => (by subst z; rw [f1] at n2; cases n2), fun x hx => (by cases hx), by decide, rfl⟩, ?_⟩
    rintro j σ H3 ⟨l, fa, u5, hj, x3, nfa, nfp, ef, e1, nf1, il, l14, rfl⟩
    have pu3 := x3.pu _ hp
    refine ⟨_, rfl, fa, _, rfl, .inl (SqL.of ef), _, rfl, _, _, rfl, rfl, _, rfl, ?_⟩
    cases hlt : decide ((((l.map V.str).length : Nat) : Int) < (m : Nat)) with
    | false =>
      have hml : m ≤ l.length := by have := of_decide_eq_false hlt; rw [List.length_map] at this; omega
      refine ifF ?_
      refine ⟨_, rfl, _, rfl, _, rfl, fa, _, rfl, SqL.of ef, fun q4 n4 => ?_⟩
      rw [cut_take (by rw [List.length_map]; exact hml), ← List.map_take]
      have n4p := pu3.ne n4
      generalize g4 : upd _ q4 _ = H4
      obtain ⟨s4, f4⟩ := new_of n4 g4
      exact go q4 (l.take m) H4 ((x3.same s4).mono (by omega)) n4p f4 (isLog_take il m) (by rw [List.length_take]; omega)
    | true =>
      have hml : l.length < m := by have := of_decide_eq_true hlt; rw [List.length_map] at this; omega
      refine ifT ?_
      refine ⟨fun σ' H' => ∃ j', j' < j ∧ ∃ (l : List Str) (fa : Addr) (u5 : Option V), j' + l.length = 20 ∧ Ext p (4 * l.length) H H' ∧ H fa = none ∧ fa ≠ p ∧ H' fa = some (.lst (l.map V.str)) ∧ H' q1 = some (.lst ((g.ds.map (·.1)).map V.str)) ∧ fa ≠ q1 ∧ IsLog g l ∧ l.length ≤ 14 ∧
        σ' = [some (.ref p), some (.ref ls), some (.int (m : Nat)), some (.ref q1), some (.ref fa), u5], fun σ' H' ⟨j', h1, h2⟩ => ⟨j', h1, h2⟩, ?_⟩
      refine ⟨_, rfl, Nat.zero_le _, fun q4 n4 => ?_⟩
      generalize g4 : upd _ q4 _ = H4
      obtain ⟨s4, f4⟩ := new_of n4 g4
      have x4 := x3.same s4
      have pu4 := x4.pu _ hp
      refine ⟨_, _, .lst (SqL.of (s4 _ _ ef)) (strs_data l), .lst (SqL.of f4) .nil, strs_shaped (log_words ok il), (by decide), _, rfl, ?_⟩
      rw [eq_nil_data]
      refine if_or (fun b H' => Ext p 1 H4 H' ∧ (b = false → l ≠ [])) (fun hc => ⟨(Ext.refl p H4).mono (by omega), fun z => (by cases z)⟩) (fun hc Q' q => ?_) (fun b H5 hb => ?_)
      · exact ⟨_, rfl, p, _, _, rfl, pu4, by omega, ⟨by decide, by decide⟩, fun d5 H5 d50 d51 x5 => ⟨_, _, rfl, rfl, _, rfl, q _ _ ⟨x5, fun _ => of_decide_eq_false hc⟩⟩⟩
      obtain ⟨x5, hb⟩ := hb
      have x05 := x4.trans x5
      have pu5 := x05.pu _ hp
      have ef5 := x5.keep _ _ nfp (s4 _ _ ef)
      have e15 := x5.keep _ _ n1p (s4 _ _ e1)
      cases b with
      | true =>
        refine ifT ?_
        refine ⟨_, rfl, .inl ⟨rfl, _, SqL.of ef5⟩, _, rfl, _, rfl, p, q1, _, (g.ds.map (·.1)).map V.str, rfl, pu5, by omega, n1p, e15, by rw [List.length_map, List.length_map]; exact dpos, by rw [List.length_map, List.length_map]; omega, fun v H6 hv x6 => ?_⟩
        obtain ⟨y, hy, rfl⟩ := List.mem_map.mp hv
        obtain ⟨dd, hd, rfl⟩ := List.mem_map.mp hy
        have ef6 := x6.keep _ _ nfp ef5
        refine ⟨fa, _, _, rfl, rfl, ef6, by rw [List.length_map]; omega, ?_⟩
        refine ⟨j - 1, by omega, l ++ [dd.1], fa, _, by rw [List.length_append]; show _ + (_ + 1) = _; omega, ((x05.trans x6).upd0 nfa).mono (by rw [List.length_append]; show _ ≤ 4 * (_ + 1); omega), nfa, nfp, by rw [List.map_append]; exact upd_same, by rw [upd_ne nf1.symm]; exact x6.keep _ _ n1p e15, nf1, isLog_app il fun x hx => ?_, by rw [List.length_append]; show _ + 1 ≤ _; omega, rfl⟩
        rw [List.mem_singleton.mp hx, kd_of_mem ok hd]
        rfl
      | false =>
        have hne := hb rfl
        have lpos : 0 < l.length := List.length_pos_iff.mpr hne
        refine ifF ?_
        have hml : ((l.map V.str).length : Nat) = l.length := List.length_map _
        obtain ⟨mv, hmv⟩ : ∃ mv : Int, (if (5 : Int) < ((l.map V.str).length : Nat) then 5 else (((l.map V.str).length : Nat) : Int)) = mv := ⟨_, rfl⟩
        have hmv2 : 1 ≤ mv ∧ mv ≤ 5 ∧ mv ≤ l.length := by rw [hml] at hmv; rw [← hmv]; split <;> omega
        refine ⟨_, rfl, _, rfl, fa, _, rfl, .inl (SqL.of ef5), _, _, rfl, ?_⟩
        refine ⟨p, _, mv, congrArg (fun z : Int => [V.ref p, V.int z]) hmv, pu5, by omega, ⟨by omega, by omega⟩, fun d6 H6 d60 d61 x6 => ⟨_, _, rfl, rfl, ?_⟩⟩
        obtain ⟨z, hz⟩ : ∃ z : Nat, (1 : Int) + d6 = (z : Nat) := ⟨(1 + d6).toNat, by omega⟩
        have hz2 : 1 ≤ z ∧ z ≤ 5 ∧ z ≤ l.length := by omega
        show gName 5 (V.int ((1 : Int) + d6)) _ _ _
        rw [hz]
        have ef6 := x6.keep _ _ nfp ef5
        refine ⟨_, rfl, _, rfl, _, rfl, fa, _, rfl, .inl (SqL.of ef6), _, rfl, _, _, rfl, rfl, _, rfl, fa, _, rfl, SqL.of ef6, fun q7 n7 => ?_⟩
        rw [show (((l.map V.str).length : Nat) : Int) - (z : Nat) = ((l.length - z : Nat) : Nat) by rw [hml]; omega, cut_drop (by rw [hml]; omega), ← List.map_drop]
        have x06 := x05.trans x6
        have pu6 := x06.pu _ hp
        generalize g7 : upd _ q7 _ = H7
        obtain ⟨s7, f7⟩ := new_of n7 g7
        refine ⟨fa, q7, _, _, rfl, rfl, s7 _ _ ef6, f7, by rw [List.length_map, List.length_map, List.length_drop]; omega, fun q8 n8 => ?_⟩
        rw [← List.map_append]
        have x07 := x06.same s7
        have n8p := (x07.pu _ hp).ne n8
        generalize g8 : upd _ q8 _ = H8
        obtain ⟨s8, f8⟩ := new_of n8 g8
        have e17 := s7 _ _ (x6.keep _ _ n1p e15)
        have ll : (l ++ l.drop (l.length - z)).length = l.length + z := by rw [List.length_append, List.length_drop]; omega
        exact ⟨j - z, by omega, l ++ l.drop (l.length - z), q8, _, by rw [ll]; omega, (x07.same s8).mono (by rw [ll]; omega), x07.no hp n8, n8p, f8, s8 _ _ e17, fun y => (by subst y; rw [e17] at n8; cases n8), isLog_app il (isLog_drop il _), by rw [ll]; omega, rfl⟩
end
end K12

set_option maxHeartbeats 8000000
/-! The tree that is drawn. -/
namespace K12
open PySem PySem.Spec L2
mutual
theorem At.keep2 {p q : Addr} {H H' : Hp} (k : ∀ b o, b ≠ p → H b = some o → H' b = some o) : ∀ {v : V} {d : Dt}, At p H v d → At q H v d → At q H' v d
  | v, .s x, _, h => by unfold At at h ⊢; exact h
  | v, .i _, _, h => by unfold At at h ⊢; exact h
  | v, .b _, _, h => by unfold At at h ⊢; exact h
  | v, .l ds, g, h => by
    unfold At at h g ⊢
    obtain ⟨a, vs, e, m, o, r⟩ := h
    obtain ⟨a', vs', e', m', o', r'⟩ := g
    rw [e] at e'
    injection e' with e'
    subst e'
    rw [o] at o'
    injection o' with o'
    injection o' with o'
    subst o'
    exact ⟨a, vs, e, m, k _ _ m' o, AtL.keep2 k r' r⟩
  | v, .t ds, g, h => by
    unfold At at h g ⊢
    obtain ⟨a, vs, e, m, o, r⟩ := h
    obtain ⟨a', vs', e', m', o', r'⟩ := g
    rw [e] at e'
    injection e' with e'
    subst e'
    rw [o] at o'
    injection o' with o'
    injection o' with o'
    subst o'
    exact ⟨a, vs, e, m, k _ _ m' o, AtL.keep2 k r' r⟩
theorem AtL.keep2 {p q : Addr} {H H' : Hp} (k : ∀ b o, b ≠ p → H b = some o → H' b = some o) : ∀ {vs : List V} {ds : List Dt}, AtL p H vs ds → AtL q H vs ds → AtL q H' vs ds
  | [], [], _, h => .nil
  | v :: vs, d :: ds, g, h => by
    unfold AtL at h g ⊢
    exact ⟨At.keep2 k g.1 h.1, AtL.keep2 k g.2 h.2⟩
  | [], _ :: _, _, h => by unfold AtL at h; exact h.elim
  | _ :: _, [], _, h => by unfold AtL at h; exact h.elim
end
/-- a new list of new data, while there are draws -/
structure BdX (p : Addr) (c : Nat) (H : Hp) (D : Addr) (ds : List Dt) (H1 : Hp) : Prop where
  ex : Ext p c H H1
  nw : H D = none
  ne : D ≠ p
  li : ∃ vs, H1 D = some (.lst vs) ∧ FrL H H1 vs ds ∧ AtL D H1 vs ds
theorem BdX.start {p : Addr} {H : Hp} {D : Addr} (n : H D = none) (ne : D ≠ p) : BdX p 0 H D [] (upd H D (.lst [])) := ⟨.of (same_new n), n, ne, [], upd_same, fun _ _ => .nil, .nil⟩
theorem BdX.step {p : Addr} {c d e' k : Nat} {H H1 H2 : Hp} {D : Addr} {ds es : List Dt} {v : V} {dd : Dt} (hp : Pu p k H) (h : BdX p c H D ds H1) (s : Ext p d H1 H2) (f : ∀ q, Is H q ∨ q = D → At q H2 v dd) (l : ds.length < sizeLine) (e : es = ds ++ [dd]) (hc : c + d ≤ e') :
    ∃ acc, H2 D = some (.lst acc) ∧ acc.length < sizeLine ∧ BdX p e' H D es (upd H2 D (.lst (acc ++ [v]))) := by
  obtain ⟨vs, e1, f1, g1⟩ := h.li
  have hl : vs.length = ds.length := g1.len
  have ip : Is H p := hp.here
  have g2 : AtL D H2 vs ds := AtL.keep2 s.keep (f1 p ip) g1
  refine ⟨vs, s.keep _ _ h.ne e1, by omega, ((h.ex.trans s).mono hc).upd0 h.nw, h.nw, h.ne, vs ++ [v], upd_same, fun q i => ?_, ?_⟩
  · rw [e]
    exact AtL.upd ((AtL.keep2 s.keep (f1 p ip) (f1 q i)).snoc (f q (.inl i))) (g2.snoc (f D (.inr rfl)))
  · rw [e]
    exact AtL.upd (g2.snoc (f D (.inr rfl))) (g2.snoc (f D (.inr rfl)))
theorem BdX.fr {p : Addr} {c k : Nat} {H H1 H2 : Hp} {D : Addr} {ds : List Dt} {v : V} {d : Dt} (hp : Pu p k H) (h : BdX p c H D ds H1) (f : ∀ q, Is H1 q → At q H2 v d) : ∀ q, Is H q ∨ q = D → At q H2 v d := fun q i => by
  rcases i with i | rfl
  · exact f q (i.upE hp h.ex)
  · exact f q (h.li.elim fun vs e => ⟨_, e.1⟩)
/-- where a log is cut: from 0 up to its end -/
structure Pts (L : Nat) (pts : List Nat) : Prop where
  pw : pts.Pairwise (· < ·)
  h0 : pts[0]? = some 0
  hl : ∃ r, pts = r ++ [L]
  h3 : 3 ≤ pts.length
theorem Pts.last {L : Nat} {pts : List Nat} (h : Pts L pts) : pts[pts.length - 1]? = some L := by
  obtain ⟨r, e⟩ := h.hl
  rw [e, List.length_append]
  show (r ++ [L])[r.length + 1 - 1]? = _
  rw [Nat.add_sub_cancel, List.getElem?_append_right (Nat.le_refl _), Nat.sub_self]
  rfl
theorem Pts.seg {L i : Nat} {pts : List Nat} (h : Pts L pts) (hi : i + 1 < pts.length) : ∃ x y, pts[i]? = some x ∧ pts[i + 1]? = some y ∧ x < y ∧ y ≤ L ∧ y - x < L := by
  have pw := List.pairwise_iff_getElem.mp h.pw
  have h3 := h.h3
  have hl := List.getElem?_eq_some_iff.mp h.last
  obtain ⟨hl1, hl2⟩ := hl
  have h0 := List.getElem?_eq_some_iff.mp h.h0
  obtain ⟨h01, h02⟩ := h0
  have e1 := pw i (i + 1) (by omega) hi (by omega)
  have e2 : pts[i + 1] ≤ L := by
    by_cases he : i + 1 = pts.length - 1
    · have : pts[i + 1] = L := by rw [← hl2]; congr 1
      omega
    · have := pw (i + 1) (pts.length - 1) hi hl1 (by omega)
      omega
  refine ⟨pts[i], pts[i + 1], List.getElem?_eq_getElem _, List.getElem?_eq_getElem _, e1, e2, ?_⟩
  by_cases hz : i = 0
  · have := pw (i + 1) (pts.length - 1) hi hl1 (by omega)
    omega
  · have := pw 0 i h01 (by omega) (by omega)
    omega
theorem atI_last (xs : List V) (v : V) : atI (xs ++ [v]) (-1) = some v := by
  unfold atI ixN
  rw [if_neg (by decide), if_pos (by rw [List.length_append]; show -((xs.length + 1 : Nat) : Int) ≤ -1; omega)]
  show (xs ++ [v])[((-1 : Int) + ((xs ++ [v]).length : Nat)).toNat]? = some v
  rw [List.length_append]
  rw [show ((-1 : Int) + ((xs.length + [v].length : Nat) : Int)).toNat = xs.length by show ((-1 : Int) + ((xs.length + 1 : Nat) : Int)).toNat = _; omega]
  rw [List.getElem?_append_right (Nat.le_refl _), Nat.sub_self]
  rfl
abbrev ptV (pts : List Nat) : List V := pts.map fun x => V.int (x : Nat)
/-- a run that was found -/
def Rn (ks : List Str) (L : Nat) (p fr : Addr) (H : Hp) (v : V) : Prop := ∃ q pl kk pts, v = .ref q ∧ q ≠ p ∧ pl ≠ p ∧ q ≠ fr ∧ pl ≠ fr ∧ H q = some (.tup [.str kk, .ref pl]) ∧ H pl = some (.lst (ptV pts)) ∧ Pts L pts ∧ kk ∈ ks
theorem Rn.up {ks : List Str} {L c : Nat} {p fr : Addr} {H H' : Hp} {v : V} (h : Rn ks L p fr H v) (x : Ext p c H H') : Rn ks L p fr H' v := by
  obtain ⟨q, pl, kk, pts, e, n1, n2, n3, n4, e1, e2, r⟩ := h
  exact ⟨q, pl, kk, pts, e, n1, n2, n3, n4, x.keep _ _ n1 e1, x.keep _ _ n2 e2, r⟩
theorem Rn.updF {ks : List Str} {L : Nat} {p fr : Addr} {H : Hp} {o : HO} {v : V} (h : Rn ks L p fr H v) : Rn ks L p fr (upd H fr o) v := by
  obtain ⟨q, pl, kk, pts, e, n1, n2, n3, n4, e1, e2, r⟩ := h
  exact ⟨q, pl, kk, pts, e, n1, n2, n3, n4, by rw [upd_ne n3]; exact e1, by rw [upd_ne n4]; exact e2, r⟩
theorem ints_data {K : PySem.W.Frag} {H : Hp} : ∀ pts : List Nat, DpAll K H (ptV pts) (pts.map fun x => PyData.int (x : Nat)) ∧ PyData.canLayAll0 (pts.map fun x => PyData.int (x : Nat)) = true ∧ PyData.depthAll (pts.map fun x => PyData.int (x : Nat)) ≤ 1
  | [] => ⟨.nil, by unfold PyData.canLayAll0; rfl, by unfold PyData.depthAll; exact Nat.zero_le _⟩
  | x :: r => by
    have ih := ints_data (K := K) (H := H) r
    refine ⟨.cons (.int _) ih.1, ?_, ?_⟩
    · rw [List.map_cons]
      simp [PyData.canLayAll0, PyData.canLay0, ih.2.1]
    · have := ih.2.2
      rw [List.map_cons]
      unfold PyData.depthAll PyData.depth
      omega
theorem rn_data {K : PySem.W.Frag} {ks : List Str} {L : Nat} {p fr : Addr} {H : Hp} (hw : ∀ k ∈ ks, isWord k) : ∀ {vr : List V}, (∀ v ∈ vr, Rn ks L p fr H v) → ∃ ds, DpAll K H vr ds ∧ PyData.canLayAll0 ds = true ∧ PyData.depthAll ds ≤ 3 ∧ (ds = [] ↔ vr = [])
  | [], _ => ⟨[], .nil, by unfold PyData.canLayAll0; rfl, by unfold PyData.depthAll; exact Nat.zero_le _, by simp⟩
  | v :: vr, h => by
    obtain ⟨ds, d1, d2, d3, _⟩ := rn_data (K := K) hw fun v m => h v (List.mem_cons_of_mem _ m)
    obtain ⟨q, pl, kk, pts, rfl, _, _, _, _, e1, e2, _, mk⟩ := h v List.mem_cons_self
    have hi := ints_data (K := K) (H := H) pts
    refine ⟨.tuple [.str kk, .list (pts.map fun x => PyData.int (x : Nat))] :: ds, .cons (.tup (SqT.of e1) (.cons (.str kk) (.cons (.lst (SqL.of e2) hi.1) .nil))) d1, ?_, ?_, by simp⟩
    · simp [PyData.canLayAll0, PyData.canLay0, d2, hi.2.1, word_ok (hw kk mk)]
    · have := hi.2.2
      simp only [PyData.depthAll, PyData.depth]
      omega
section
variable {P : Program} {w : World} {K : PySem.W.Frag} {mg : Str → Option Value} {base : Heap} {a : Ad} {n : Nat}
def spDt (m : Nat) : Sp := fun vs H Q _ => ∃ (p s l : Addr) (k : Nat) (g : Sg) (log : List Str), vs = [.ref p, .ref s, .ref l] ∧ Pu p k H ∧ k + 10000 * m ≤ 400000000 ∧ LsAt p s H g ∧ g.Ok ∧ l ≠ p ∧ H l = some (.lst (log.map V.str)) ∧ IsLog g log ∧ 1 ≤ log.length ∧ log.length < m ∧ log.length ≤ 10 ∧
  ∀ (v : V) (t : K12.T) H', Ext p (100 * log.length - 50) H H' → Fr H H' v t.dt → t.full → szT t = log.length → t.dp + 1 ≤ log.length → Q v H'
theorem sc_law_drawn_tree : FnScope ["_law_purse_here", "_law_setting_here", "_law_log_here", "_law_runs", "_law_kind_here", "_law_cut", "_law_points", "_law_last", "_law_at"] ["_law_purse_here", "_law_setting_here", "_law_log_here"] (defScope s_law_drawn_tree) := ⟨rfl, rfl, rfl, by decide +kernel, rfl, by decide +kernel, by decide +kernel⟩
theorem bd_law_drawn_tree : BindsOf "_law_drawn_tree" "_law_drawn_tree" s_law_drawn_tree ["_law_purse_here", "_law_setting_here", "_law_log_here"] := fun _ _ _ _ _ _ us hl => match us, hl with | [_, _, _], _ => rfl
theorem d_drawn_tree {m : Nat} (T : Tp K mg a) (D_law_draw : DfDraw P w K mg base n) (D_law_one_of : Df P w K mg base n "_law_one_of" ["_law_purse_here", "_law_some"] spOneOf) (D_law_squares : Df P w K mg base n "_law_squares" ["_law_table_here"] spSq_)
    (D_law_kind : Df P w K mg base n "_law_kind" ["_law_setting_here", "_law_log_here"] spKind) (D_law_drawn_tree : Df P w K mg base n "_law_drawn_tree" ["_law_purse_here", "_law_setting_here", "_law_log_here"] (spDt m)) :
    Df P w K mg base (n + 1) "_law_drawn_tree" ["_law_purse_here", "_law_setting_here", "_law_log_here"] (spDt (m + 1)) := by
  refine df_mk T 51 rfl sc_law_drawn_tree bd_law_drawn_tree (fun vs H Q E h => ?_) (fun f cdv A outer s H vs Q E hr h => ?_)
  · obtain ⟨p, s, l, k, g, log, rfl, _⟩ := h
    rfl
  · obtain ⟨p, ls, l, k, g, log, rfl, hp, hk, hL, ok, nl, el, il, l1, lm, l10, go⟩ := h
    have hs := szl
    have szb : 4000000 ≤ sizeLine := by decide
    obtain ⟨t, d, tw, nls, nt, nd, ntw, ex, et, ed, etw⟩ := id hL
    have ll : (log.map V.str).length = log.length := List.length_map _
    refine ⟨_, (pss_cons (ps_if (pt_cmpR op_eq (pe_callB (call_len_seqK (K := K) rfl) (by rfl) T.f_len PySem.boot_len (pa_cons (pv 2) pa_nil)) pe_int (nomark _))
      (pss_one (ps_ret (pe_ix (ix_listK (K := K) rfl) (pv 2) pe_int (fun _ _ => rfl))))
      pss_nil)
    (pss_cons (ps_set (i := 3) sc_law_drawn_tree.nd rfl (Or.inl rfl) (pe_lst pa_nil))
    (pss_cons (ps_for PassesOwn.never rfl (pi_listK (K := K) rfl (pe_f D_law_squares hr (by rfl) (pa_cons (pe_ix (ix_listK (K := K) rfl) (pv 1) pe_int (fun _ _ => rfl)) pa_nil))) (pg_name (i := 4) sc_law_drawn_tree.nd rfl (Or.inl rfl))
      (pss_cons (ps_set (i := 6) sc_law_drawn_tree.nd rfl (Or.inr rfl) (pe_lst (pa_cons pe_int pa_nil)))
      (pss_cons (ps_for PassesOwn.never rfl (pi_range2 (by rfl) T.f_range (pa_cons pe_int (pa_cons (pe_op op_add (pe_callB (call_len_seqK (K := K) rfl) (by rfl) T.f_len PySem.boot_len (pa_cons (pv 2) pa_nil)) pe_int) pa_nil))) (pg_name (i := 7) sc_law_drawn_tree.nd rfl (Or.inl rfl))
        (pss_one (ps_if (PW.pt (pw_and (pt_cmpR op_eq (pe_f D_law_kind hr (by rfl) (pa_cons (pv 1) (pa_cons (pe_slice (sl_listK (K := K) rfl) (pv 2) (po_some (pe_ix (ix_listK (K := K) rfl) (pv 6) (pe_un un_neg pe_int) (fun _ _ => rfl))) (po_some (pv 7))) pa_nil))) (pv 4) (nomark _)) (pw_and1 (PW.pt (pw_or (pt_cmpR op_eq (pv 7) (pe_callB (call_len_seqK (K := K) rfl) (by rfl) T.f_len PySem.boot_len (pa_cons (pv 2) pa_nil)) (nomark _)) (pw_or1 (pt_cmpR op_gt (pe_f D_law_draw hr (by rfl) (pa_cons (pv 0) (pa_cons pe_int pa_nil))) pe_int (nomark _))))))))
          (pss_one (ps_expr (pe_bm PySem.F.plainAttrs_list PySem.F.slot_list_append PySem.F.type_list_append mt_append (pv 6) (pa_cons (pv 7) pa_nil))))
          pss_nil)))
      (pss_one (ps_if (PW.pt (pw_and (pt_cmpR op_eq (pe_ix (ix_listK (K := K) rfl) (pv 6) (pe_un un_neg pe_int) (fun _ _ => rfl)) (pe_callB (call_len_seqK (K := K) rfl) (by rfl) T.f_len PySem.boot_len (pa_cons (pv 2) pa_nil)) (nomark _)) (pw_and1 (pt_cmpR op_gt (pe_callB (call_len_seqK (K := K) rfl) (by rfl) T.f_len PySem.boot_len (pa_cons (pv 6) pa_nil)) pe_int (nomark _)))))
        (pss_one (ps_expr (pe_bm PySem.F.plainAttrs_list PySem.F.slot_list_append PySem.F.type_list_append mt_append (pv 3) (pa_cons (pe_tup (pa_cons (pv 4) (pa_cons (pv 6) pa_nil))) pa_nil))))
        pss_nil)))))
    (C8.pss_cut (ps_if (PW.pt (pw_and (pt_cmpR (op_neDK (K := K) rfl hr.units) (pv 3) (pe_lst pa_nil) (nomark _)) (pw_and1 (pt_cmpR op_gt (pe_f D_law_draw hr (by rfl) (pa_cons (pv 0) (pa_cons pe_int pa_nil))) pe_int (nomark _)))))
      (pss_cons (ps_asg (pe_f D_law_one_of hr (by rfl) (pa_cons (pv 0) (pa_cons (pv 3) pa_nil))) (pg_tup rfl (pgs_cons (pg_name (i := 4) sc_law_drawn_tree.nd rfl (Or.inl rfl)) (pgs_cons (pg_name (i := 6) sc_law_drawn_tree.nd rfl (Or.inr rfl)) pgs_nil))))
      (pss_one (ps_ret (pe_tup (pa_cons pe_str (pa_cons (pv 4) (pa_cons (pe_lc (own := [("_law_at", 8)]) rfl sc_law_drawn_tree.nd (pi_range2 (by rfl) T.f_range (pa_cons pe_int (pa_cons (pe_callB (call_len_seqK (K := K) rfl) (by rfl) T.f_len PySem.boot_len (pa_cons (pv 6) pa_nil)) pa_nil))) (blkOk_by (own := [("_law_at", 8)]) (N := ["_law_purse_here", "_law_setting_here", "_law_log_here", "_law_runs", "_law_kind_here", "_law_cut", "_law_points", "_law_last", "_law_at"]) (sc := defScope s_law_drawn_tree) (by decide +kernel)) (fun _ _ _ _ _ => (pg_name (i := 8) sc_law_drawn_tree.nd rfl (Or.inl rfl))) (fun _ _ _ _ _ => pts_nil) (fun _ _ _ _ _ => (pe_f D_law_drawn_tree hr (by rfl) (pa_cons (pv 0) (pa_cons (pv 1) (pa_cons (pe_slice (sl_listK (K := K) rfl) (pv 2) (po_some (pe_ix (ix_listK (K := K) rfl) (pv 6) (pe_op op_sub (pv 8) pe_int) (fun _ _ => rfl))) (po_some (pe_ix (ix_listK (K := K) rfl) (pv 6) (pv 8) (fun _ _ => rfl)))) pa_nil)))))) pa_nil)))))))
      pss_nil)
    (pss_cons (ps_set (i := 5) sc_law_drawn_tree.nd rfl (Or.inl rfl) (pe_op op_add pe_int (pe_f D_law_draw hr (by rfl) (pa_cons (pv 0) (pa_cons (pe_op op_sub (pe_callB (call_len_seqK (K := K) rfl) (by rfl) T.f_len PySem.boot_len (pa_cons (pv 2) pa_nil)) pe_int) pa_nil)))))
    (pss_one (ps_ret (pe_tup (pa_cons pe_str (pa_cons (pe_f D_law_drawn_tree hr (by rfl) (pa_cons (pv 0) (pa_cons (pv 1) (pa_cons (pe_slice (sl_listK (K := K) rfl) (pv 2) po_none (po_some (pv 5))) pa_nil)))) (pa_cons (pe_f D_law_drawn_tree hr (by rfl) (pa_cons (pv 0) (pa_cons (pv 1) (pa_cons (pe_slice (sl_listK (K := K) rfl) (pv 2) (po_some (pv 5)) po_none) pa_nil)))) pa_nil))))))))))), ?_⟩
    refine ⟨_, rfl, l, _, rfl, .inl (SqL.of el), rfl, _, rfl, ?_⟩
    by_cases hone : log.length = 1
    case pos =>
      rw [decide_eq_true (by rw [ll, hone]; rfl)]
      refine ifT ?_
      cases log with
      | nil => cases l1
      | cons x r =>
        refine ⟨_, rfl, l, _, 0, .str x, rfl, rfl, SqL.of el, at0 _ _, ?_⟩
        exact go (.str x) (.lf x) H ((Ext.refl p H).mono (Nat.zero_le _)) (fun q _ => .mk_lf) (by unfold K12.T.full; trivial) (by rw [szT_lf, hone]) (by unfold K12.T.dp; omega)
    rw [decide_eq_false (by rw [ll]; intro z; injection z with z; omega)]
    refine ifF ?_
    have l2 : 2 ≤ log.length := by omega
    refine ⟨Nat.zero_le _, fun fr nfr => ?_⟩
    have nfp := hp.ne nfr
    generalize g1 : upd _ fr _ = H1
    obtain ⟨s1, f1⟩ := new_of nfr g1
    have x01 : Ext p 0 H H1 := .of s1
    refine ⟨_, rfl, ls, _, 0, .ref t, rfl, rfl, SqL.of (s1 _ _ ex), at0 _ _, t, g, rfl, ok, s1 _ _ et, fun sq H2 s2 nsq esq => ?_⟩
    have x02 := x01.same s2
    have nsp := (x01.pu _ hp).ne nsq
    have sq4 : g.sq.length ≤ 4 := Nat.le_trans (List.length_filter_le _ _) ok.kn
    refine ⟨sq, rfl, ⟨_, SqL.of esq⟩, ?_⟩
    have frsq : fr ≠ sq := fun z => by subst z; rw [f1] at nsq; cases nsq
    refine for_list (xs := g.sq.map V.str) (fun i σ H3 => ∃ (vr : List V) (u4 u6 u7 : Option V), Ext p (i * 10) H H3 ∧ H3 sq = some (.lst (g.sq.map V.str)) ∧ H3 fr = some (.lst vr) ∧ vr.length ≤ i ∧ (∀ v ∈ vr, Rn g.ks log.length p fr H3 v) ∧
      σ = [some (.ref p), some (.ref ls), some (.ref l), some (.ref fr), u4, none, u6, u7, none]) ⟨[], none, none, none, by rw [Nat.zero_mul]; exact x02, esq, s2 _ _ f1, Nat.le_refl _, fun v hv => (by cases hv), rfl⟩ (fun i σ H3 _ ⟨vr, u4, u6, u7, _, e, _⟩ => SqL.of e) ?_ ?_
    · rintro i v σ H3 hi ⟨vr, u4, u6, u7, x3, esq3, efr, lvr, hvr, rfl⟩
      have hi4 : i < 4 := by
        have := (List.getElem?_eq_some_iff.mp hi).1
        rw [List.length_map] at this
        omega
      rw [List.getElem?_map] at hi
      obtain ⟨kk, hkk, rfl⟩ := Option.map_eq_some_iff.mp hi
      have mkk : kk ∈ g.ks := (List.mem_filter.mp (List.mem_of_getElem? hkk)).1
      have pu3 := x3.pu _ hp
      refine ⟨Nat.le_trans (by decide : 1 ≤ 4096) hs, fun pp npp => ?_⟩
      have nppp := pu3.ne npp
      have ac0 : AcX p 0 H3 pp (ptV [0]) (upd H3 pp (.lst [.int 0])) := ⟨.of (same_new npp), npp, nppp, upd_same⟩
      generalize upd H3 pp (.lst [.int 0]) = H4 at ac0
      have el3 := x3.keep _ _ nl el
      refine ⟨_, rfl, l, _, rfl, .inl (SqL.of (ac0.ex.keep _ _ nl el3)), _, _, rfl, rfl, _, _, rfl, ⟨by decide, by decide, by omega, by rw [ll]; omega⟩, ?_⟩
      have eL : ((((log.map V.str).length : Nat) : Int) + 1 - 1).toNat = log.length := by rw [ll]; omega
      refine for_range (lo := 1) (n := ((((log.map V.str).length : Nat) : Int) + 1 - 1).toNat) (fun j σ H5 => ∃ (r : List Nat) (z : Nat) (u7 : Option V), AcX p j H3 pp (ptV (r ++ [z])) H5 ∧ (r ++ [z]).Pairwise (· < ·) ∧ (r ++ [z])[0]? = some 0 ∧ z ≤ j ∧
        σ = [some (.ref p), some (.ref ls), some (.ref l), some (.ref fr), some (.str kk), none, some (.ref pp), u7, none]) ⟨[], 0, _, ac0, by simp, rfl, Nat.le_refl _, rfl⟩ ?_ ?_
      · rintro j σ H5 hj ⟨r, z, u7, ac, pw, p0, hz, rfl⟩
        rw [eL] at hj
        have ptl : ptV (r ++ [z]) = ptV r ++ [V.int (z : Nat)] := by unfold ptV; rw [List.map_append]; rfl
        have epp := ac.at_
        rw [ptl] at epp
        have el5 := ac.ex.keep _ _ nl el3
        rw [show (1 : Int) + (j : Nat) = ((j + 1 : Nat) : Nat) by omega]
        refine ⟨_, rfl, _, rfl, _, rfl, _, rfl, pp, _, _, _, rfl, rfl, SqL.of epp, atI_last _ _, _, rfl, _, rfl, _, rfl, l, _, rfl, SqL.of el5, fun q6 n6 => ?_⟩
        rw [cut_mid (by rw [ll]; omega) (by rw [ll]; omega), ← List.map_drop, ← List.map_take]
        generalize g6 : upd _ q6 _ = H6
        obtain ⟨s6, f6⟩ := new_of n6 g6
        have x06 := x3.trans (ac.ex.same s6)
        have pne : (log.drop z).take (j + 1 - z) ≠ [] := fun e => by
          have := congrArg List.length e
          rw [List.length_take, List.length_drop] at this
          simp at this
          omega
        refine ⟨ls, q6, p, g, _, rfl, ok, hL.up x06, f6, isLog_take (isLog_drop il z) _, pne, fun H7 s7 => ⟨_, rfl, rfl, _, rfl, ?_⟩⟩
        have ac7 := ac.exl (Ext.of (s6.trans s7)) (Nat.le_refl _)
        have pu7 := (x3.trans ac7.ex).pu _ hp
        refine if_and (fun b H' => Ext p 1 H7 H') (fun hc Q' q => ?_) (fun hc => (Ext.refl p H7).mono (by omega)) (fun b H8 x8 => ?_)
        · refine ⟨_, rfl, _, rfl, l, _, rfl, .inl (SqL.of (ac7.ex.keep _ _ nl el3)), rfl, _, rfl, ?_⟩
          refine if_or (fun b H' => Ext p 1 H7 H') (fun hc => (Ext.refl p H7).mono (by omega)) (fun hc Q'' q' => ?_) (fun b H8 x8 => q b H8 x8)
          exact ⟨_, rfl, p, _, _, rfl, pu7, by omega, ⟨by decide, by decide⟩, fun d8 H8 d80 d81 x8 => ⟨_, _, rfl, rfl, _, rfl, q' _ _ x8⟩⟩
        have ac8 := ac7.exl x8 (Nat.le_refl _)
        cases b with
        | true =>
          refine ifT ?_
          refine ⟨_, rfl, .inl ⟨rfl, _, SqL.of ac8.at_⟩, _, rfl, pp, _, _, rfl, rfl, ac8.at_, ?_, ?_⟩
          · have : (r ++ [z]).length ≤ 11 := by
              have hb : ∀ x ∈ r ++ [z], x ∈ List.range 11 := fun x hx => by
                rcases List.mem_append.mp hx with hx | hx
                · have := (List.pairwise_append.mp pw).2.2 x hx z (List.mem_singleton.mpr rfl)
                  exact List.mem_range.mpr (by omega)
                · rw [List.mem_singleton.mp hx]; exact List.mem_range.mpr (by omega)
              have := sub_len (pw.imp fun {a b} h => Nat.ne_of_lt h) hb
              rw [List.length_range] at this
              exact this
            rw [List.length_map]; omega
          · refine ⟨r ++ [z], j + 1, _, ⟨ac8.ex.upd0 npp, npp, nppp, by unfold ptV; rw [List.map_append (l₂ := [j + 1])]; exact upd_same⟩, ?_, ?_, Nat.le_refl _, rfl⟩
            · refine List.pairwise_append.mpr ⟨pw, List.pairwise_singleton _ _, fun x hx y hy => ?_⟩
              rw [List.mem_singleton.mp hy]
              rcases List.mem_append.mp hx with hx | hx
              · have := (List.pairwise_append.mp pw).2.2 x hx z (List.mem_singleton.mpr rfl)
                omega
              · rw [List.mem_singleton.mp hx]; omega
            · rw [List.getElem?_append_left (by rw [List.length_append]; show 0 < _ + 1; omega)]; exact p0
        | false =>
          refine ifF ?_
          exact ⟨r, z, _, ac8, pw, p0, by omega, rfl⟩
      · rintro σ H5 ⟨r, z, u7, ac, pw, p0, hz, rfl⟩
        rw [eL] at ac hz
        have ptl : ptV (r ++ [z]) = ptV r ++ [V.int (z : Nat)] := by unfold ptV; rw [List.map_append]; rfl
        have epp := ac.at_
        rw [ptl] at epp
        have el5 := ac.ex.keep _ _ nl el3
        have x5 := (x3.trans ac.ex)
        have pu5 := x5.pu _ hp
        have esq5 := ac.ex.keep _ _ nsp esq3
        have efr5 := ac.ex.keep _ _ nfp efr
        have hvr5 : ∀ v ∈ vr, Rn g.ks log.length p fr H5 v := fun v hv => (hvr v hv).up ac.ex
        have ppfr : pp ≠ fr := fun z => by subst z; rw [efr] at npp; cases npp
        have cost : Ext p ((i + 1) * 10) H H5 := x5.mono (by rw [Nat.succ_mul]; omega)
        refine ⟨_, rfl, _, rfl, pp, _, _, _, rfl, rfl, SqL.of epp, atI_last _ _, _, rfl, l, _, rfl, .inl (SqL.of el5), rfl, _, rfl, ?_⟩
        refine if_and (fun b H' => H' = H5 ∧ (b = true → z = log.length ∧ 3 ≤ (r ++ [z]).length)) (fun hc Q' q => ?_) (fun hc => ⟨rfl, fun z => (by cases z)⟩) (fun b H6 hb => ?_)
        · have hz2 : z = log.length := by have := of_decide_eq_true hc; injection this with this; rw [ll] at this; omega
          refine ⟨_, rfl, pp, _, rfl, .inl (SqL.of ac.at_), _, _, rfl, rfl, _, rfl, q _ _ ⟨rfl, fun hb => ⟨hz2, ?_⟩⟩⟩
          have := of_decide_eq_true hb
          rw [List.length_map] at this
          omega
        obtain ⟨rfl, hb⟩ := hb
        cases b with
        | false =>
          refine ifF ?_
          exact ⟨vr, _, _, _, cost, esq5, efr5, by omega, hvr5, rfl⟩
        | true =>
          obtain ⟨hz2, h3⟩ := hb rfl
          refine ifT ?_
          refine ⟨_, rfl, .inl ⟨rfl, _, SqL.of efr5⟩, _, rfl, _, rfl, Nat.le_trans (by decide : 2 ≤ 4096) hs, fun q7 n7 => ?_⟩
          have n7p := pu5.ne n7
          generalize g7 : upd _ q7 _ = H7
          obtain ⟨s7, f7⟩ := new_of n7 g7
          have efr7 := s7 _ _ efr5
          have q7fr : q7 ≠ fr := fun z => by subst z; rw [efr5] at n7; cases n7
          refine ⟨fr, _, _, rfl, rfl, efr7, by omega, ?_⟩
          refine ⟨vr ++ [.ref q7], _, _, _, (cost.same s7).upd0 nfr, by rw [upd_ne frsq.symm]; exact s7 _ _ esq5, upd_same, by rw [List.length_append]; show _ + 1 ≤ _; omega, fun v hv => ?_, rfl⟩
          rcases List.mem_append.mp hv with hv | hv
          · exact ((hvr5 v hv).up (Ext.of s7)).updF
          · rw [List.mem_singleton.mp hv]
            refine ⟨q7, pp, kk, r ++ [z], rfl, n7p, nppp, q7fr, ppfr, by rw [upd_ne q7fr]; exact f7, by rw [upd_ne ppfr]; exact s7 _ _ ac.at_, ⟨pw, p0, ⟨r, by rw [hz2]⟩, h3⟩, mkk⟩
    · rintro σ H3 ⟨vr, u4, u6, u7, x3, esq3, efr, lvr, hvr, rfl⟩
      rw [List.length_map] at x3 lvr
      have x40 : Ext p 40 H H3 := x3.mono (by omega)
      have pu3 := x40.pu _ hp
      have el3 := x40.keep _ _ nl el
      obtain ⟨ds, dd1, dd2, dd3, dd4⟩ := rn_data (K := K) ok.kw hvr
      refine ⟨fun σ' H' => ∃ (u4 u6 u7 : Option V), Ext p 41 H H' ∧ σ' = [some (.ref p), some (.ref ls), some (.ref l), some (.ref fr), u4, none, u6, u7, none], ?_, ?_⟩
      · refine ⟨_, rfl, Nat.zero_le _, fun q4 n4 => ?_⟩
        generalize g4 : upd _ q4 _ = H4
        obtain ⟨s4, f4⟩ := new_of n4 g4
        have x4 := x40.same s4
        have pu4 := x4.pu _ hp
        obtain ⟨es, ee1, ee2, ee3, ee4⟩ := rn_data (K := K) ok.kw fun v hv => (hvr v hv).up (Ext.of s4)
        have sh : SeqAt.shaped (.list es) = true := by
          unfold SeqAt.shaped
          rw [Bool.and_eq_true]
          refine ⟨by unfold PyData.canLay0; exact ee2, decide_eq_true ?_⟩
          unfold PyData.depth
          omega
        refine ⟨_, _, .lst (SqL.of (s4 _ _ efr)) ee1, .lst (SqL.of f4) .nil, sh, (by decide), _, rfl, ?_⟩
        refine if_and (fun b H' => Ext p 1 H4 H' ∧ (b = true → vr ≠ [])) (fun hc Q' q => ?_) (fun hc => ⟨(Ext.refl p H4).mono (by omega), fun z => (by cases z)⟩) (fun b H5 hb => ?_)
        · have hne : vr ≠ [] := fun z => by
            rw [ee4.mpr z] at hc
            exact absurd hc (by decide)
          exact ⟨_, rfl, p, _, _, rfl, pu4, by omega, ⟨by decide, by decide⟩, fun d5 H5 d50 d51 x5 => ⟨_, _, rfl, rfl, _, rfl, q _ _ ⟨x5, fun _ => hne⟩⟩⟩
        obtain ⟨x5, hb⟩ := hb
        have x05 := x4.trans x5
        have pu5 := x05.pu _ hp
        cases b with
        | false =>
          refine ifF ?_
          exact ⟨_, _, _, x05, rfl⟩
        | true =>
          have hne := hb rfl
          refine ifT ?_
          have efr5 := x5.keep _ _ nfp (s4 _ _ efr)
          refine ⟨_, rfl, _, rfl, p, fr, _, vr, rfl, pu5, by omega, nfp, efr5, List.length_pos_iff.mpr hne, by omega, fun v H6 hv x6 => ?_⟩
          obtain ⟨q, pl, kk, pts, rfl, nq, npl, _, _, eq, epl, hpt, mkk⟩ := ((hvr v hv).up (Ext.of s4)).up (x5.trans x6)
          have x06 := x05.trans x6
          have pu6 := x06.pu _ hp
          have p3 := hpt.h3
          refine ⟨q, _, rfl, SqT.of eq, rfl, _, _, rfl, _, _, rfl, rfl, ?_⟩
          have lp : (ptV pts).length = pts.length := List.length_map _
          have lp11 : pts.length ≤ 11 := by
            have hb : ∀ x ∈ pts, x ∈ List.range 11 := fun x hx => by
              obtain ⟨i, hi⟩ := List.mem_iff_getElem?.mp hx
              have hil := (List.getElem?_eq_some_iff.mp hi).1
              by_cases hi1 : i + 1 < pts.length
              · obtain ⟨x', y', h1, h2, h3, h4, _⟩ := hpt.seg hi1
                rw [hi] at h1
                cases h1
                exact List.mem_range.mpr (by omega)
              · have := hpt.last
                rw [show pts.length - 1 = i by omega, hi] at this
                cases this
                exact List.mem_range.mpr (by omega)
            have := sub_len (hpt.pw.imp fun {a b} h => Nat.ne_of_lt h) hb
            rw [List.length_range] at this
            exact this
          refine ⟨_, rfl, _, rfl, pl, _, rfl, .inl (SqL.of epl), _, _, rfl, ⟨by decide, by decide, by omega, by rw [lp]; omega⟩, fun D nD => ?_⟩
          have nDp := pu6.ne nD
          have eN : ((((ptV pts).length : Nat) : Int) - 1).toNat = pts.length - 1 := by rw [lp]; omega
          refine lc_range (lo := 1) (n := ((((ptV pts).length : Nat) : Int) - 1).toNat) (fun i H7 => ∃ (c z : Nat) (ps : List K12.T), BdX p c H6 D (dtL ps) H7 ∧ ps.length = i ∧ pts[i]? = some z ∧ szL ps = z ∧ c + 50 * i ≤ 100 * z ∧ ∀ u ∈ ps, u.full ∧ u.dp + 2 ≤ log.length)
            ⟨0, 0, [], by unfold dtL; exact BdX.start nD nDp, rfl, hpt.h0, szL_nil, Nat.le_refl _, fun u hu => (by cases hu)⟩ ?_ ?_
          · rintro i H7 hi ⟨c, z, ps, bd, lps, hz, szp, hc, hps⟩
            rw [eN] at hi
            obtain ⟨z', y, h1, h2, h3, h4, h5⟩ := hpt.seg (i := i) (by omega)
            rw [hz] at h1
            cases h1
            have x07 := x06.trans bd.ex
            have pu7 := x07.pu _ hp
            have epl7 := bd.ex.keep _ _ npl epl
            have ez : z ≤ log.length := by omega
            have ci : c ≤ 1000 := by omega
            refine ⟨rfl, _, rfl, _, rfl, _, rfl, _, rfl, _, rfl, _, _, rfl, rfl, pl, _, _, .int (z : Nat), rfl, rfl, SqL.of epl7, at_of (j := i) (by omega) (by rw [List.getElem?_map, hz]; rfl), _, rfl, _, rfl, _, rfl, pl, _, _, .int (y : Nat), rfl, rfl, SqL.of epl7, at_of (j := i + 1) (by omega) (by rw [List.getElem?_map, h2]; rfl), _, rfl, l, _, rfl, SqL.of (x07.keep _ _ nl el), fun q8 n8 => ?_⟩
            rw [cut_mid (by rw [ll]; omega) (by rw [ll]; omega), ← List.map_drop, ← List.map_take]
            have n8p := pu7.ne n8
            generalize g8 : upd _ q8 _ = H8
            obtain ⟨s8, f8⟩ := new_of n8 g8
            have x08 := x07.same s8
            have lch : ((log.drop z).take (y - z)).length = y - z := by rw [List.length_take, List.length_drop]; omega
            refine ⟨p, ls, q8, _, g, (log.drop z).take (y - z), rfl, x08.pu _ hp, by omega, hL.up x08, ok, n8p, f8, isLog_take (isLog_drop il z) _, by omega, by omega, by omega, fun v1 t1 H9 x9 fr1 fu1 sz1 dp1 => ?_⟩
            rw [lch] at x9 sz1 dp1
            have xx := Ext.pre s8 x9
            have fr2 : ∀ r, Is H7 r → At r H9 v1 t1.dt := fun r ir => fr1 r (ir.up s8)
            obtain ⟨acc, w1, w2, w3⟩ := bd.step (es := dtL (ps ++ [t1])) pu6 xx (bd.fr pu6 fr2) (by rw [dtL_len]; omega) (by rw [dtL_app, show dtL [t1] = [t1.dt] by rw [dtL_map]; rfl]) (e' := c + (100 * (y - z) - 50)) (Nat.le_refl _)
            refine ⟨acc, w1, w2, c + (100 * (y - z) - 50), y, ps ++ [t1], w3, by rw [List.length_append, lps]; rfl, h2, by rw [szL_app, szL_cons, szL_nil]; omega, by omega, fun u hu => ?_⟩
            rcases List.mem_append.mp hu with hu | hu
            · exact hps u hu
            · rw [List.mem_singleton.mp hu]
              exact ⟨fu1, by omega⟩
          · rintro H7 ⟨c, z, ps, bd, lps, hz, szp, hc, hps⟩
            rw [eN] at lps hz hc
            rw [hpt.last] at hz
            cases hz
            have x07 := x06.trans bd.ex
            refine ⟨Nat.le_trans (by decide : 3 ≤ 4096) hs, fun q11 n11 => ?_⟩
            generalize g11 : upd _ q11 _ = H11
            obtain ⟨s11, f11⟩ := new_of n11 g11
            have pne : ps ≠ [] := fun z => by rw [z] at lps; simp at lps; omega
            have dpl : dpL ps ≤ log.length - 2 := dpL_le fun u hu => by have := (hps u hu).2; omega
            refine go (.ref q11) (.rn kk ps) H11 ((x07.same s11).mono (by omega)) (fun r ir => ?_) (by unfold K12.T.full; exact ⟨pne, fullL_iff.mpr fun u hu => (hps u hu).1⟩) (by rw [szT_rn]; exact szp) (by unfold K12.T.dp; omega)
            have ir6 : Is H6 r := ir.upE hp x06
            obtain ⟨vs, e1, e2, _⟩ := bd.li
            exact .mk_rn ((ir.upE hp x07).ne n11) f11 (ir6.ne nD) (s11 _ _ e1) ((e2 r ir6).sm s11)
      · rintro σ5 H5 ⟨u4, u6, u7, x5, rfl⟩
        have pu5 := x5.pu _ hp
        have el5 := x5.keep _ _ nl el
        refine ⟨_, rfl, _, rfl, l, _, rfl, .inl (SqL.of el5), _, _, rfl, rfl, p, _, _, rfl, pu5, by omega, ⟨by rw [ll]; omega, by rw [ll]; omega⟩, fun d6 H6 d60 d61 x6 => ⟨_, _, rfl, rfl, ?_⟩⟩
        rw [ll] at d61
        obtain ⟨z, hz⟩ : ∃ z : Nat, (1 : Int) + d6 = (z : Nat) := ⟨(1 + d6).toNat, by omega⟩
        have hz2 : 1 ≤ z ∧ z < log.length := by omega
        show gName 5 (V.int ((1 : Int) + d6)) _ _ _
        rw [hz]
        have x06 := x5.trans x6
        have pu6 := x06.pu _ hp
        have el6 := x06.keep _ _ nl el
        refine ⟨_, rfl, _, rfl, _, rfl, _, rfl, _, rfl, l, _, rfl, SqL.of el6, fun q7 n7 => ?_⟩
        rw [cut_take (by rw [ll]; omega), ← List.map_take]
        have n7p := pu6.ne n7
        generalize g7 : upd _ q7 _ = H7
        obtain ⟨s7, f7⟩ := new_of n7 g7
        have x07 := x06.same s7
        have lt1 : (log.take z).length = z := by rw [List.length_take]; omega
        have lt2 : (log.drop z).length = log.length - z := List.length_drop
        refine ⟨p, ls, q7, _, g, log.take z, rfl, x07.pu _ hp, by omega, hL.up x07, ok, n7p, f7, isLog_take il z, by omega, by omega, by omega, fun v1 t1 H8 x8 fr1 fu1 sz1 dp1 => ?_⟩
        have x08 := x07.trans x8
        have pu8 := x08.pu _ hp
        refine ⟨_, rfl, _, rfl, _, rfl, _, rfl, _, rfl, l, _, rfl, SqL.of (x08.keep _ _ nl el), fun q9 n9 => ?_⟩
        rw [cut_drop (by rw [ll]; omega), ← List.map_drop]
        have n9p := pu8.ne n9
        generalize g9 : upd _ q9 _ = H9
        obtain ⟨s9, f9⟩ := new_of n9 g9
        have x09 := x08.same s9
        refine ⟨p, ls, q9, _, g, log.drop z, rfl, x09.pu _ hp, by omega, hL.up x09, ok, n9p, f9, isLog_drop il z, by omega, by omega, by omega, fun v2 t2 H10 x10 fr2 fu2 sz2 dp2 => ?_⟩
        have x010 := x09.trans x10
        refine ⟨Nat.le_trans (by decide : 3 ≤ 4096) hs, fun q11 n11 => ?_⟩
        generalize g11 : upd _ q11 _ = H11
        obtain ⟨s11, f11⟩ := new_of n11 g11
        refine go (.ref q11) (.pr t1 t2) H11 ((x010.same s11).mono (by omega)) (fun r ir => ?_) (by unfold K12.T.full; exact ⟨fu1, fu2⟩) (by rw [szT_pr]; omega) (by unfold K12.T.dp; omega)
        have ir7 : Is H7 r := ir.upE hp x07
        have ir9 : Is H9 r := ir.upE hp x09
        have ip7 : Is H7 p := (x07.pu _ hp).here
        refine .mk_pr ((ir.upE hp x010).ne n11) f11 ?_ ((fr2 r ir9).sm s11)
        exact (At.keep2 x10.keep ((fr1 p ip7).sm s9) ((fr1 r ir7).sm s9)).sm s11
end
end K12

set_option maxHeartbeats 8000000
/-! The tree that is bent. -/
namespace K12
open PySem PySem.Spec L2
theorem szL_set : ∀ {ts : List T} {k : Nat} {t u : T}, ts[k]? = some t → szL (ts.set k u) + szT t = szL ts + szT u
  | [], _, _, _, h => by simp at h
  | x :: ts, 0, t, u, h => by
    have : x = t := by simpa using h
    subst this
    show szL (u :: ts) + _ = _
    rw [szL_cons, szL_cons]; omega
  | x :: ts, k + 1, t, u, h => by
    have := szL_set (u := u) (show ts[k]? = some t by simpa using h)
    show szL (x :: ts.set k u) + _ = _
    rw [szL_cons, szL_cons]; omega
theorem AtL.set {p : Addr} {H : Hp} {v : V} {d : Dt} : ∀ {vs : List V} {ds : List Dt} {k : Nat}, AtL p H vs ds → At p H v d → AtL p H (vs.set k v) (ds.set k d)
  | [], [], _, h, _ => .nil
  | x :: vs, y :: ds, 0, h, g => by
    unfold AtL at h
    exact .cons g h.2
  | x :: vs, y :: ds, k + 1, h, g => by
    unfold AtL at h
    exact .cons h.1 (h.2.set g)
  | [], _ :: _, _, h, _ => by unfold AtL at h; exact h.elim
  | _ :: _, [], _, h, _ => by unfold AtL at h; exact h.elim
theorem dtL_set (ts : List T) (k : Nat) (u : T) : dtL (ts.set k u) = (dtL ts).set k u.dt := by rw [dtL_map, dtL_map, List.map_set]
theorem AtL_up2 {p q : Addr} {c : Nat} {H H' : Hp} {v : V} {d : Dt} (x : Ext p c H H') (h : At p H v d) (g : At q H v d) : At q H' v d := At.keep2 x.keep h g
def leafB : T → Bool
  | .lf _ => true
  | _ => false
/-- one part of a tree made another -/
theorem set_facts {ts : List T} {k : Nat} {t u : T} (h : ts[k]? = some t) (fu : ∀ x ∈ ts, x.full) (fu' : u.full) (sz : szT u ≤ 2 * szT t + 1) (dp : u.dp ≤ t.dp + 1) : ts.set k u ≠ [] ∧ (∀ x ∈ ts.set k u, x.full) ∧ szL (ts.set k u) ≤ 2 * szL ts + 1 ∧ dpL (ts.set k u) ≤ dpL ts + 1 := by
  have hm := List.mem_of_getElem? h
  refine ⟨fun e => ?_, fun x hx => ?_, ?_, dpL_le fun x hx => ?_⟩
  · have h2 := congrArg List.length e
    rw [List.length_set, List.length_nil] at h2
    have := (List.getElem?_eq_some_iff.mp h).1
    omega
  · rcases List.mem_or_eq_of_mem_set hx with h | h
    · exact fu x h
    · rw [h]; exact fu'
  · have := szL_set (u := u) h
    have := szL_mem hm
    omega
  · rcases List.mem_or_eq_of_mem_set hx with h | h
    · have := dpL_mem h; omega
    · have := dpL_mem hm; rw [h]; omega
section
variable {P : Program} {w : World} {K : PySem.W.Frag} {mg : Str → Option Value} {base : Heap} {a : Ad} {n : Nat}
def spBt (m : Nat) : Sp := fun vs H Q _ => ∃ (p s : Addr) (v : V) (k : Nat) (g : Sg) (t : K12.T), vs = [.ref p, .ref s, v] ∧ Pu p k H ∧ k + 10000 * m ≤ 400000000 ∧ LsAt p s H g ∧ g.Ok ∧ At p H v t.dt ∧ t.fit m ∧
  ∀ (v' : V) (t' : K12.T) H', Ext p (10 * m) H H' → (∀ q, Is H q → At q H v t.dt → At q H' v' t'.dt) → t'.full → szT t' ≤ 2 * szT t + 1 → t'.dp ≤ t.dp + 1 → Q v' H'
theorem sc_law_bent : FnScope ["_law_purse_here", "_law_setting_here", "_law_tree", "_law_parts", "_law_at", "_law_deeds", "_law_kinds", "_law_other"] ["_law_purse_here", "_law_setting_here", "_law_tree"] (defScope s_law_bent) := ⟨rfl, rfl, rfl, by decide +kernel, rfl, by decide +kernel, by decide +kernel⟩
theorem bd_law_bent : BindsOf "_law_bent" "_law_bent" s_law_bent ["_law_purse_here", "_law_setting_here", "_law_tree"] := fun _ _ _ _ _ _ us hl => match us, hl with | [_, _, _], _ => rfl
theorem d_bent {m : Nat} (T : Tp K mg a) (D_law_draw : DfDraw P w K mg base n) (D_law_kinds_of : Df P w K mg base n "_law_kinds_of" ["_law_table_here"] spKo_) (D_law_one_of : Df P w K mg base n "_law_one_of" ["_law_purse_here", "_law_some"] spOneOf)
    (D_law_tree_parts : Df P w K mg base n "_law_tree_parts" ["_law_tree"] spTp) (D_law_bent : Df P w K mg base n "_law_bent" ["_law_purse_here", "_law_setting_here", "_law_tree"] (spBt m)) :
    Df P w K mg base (n + 1) "_law_bent" ["_law_purse_here", "_law_setting_here", "_law_tree"] (spBt (m + 1)) := by
  refine df_mk T 57 rfl sc_law_bent bd_law_bent (fun vs H Q E h => ?_) (fun f cdv A outer s H vs Q E hr h => ?_)
  · obtain ⟨p, s, v, k, g, t, rfl, _⟩ := h
    rfl
  · obtain ⟨p, ls, v, k, g, t, rfl, hp, hk, hL, ok, hv, ft, go⟩ := h
    have hs := szl
    have three : 3 ≤ sizeLine := Nat.le_trans (by decide : 3 ≤ 4096) hs
    obtain ⟨tb, d, tw, nls, nt, nd, ntw, ex, et, ed, etw⟩ := id hL
    have dn := ok.dn
    have kp := ok.kp
    have kn := ok.kn
    have ip : Is H p := hp.here
    have dpos : 0 < g.ds.length := by
      cases hks : g.ks with
      | nil => rw [hks] at kp; cases kp
      | cons x r =>
        obtain ⟨dd, hd, _⟩ := ok.dall x (by rw [hks]; exact List.mem_cons_self)
        exact List.length_pos_of_mem hd
    refine ⟨_, (pss_cons (ps_par (i := 5) (j := 6) (by rfl) sc_law_bent.nd rfl rfl (by decide) rfl rfl (pa_cons (pe_callB (call_sortedD rfl) (by rfl) T.f_sorted (by decide +kernel) (pa_cons (pe_ix (ix_listK (K := K) rfl) (pv 1) pe_int (fun _ _ => rfl)) pa_nil)) (pa_cons (pe_f D_law_kinds_of hr (by rfl) (pa_cons (pe_ix (ix_listK (K := K) rfl) (pv 1) pe_int (fun _ _ => rfl)) pa_nil)) pa_nil)) (by rfl))
    (pss_cons (ps_if (PW.pt (pw_or (pt_val (pe_callB (call_isiK_ (K := K) rfl) (by rfl) T.f_isinstance (by decide +kernel) (pa_cons (pv 2) (pa_cons (pe_bltn (v := .ty "str") (u := .type "str") (by rfl) T.f_str (by decide +kernel) rfl) pa_nil)))) (pw_or1 (pt_cmpR op_eq (pe_f D_law_draw hr (by rfl) (pa_cons (pv 0) (pa_cons pe_int pa_nil))) pe_int (nomark _)))))
      (pss_cons (ps_set (i := 7) sc_law_bent.nd rfl (Or.inl rfl) (pe_f D_law_one_of hr (by rfl) (pa_cons (pv 0) (pa_cons (pv 5) pa_nil))))
      (pss_one (ps_ret (pe_f D_law_one_of hr (by rfl) (pa_cons (pv 0) (pa_cons (pe_lst (pa_cons (pv 7) (pa_cons (pe_tup (pa_cons pe_str (pa_cons (pv 7) (pa_cons (pv 2) pa_nil)))) (pa_cons (pe_tup (pa_cons pe_str (pa_cons (pe_f D_law_one_of hr (by rfl) (pa_cons (pv 0) (pa_cons (pv 6) pa_nil))) (pa_cons (pe_lst (pa_cons (pv 2) (pa_cons (pv 7) pa_nil))) pa_nil)))) (pa_cons (pe_tup (pa_cons pe_str (pa_cons (pe_f D_law_one_of hr (by rfl) (pa_cons (pv 0) (pa_cons (pv 6) pa_nil))) (pa_cons (pe_lst (pa_cons (pv 2) (pa_cons (pv 2) pa_nil))) pa_nil)))) pa_nil))))) pa_nil))))))
      pss_nil)
    (pss_cons (ps_set (i := 3) sc_law_bent.nd rfl (Or.inl rfl) (pe_f D_law_tree_parts hr (by rfl) (pa_cons (pv 2) pa_nil)))
    (pss_cons (ps_set (i := 4) sc_law_bent.nd rfl (Or.inl rfl) (pe_f D_law_draw hr (by rfl) (pa_cons (pv 0) (pa_cons (pe_callB (call_len_seqK (K := K) rfl) (by rfl) T.f_len PySem.boot_len (pa_cons (pv 3) pa_nil)) pa_nil))))
    (pss_cons (ps_asg (pe_f D_law_bent hr (by rfl) (pa_cons (pv 0) (pa_cons (pv 1) (pa_cons (pe_ix (ix_listK (K := K) rfl) (pv 3) (pv 4) (fun _ _ => rfl)) pa_nil)))) (pg_sub (pv 3) (pv 4) set_list))
    (pss_cons (ps_if (pt_cmpR op_eq (pe_ix (ix_tupK (K := K) rfl) (pv 2) pe_int (fun _ _ => rfl)) pe_str (nomark _))
      (pss_one (ps_ret (pe_ifExp (pt_cmpR op_gt (pe_f D_law_draw hr (by rfl) (pa_cons (pv 0) (pa_cons pe_int pa_nil))) pe_int (nomark _)) (pe_tup (pa_cons pe_str (pa_cons (pe_ix (ix_listK (K := K) rfl) (pv 3) pe_int (fun _ _ => rfl)) (pa_cons (pe_ix (ix_listK (K := K) rfl) (pv 3) pe_int (fun _ _ => rfl)) pa_nil)))) (pe_tup (pa_cons pe_str (pa_cons (pe_f D_law_one_of hr (by rfl) (pa_cons (pv 0) (pa_cons (pv 6) pa_nil))) (pa_cons (pv 3) pa_nil)))))))
      pss_nil)
    (pss_one (ps_ret (pe_tup (pa_cons pe_str (pa_cons (pe_ifExp (pt_cmpR op_gt (pe_f D_law_draw hr (by rfl) (pa_cons (pv 0) (pa_cons pe_int pa_nil))) pe_int (nomark _)) (pe_ix (ix_tupK (K := K) rfl) (pv 2) pe_int (fun _ _ => rfl)) (pe_f D_law_one_of hr (by rfl) (pa_cons (pv 0) (pa_cons (pv 6) pa_nil)))) (pa_cons (pv 3) pa_nil)))))))))))), ?_⟩
    refine ⟨_, rfl, ls, _, 1, .ref d, rfl, rfl, SqL.of ex, at1 _ _ _, d, _, g.ds.map (·.1), rfl, .inl ed, dents_keys _, by rw [List.length_map]; omega, fun ys q1 yp ys' n1 => ?_⟩
    obtain rfl : ys = g.ds.map (·.1) := sorted_is yp ys' (List.Perm.refl _) ok.dst
    have n1p := hp.ne n1
    generalize g1 : upd _ q1 _ = H1
    obtain ⟨s1, f1⟩ := new_of n1 g1
    refine ⟨_, rfl, ls, _, 0, .ref tb, rfl, rfl, SqL.of (s1 _ _ ex), at0 _ _, tb, g, rfl, ok, s1 _ _ et, fun q2 H2 s2 n2 f2 => ?_⟩
    have s02 := s1.trans s2
    have x02 : Ext p 0 H H2 := .of s02
    have n2p : q2 ≠ p := (ip.up s1).ne n2
    have e12 := s2 _ _ f1
    refine ⟨_, _, rfl, ?_⟩
    have pu2 := x02.pu _ hp
    -- a leaf, or at once
    have isv : ∃ tv, TyOf K H2 v (.type tv) ∧ kitB tv "str" = some (leafB t) := by
      rcases hv.node ft.fu with ⟨z, rfl, rfl⟩ | ⟨q, xs, rfl, eq, ne⟩
      · exact ⟨"str", .str _, rfl⟩
      · refine ⟨"tuple", .tup (s02 _ _ eq), ?_⟩
        cases t with
        | lf z => exact absurd rfl ne
        | pr a b => rfl
        | rn k ps => rfl
    obtain ⟨tv, ty, kb⟩ := isv
    refine ⟨_, rfl, _, _, _, _, _, rfl, .ty _, .base ty, kit_ty kb, _, rfl, ?_⟩
    refine if_or (fun b H' => Ext p 1 H2 H' ∧ (b = false → leafB t = false)) (fun hc => ⟨(Ext.refl p H2).mono (by omega), fun z => (by cases z)⟩) (fun hc Q' q => ?_) (fun b H3 hb => ?_)
    · exact ⟨_, rfl, p, _, _, rfl, pu2, by omega, ⟨by decide, by decide⟩, fun d3 H3 d30 d31 x3 => ⟨rfl, _, rfl, q _ _ ⟨x3, fun _ => hc⟩⟩⟩
    obtain ⟨x3, hb⟩ := hb
    have x03 : Ext p 1 H H3 := x02.trans x3
    have pu3 := x03.pu _ hp
    have e13 := x3.keep _ _ n1p e12
    have e23 := x3.keep _ _ n2p f2
    have up3 : ∀ q, At q H v t.dt → At q H3 v t.dt := fun q hq => AtL_up2 x03 hv hq
    cases b with
    | true =>
      refine ifT ?_
      refine ⟨_, rfl, _, rfl, p, q1, _, (g.ds.map (·.1)).map V.str, rfl, pu3, by omega, n1p, e13, by rw [List.length_map, List.length_map]; exact dpos, by rw [List.length_map, List.length_map]; omega, fun vo H4 hvo x4 => ?_⟩
      obtain ⟨y, hy, rfl⟩ := List.mem_map.mp hvo
      have x04 := x03.trans x4
      have pu4 := x04.pu _ hp
      have e24 := x4.keep _ _ n2p e23
      have up4 : ∀ q, At q H v t.dt → At q H4 v t.dt := fun q hq => AtL_up2 x04 hv hq
      refine ⟨_, rfl, _, rfl, _, rfl, _, rfl, three, fun q5 n5 => ?_⟩
      generalize g5 : upd _ q5 _ = H5
      obtain ⟨s5, f5⟩ := new_of n5 g5
      have x05 := x04.same s5
      have pu5 := x05.pu _ hp
      refine ⟨_, rfl, _, rfl, p, q2, _, g.ks.map V.str, rfl, pu5, by omega, n2p, s5 _ _ e24, by rw [List.length_map]; exact kp, by rw [List.length_map]; omega, fun vk H6 hvk x6 => ?_⟩
      obtain ⟨k6, _, rfl⟩ := List.mem_map.mp hvk
      have x06 := x05.trans x6
      have pu6 := x06.pu _ hp
      refine ⟨_, rfl, _, rfl, Nat.le_trans (by decide : 2 ≤ 4096) hs, fun q7 n7 => ?_⟩
      generalize g7 : upd _ q7 _ = H7
      obtain ⟨s7, f7⟩ := new_of n7 g7
      refine ⟨three, fun q8 n8 => ?_⟩
      generalize g8 : upd _ q8 _ = H8
      obtain ⟨s8, f8⟩ := new_of n8 g8
      have s68 := s7.trans s8
      have x08 := x06.same s68
      have pu8 := x08.pu _ hp
      have e28 := s68 _ _ (x6.keep _ _ n2p (s5 _ _ e24))
      refine ⟨_, rfl, _, rfl, p, q2, _, g.ks.map V.str, rfl, pu8, by omega, n2p, e28, by rw [List.length_map]; exact kp, by rw [List.length_map]; omega, fun vk2 H9 hvk2 x9 => ?_⟩
      obtain ⟨k9, _, rfl⟩ := List.mem_map.mp hvk2
      have x09 := x08.trans x9
      have pu9 := x09.pu _ hp
      refine ⟨_, rfl, _, rfl, Nat.le_trans (by decide : 2 ≤ 4096) hs, fun q10 n10 => ?_⟩
      generalize g10 : upd _ q10 _ = H10
      obtain ⟨s10, f10⟩ := new_of n10 g10
      refine ⟨three, fun q11 n11 => ?_⟩
      generalize g11 : upd _ q11 _ = H11
      obtain ⟨s11, f11⟩ := new_of n11 g11
      have s911 := s10.trans s11
      have x011 := x09.same s911
      have pu11 := x011.pu _ hp
      refine ⟨Nat.le_trans (by decide : 4 ≤ 4096) hs, fun q12 n12 => ?_⟩
      have n12p := pu11.ne n12
      generalize g12 : upd _ q12 _ = H12
      obtain ⟨s12, f12⟩ := new_of n12 g12
      have x012 := x011.same s12
      refine ⟨p, q12, _, _, rfl, x012.pu _ hp, by omega, n12p, f12, (by show 0 < 4; decide), (by show 4 ≤ 1000; decide), fun v' H13 hv' x13 => ?_⟩
      have x013 := x012.trans x13
      have xf : Ext p (10 * (m + 1)) H H13 := x013.mono (by omega)
      have sz1 := full_sz ft.fu
      have sl := szT_lf y
      have up13 : ∀ q, At q H v t.dt → At q H13 v t.dt := fun q hq => AtL_up2 x013 hv hq
      have keep12 : ∀ q o, q ≠ p → H12 q = some o → H13 q = some o := fun q o nq e => x13.keep q o nq e
      simp only [List.mem_cons, List.not_mem_nil, or_false] at hv'
      rcases hv' with rfl | rfl | rfl | rfl
      · exact go _ (.lf y) H13 xf (fun q _ _ => .mk_lf) (by unfold K12.T.full; trivial) (by omega) (by unfold K12.T.dp; omega)
      · have n5p := pu4.ne n5
        have e5 := keep12 _ _ n5p (s12 _ _ (s911 _ _ (x9.keep _ _ n5p (s68 _ _ (x6.keep _ _ n5p f5)))))
        refine go _ (.pr (.lf y) t) H13 xf (fun q iq hq => .mk_pr ((iq.upE hp x04).ne n5) e5 .mk_lf (up13 q hq)) (by unfold K12.T.full; exact ⟨by unfold K12.T.full; trivial, ft.fu⟩) (by rw [szT_pr]; omega) (by show max (K12.T.lf y).dp t.dp + 1 ≤ _; rw [show (K12.T.lf y).dp = 0 by unfold K12.T.dp; rfl]; omega)
      · have n7p := pu6.ne n7
        have n8p := ((x06.same s7).pu _ hp).ne n8
        have e8 := keep12 _ _ n8p (s12 _ _ (s911 _ _ (x9.keep _ _ n8p f8)))
        have e7 := keep12 _ _ n7p (s12 _ _ (s911 _ _ (x9.keep _ _ n7p (s8 _ _ f7))))
        refine go _ (.rn k6 [t, .lf y]) H13 xf (fun q iq hq => .mk_rn ((iq.upE hp (x06.same s7)).ne n8) e8 ((iq.upE hp x06).ne n7) e7 (by rw [dtL_map]; exact .cons (up13 q hq) (.cons .mk_lf .nil))) ?_ (by rw [szT_rn, szL_cons, szL_cons, szL_nil]; omega) ?_
        · unfold K12.T.full fullL fullL fullL
          exact ⟨List.cons_ne_nil _ _, ft.fu, by unfold K12.T.full; trivial, trivial⟩
        · show dpL [t, .lf y] + 1 ≤ _
          have : dpL [t, .lf y] ≤ t.dp := dpL_le fun x hx => by
            rcases List.mem_cons.mp hx with e | hx
            · rw [e]; exact Nat.le_refl _
            · rw [List.mem_singleton.mp hx]; unfold K12.T.dp; exact Nat.zero_le _
          omega
      · have n10p := pu9.ne n10
        have n11p := ((x09.same s10).pu _ hp).ne n11
        have e11 := keep12 _ _ n11p (s12 _ _ f11)
        have e10 := keep12 _ _ n10p (s12 _ _ (s11 _ _ f10))
        refine go _ (.rn k9 [t, t]) H13 xf (fun q iq hq => .mk_rn ((iq.upE hp (x09.same s10)).ne n11) e11 ((iq.upE hp x09).ne n10) e10 (by rw [dtL_map]; exact .cons (up13 q hq) (.cons (up13 q hq) .nil))) ?_ (by rw [szT_rn, szL_cons, szL_cons, szL_nil]; omega) ?_
        · unfold K12.T.full fullL fullL fullL
          exact ⟨List.cons_ne_nil _ _, ft.fu, ft.fu, trivial⟩
        · show dpL [t, t] + 1 ≤ _
          have : dpL [t, t] ≤ t.dp := dpL_le fun x hx => by
            rcases List.mem_cons.mp hx with e | hx
            · rw [e]; exact Nat.le_refl _
            · rw [List.mem_singleton.mp hx]; exact Nat.le_refl _
          omega
    | false =>
      refine ifF ?_
      have nlf := hb rfl
      rcases hv.node ft.fu with ⟨z, rfl, rfl⟩ | ⟨qt, xst, rfl, eqt, ne⟩
      · cases nlf
      have fp := parts_fit ft
      have fl := parts_len ft
      refine ⟨_, rfl, _, t, rfl, ⟨p, up3 p hv⟩, fun l ys H4 s4 nl4 el4 hp4 => ?_⟩
      have x04 := x03.same s4
      have pu4 := x04.pu _ hp
      have nlp := pu3.ne nl4
      have hpp := hp4 p (up3 p hv)
      have hpl : AtL l H4 ys (dtL t.parts) := hp4 l (At.free nl4 (up3 p hv))
      have pl := hpp.plen
      have ppos : 0 < t.parts.length := List.length_pos_iff.mpr ne
      refine ⟨_, rfl, _, rfl, l, _, rfl, .inl (SqL.of el4), p, _, _, rfl, pu4, by omega, ⟨by omega, by omega⟩, fun d5 H5 d50 d51 x5 => ?_⟩
      obtain ⟨j, rfl⟩ : ∃ j : Nat, d5 = (j : Nat) := ⟨d5.toNat, by omega⟩
      have hj : j < t.parts.length := by omega
      have x05 := x04.trans x5
      have pu5 := x05.pu _ hp
      have el5 := x5.keep _ _ nlp el4
      obtain ⟨u, hu⟩ : ∃ u, t.parts[j]? = some u := ⟨_, List.getElem?_eq_getElem hj⟩
      have hyj : ∃ vy, ys[j]? = some vy := ⟨_, List.getElem?_eq_getElem (by omega)⟩
      obtain ⟨vy, hvy⟩ := hyj
      obtain ⟨u', hu', hat⟩ := hpp.part hvy
      rw [hu] at hu'
      cases hu'
      have fu := fp u (List.mem_of_getElem? hu)
      have hat5 : At p H5 vy u.dt := hat.up x5
      have atq : ∀ q, AtL q H4 ys (dtL t.parts) → At q H5 vy u.dt := fun q hq => by
        obtain ⟨u2, hu2, hat2⟩ := hq.part hvy
        rw [hu] at hu2
        cases hu2
        exact AtL_up2 x5 hat hat2
      refine ⟨_, rfl, _, rfl, _, rfl, _, rfl, l, _, _, vy, rfl, rfl, SqL.of el5, at_of (j := j) rfl hvy, p, ls, vy, _, g, u, rfl, pu5, by omega, hL.up x05, ok, hat5, fu, fun v6 u6 H6 x6 fr6 fu6 sz6 dp6 => ?_⟩
      have x06 := x05.trans x6
      have pu6 := x06.pu _ hp
      have el6 := x6.keep _ _ nlp el5
      have nl0 : H l = none := x03.no hp nl4
      refine ⟨_, rfl, _, rfl, l, _, _, j, rfl, rfl, el6, ?_, ?_⟩
      · unfold ixN
        rw [if_pos (by omega), if_pos (by omega)]
        rfl
      obtain ⟨sf1, sf2, sf3, sf4⟩ := set_facts (k := j) (u := u6) hu (fun x hx => (fp x hx).fu) fu6 sz6 dp6
      have x07 : Ext p (10 * m + 2) H (upd H6 l (.lst (ys.set j v6))) := (x06.upd0 nl0).mono (by omega)
      have l6 : AtL l H6 (ys.set j v6) (dtL (t.parts.set j u6)) := by
        rw [dtL_set]
        exact (AtL.keep2 (x5.trans x6).keep hpp hpl).set (fr6 l ⟨_, el5⟩ (atq l hpl))
      have q7 : ∀ q, Is H q → At q H (.ref qt) t.dt → AtL q (upd H6 l (.lst (ys.set j v6))) (ys.set j v6) (dtL (t.parts.set j u6)) := fun q iq hq => by
        have hq4 := hp4 q (up3 q hq)
        refine AtL.upd ?_ l6
        rw [dtL_set]
        exact (AtL.keep2 (x5.trans x6).keep hpp hq4).set (fr6 q (iq.upE hp x05) (atq q hq4))
      have el7 : upd H6 l (.lst (ys.set j v6)) l = some (.lst (ys.set j v6)) := upd_same
      have eqt7 : upd H6 l (.lst (ys.set j v6)) qt = some (.tup xst) := by
        obtain ⟨qt', xs', ee, nqp, _⟩ : ∃ q xs, V.ref qt = V.ref q ∧ q ≠ p ∧ True := by
          cases t with
          | lf z => exact absurd rfl ne
          | pr a b => obtain ⟨q, va, vb, e, nq, _⟩ := hv.pr; exact ⟨q, xst, e, nq, trivial⟩
          | rn k ps => obtain ⟨q, l, xs, e, nq, _⟩ := hv.rn; exact ⟨q, xst, e, nq, trivial⟩
        injection ee with ee
        subst ee
        rw [upd_ne (fun z => by subst z; rw [nl0] at eqt; cases eqt)]
        exact x06.keep _ _ nqp eqt
      have e27 : upd H6 l (.lst (ys.set j v6)) q2 = some (.lst (g.ks.map V.str)) := by
        have := x6.keep _ _ n2p (x5.keep _ _ n2p (s4 _ _ e23))
        rw [upd_ne (fun z => by subst z; rw [e23] at nl4; cases nl4)]; exact this
      have il7 : ∀ q, Is H q → q ≠ l := fun q iq => (iq.ne nl0).symm
      have lset : (ys.set j v6).length = t.parts.length := by rw [List.length_set, pl]
      generalize upd H6 l (.lst (ys.set j v6)) = H7 at x07 q7 el7 eqt7 e27
      have pu7 := x07.pu _ hp
      -- the new run
      have run : ∀ (kk : Str) (H8 : Hp) (c : Nat), Ext p c H7 H8 → c ≤ 3 → ∀ q9, H8 q9 = none → ∀ H9, Same H8 H9 → H9 q9 = some (.tup [.str "run", .str kk, .ref l]) →
          (t.dp = dpL t.parts + 1) → szT t = szL t.parts → { nx := fun x H' => Q V.non H', rt := Q : Ends }.rt (.ref q9) H9 := fun kk H8 c x8 hc q9 n9 H9 s9 e9 hdp hsz => by
        have x08 := x07.trans x8
        refine go (.ref q9) (.rn kk (t.parts.set j u6)) H9 ((x08.same s9).mono (by omega)) (fun q iq hq => ?_) (by unfold K12.T.full; exact ⟨sf1, fullL_iff.mpr sf2⟩) (by rw [szT_rn]; omega) (by show dpL _ + 1 ≤ _; omega)
        have ip7 : Is H7 p := ip.upE hp x07
        exact .mk_rn ((iq.upE hp x08).ne n9) e9 (il7 q iq).symm (s9 _ _ (x8.keep _ _ nlp el7)) ((AtL.keep2 x8.keep (q7 p ip hv) (q7 q iq hq)).sm s9)
      cases t with
      | lf z => exact absurd rfl ne
      | pr ta tb' =>
        obtain ⟨qt', va, vb, ee, nqt, eqt', ha, hb'⟩ := hv.pr
        injection ee with ee
        subst ee
        rw [eqt] at eqt'
        injection eqt' with eqt'
        injection eqt' with eqt'
        subst eqt'
        refine ⟨_, rfl, qt, _, 0, .str "pair", rfl, rfl, SqT.of eqt7, at0 _ _, rfl, _, rfl, ?_⟩
        refine ifT ?_
        refine ⟨_, rfl, p, _, _, rfl, pu7, by omega, ⟨by decide, by decide⟩, fun d8 H8 d80 d81 x8 => ⟨_, _, rfl, rfl, _, rfl, ?_⟩⟩
        cases hd : decide ((0 : Int) < d8) with
        | true =>
          refine ifT ?_
          have el8 := x8.keep _ _ nlp el7
          have hlen : (ys.set j v6).length = 2 := lset
          match hy : ys.set j v6, hlen with
          | [w1, w2], _ =>
            rw [hy] at el8 q7
            refine ⟨_, rfl, l, _, 0, w1, rfl, rfl, SqL.of el8, at0 _ _, _, rfl, l, _, 1, w2, rfl, rfl, SqL.of el8, at1 _ _ _, three, fun q9 n9 => ?_⟩
            generalize g9 : upd _ q9 _ = H9
            obtain ⟨s9, f9⟩ := new_of n9 g9
            have x08 := x07.trans x8
            obtain ⟨p1, p2, hps⟩ : ∃ p1 p2, (K12.T.pr ta tb').parts.set j u6 = [p1, p2] := by
              show ∃ p1 p2, [ta, tb'].set j u6 = [p1, p2]
              match j, hj with
              | 0, _ => exact ⟨_, _, rfl⟩
              | 1, _ => exact ⟨_, _, rfl⟩
              | j + 2, hj => exact absurd (show j + 2 < 2 from hj) (by omega)
            rw [hps] at q7 sf2 sf3 sf4
            have dsz : szL (K12.T.pr ta tb').parts = szT (K12.T.pr ta tb') := (szT_parts (t := .pr ta tb') ne).symm
            have ddp : (K12.T.pr ta tb').dp = dpL (K12.T.pr ta tb').parts + 1 := by
              show (K12.T.pr ta tb').dp = dpL [ta, tb'] + 1
              unfold K12.T.dp dpL dpL dpL
              omega
            rw [szL_cons, szL_cons, szL_nil] at sf3
            have dd : dpL [p1, p2] = max p1.dp p2.dp := by unfold dpL dpL dpL; omega
            rw [dd] at sf4
            refine go (.ref q9) (.pr p1 p2) H9 ((x08.same s9).mono (by omega)) (fun q iq hq => ?_) (by unfold K12.T.full; exact ⟨sf2 p1 (by simp), sf2 p2 (by simp)⟩) (by rw [szT_pr]; omega) (by show max p1.dp p2.dp + 1 ≤ _; omega)
            have aa := (AtL.keep2 x8.keep (q7 p ip hv) (q7 q iq hq)).sm s9
            rw [dtL_map] at aa
            have aa' : AtL q H9 [w1, w2] [p1.dt, p2.dt] := aa
            unfold AtL at aa'
            have a2 := aa'.2
            unfold AtL at a2
            exact .mk_pr ((iq.upE hp x08).ne n9) f9 aa'.1 a2.1
        | false =>
          refine ifF ?_
          have x08 := x07.trans x8
          have e28 := x8.keep _ _ n2p e27
          refine ⟨_, rfl, _, rfl, p, q2, _, g.ks.map V.str, rfl, x08.pu _ hp, by omega, n2p, e28, by rw [List.length_map]; exact kp, by rw [List.length_map]; omega, fun vk H9 hvk x9 => ?_⟩
          obtain ⟨k9, _, rfl⟩ := List.mem_map.mp hvk
          refine ⟨_, rfl, three, fun q10 n10 => ?_⟩
          generalize g10 : upd _ q10 _ = H10
          obtain ⟨s10, f10⟩ := new_of n10 g10
          refine run k9 H9 2 (x8.trans x9) (by decide) q10 n10 H10 s10 f10 ?_ (szT_parts (t := .pr ta tb') ne)
          show (K12.T.pr ta tb').dp = dpL [ta, tb'] + 1
          unfold K12.T.dp dpL dpL dpL
          omega
      | rn k0 ps0 =>
        obtain ⟨qt', l', xs', ee, nqt, eqt', _⟩ := hv.rn
        injection ee with ee
        subst ee
        rw [eqt] at eqt'
        injection eqt' with eqt'
        injection eqt' with eqt'
        subst eqt'
        refine ⟨_, rfl, qt, _, 0, .str "run", rfl, rfl, SqT.of eqt7, at0 _ _, rfl, _, rfl, ?_⟩
        refine ifF ?_
        have hdp : (K12.T.rn k0 ps0).dp = dpL (K12.T.rn k0 ps0).parts + 1 := by
          show (K12.T.rn k0 ps0).dp = dpL ps0 + 1
          unfold K12.T.dp
          rfl
        refine ⟨_, rfl, p, _, _, rfl, pu7, by omega, ⟨by decide, by decide⟩, fun d8 H8 d80 d81 x8 => ⟨_, _, rfl, rfl, _, rfl, ?_⟩⟩
        cases hd : decide ((0 : Int) < d8) with
        | true =>
          refine ifT ?_
          refine ⟨_, rfl, qt, _, 1, .str k0, rfl, rfl, SqT.of (x8.keep _ _ nqt eqt7), at1 _ _ _, _, rfl, three, fun q10 n10 => ?_⟩
          generalize g10 : upd _ q10 _ = H10
          obtain ⟨s10, f10⟩ := new_of n10 g10
          exact run k0 H8 1 x8 (by decide) q10 n10 H10 s10 f10 hdp (szT_rn k0 ps0)
        | false =>
          refine ifF ?_
          have x08 := x07.trans x8
          have e28 := x8.keep _ _ n2p e27
          refine ⟨_, rfl, _, rfl, p, q2, _, g.ks.map V.str, rfl, x08.pu _ hp, by omega, n2p, e28, by rw [List.length_map]; exact kp, by rw [List.length_map]; omega, fun vk H9 hvk x9 => ?_⟩
          obtain ⟨k9, _, rfl⟩ := List.mem_map.mp hvk
          refine ⟨_, rfl, three, fun q10 n10 => ?_⟩
          generalize g10 : upd _ q10 _ = H10
          obtain ⟨s10, f10⟩ := new_of n10 g10
          exact run k9 H9 2 (x8.trans x9) (by decide) q10 n10 H10 s10 f10 hdp (szT_rn k0 ps0)
end
end K12

set_option maxHeartbeats 8000000
/-! What the law makes. -/
namespace K12
open PySem PySem.Spec L2
section
variable {P : Program} {w : World} {K : PySem.W.Frag} {mg : Str → Option Value} {base : Heap} {a : Ad} {n : Nat}
/-- a list of the pairs of a dict: new tuples -/
theorem ents_T {H H1 : Hp} {d : Addr} {kvs : List (List Key × V)} {l : List (V × V)} (h : Ents H d l) (e : H d = some (.dT kvs)) : Paired (fun (kv : List Key × V) (b : V × V) => ∃ q, b.1 = .ref q ∧ H q = some (.tup (kv.1.map kV)) ∧ b.2 = kv.2) kvs l := by
  rcases h with ⟨k, h1, _⟩ | ⟨k, h1, h2⟩
  · rw [e] at h1; cases h1
  · rw [e] at h1
    injection h1 with h1
    injection h1 with h1
    rw [h1]; exact h2
theorem paired_rev {α β : Type} {R : α → β → Prop} : ∀ {xs : List α} {ys : List β}, Paired R xs ys → Paired R xs.reverse ys.reverse
  | _, _, .nil => .nil
  | _, _, .cons r t => by
    rw [List.reverse_cons, List.reverse_cons]
    exact paired_snoc (paired_rev t) r
theorem join_T {K : PySem.W.Frag} {H H' : Hp} (s : Same H H') : ∀ {ts : List Addr} {l : List (V × V)} {kvs : List (List Key × V)}, Paired (fun (t : Addr) (e : V × V) => H' t = some (.tup [e.1, e.2])) ts l →
    Paired (fun (kv : List Key × V) (b : V × V) => ∃ q, b.1 = .ref q ∧ H q = some (.tup (kv.1.map kV)) ∧ b.2 = kv.2) kvs l → Paired (PairT K H') ts kvs
  | _, _, _, .nil, .nil => .nil
  | _, _, _, .cons r t, .cons r' t' => by
    refine .cons ?_ (join_T s t t')
    obtain ⟨q, e1, e2, e3⟩ := r'
    refine ⟨q, s _ _ e2, SqT.of ?_⟩
    rw [r, e1, e3]
theorem ents_K {H : Hp} {d : Addr} {kvs : List (Key × V)} {l : List (V × V)} (h : Ents H d l) (e : H d = some (.dK kvs)) : l = kvs.map fun q => (kV q.1, q.2) := by
  rcases h with ⟨k, h1, h2⟩ | ⟨k, h1, _⟩
  · rw [e] at h1
    injection h1 with h1
    injection h1 with h1
    rw [h1]; exact h2
  · rw [e] at h1; cases h1
theorem join_K {K : PySem.W.Frag} {H' : Hp} : ∀ {ts : List Addr} {kvs : List (Key × V)}, Paired (fun (t : Addr) (e : V × V) => H' t = some (.tup [e.1, e.2])) ts (kvs.map fun q => (kV q.1, q.2)) → Paired (fun p (kv : Key × V) => SqT K H' p [kV kv.1, kv.2]) ts kvs
  | [], [], _ => .nil
  | t :: ts, kv :: kvs, h => by
    rw [List.map_cons] at h
    cases h with
    | cons r t => exact .cons (SqT.of r) (join_K t)
  | [], kv :: kvs, h => by rw [List.map_cons] at h; cases h
  | t :: ts, [], h => by cases h
theorem pe_itemsK {X : Cx} {K : PySem.W.Frag} (h : X.K = K) {o : Expr} {to : TE} {apos cpos : Pos} (ho : PE X o to) (hbase : attributeBase o "items" X.env (eval o X.env) = eval o X.env := by rfl) (hline : (apos.endLine == cpos.line) = true := by rfl) :
    PE X (.Call (.Attribute o "items" apos) [] [] cpos) (tBM0 K "dict" rItems to) := h ▸ pe_bm0 PySem.F.plainAttrs_dict PySem.F.slot_dict_items PySem.F.type_dict_items mt_items ho hbase hline
def rDictK (K : PySem.W.Frag) : List V → Hp → VK → Prop := fun xs H Q => ∃ (a : Addr) (ps : List Addr) (kvs : List (Key × V)), xs = [.ref a] ∧ SqL K H a (ps.map V.ref) ∧ Paired (fun p kv => SqT K H p [kV kv.1, kv.2]) ps kvs ∧ ∀ p, H p = none → Q (.ref p) (upd H p (.dK (mergeK [] kvs)))
theorem call_dictPK {X : Cx} {K : PySem.W.Frag} (h : X.K = K) (hc : X.calm = true) : CallR X (.type "dict") (rDictK K) := h ▸ call_dictP hc
def spMk (a : Ad) : Sp := fun vs H Q _ => ∃ t p, ∃ g : Sg, vs = [.ref t] ∧ g.Ok ∧ H t = some (.dT (grid g.ks g.mul)) ∧ Is H p ∧ ∀ q H', Same H H' → H q = none → KsAt a p q H' g → Q (.ref q) H'
theorem sc_law_made_kinds : FnScope ["_law_table_here"] ["_law_table_here"] (defScope s_law_made_kinds) := ⟨rfl, rfl, rfl, by decide +kernel, rfl, by decide +kernel, by decide +kernel⟩
theorem bd_law_made_kinds : BindsOf "_law_made_kinds" "_law_made_kinds" s_law_made_kinds ["_law_table_here"] := fun _ _ _ _ _ _ us hl => match us, hl with | [_], _ => rfl
theorem d_made_kinds (T : Tp K mg a) (D_Ki : ∃ fd, FnOk P w K mg base CX0 n a.fKi fd ["self", "table"] (spKi a) ∧ Binds K fd ["self", "table"] []) : Df P w K mg base (n + 1 + 1) "_law_made_kinds" ["_law_table_here"] (spMk a) := by
  obtain ⟨fd, F_Ki, B_Ki⟩ := D_Ki
  refine df_mk T 46 rfl sc_law_made_kinds bd_law_made_kinds (fun vs H Q E h => ?_) (fun f cdv A outer s H vs Q E hr h => ?_)
  · obtain ⟨t, p, g, rfl, _⟩ := h
    rfl
  · obtain ⟨t, p, g, rfl, ok, et, ip, go⟩ := h
    have hu2 := hu2_ hr
    refine ⟨_, (pss_one (ps_ret (pe_make T.mkK F_Ki hr (by rfl) T.mgK B_Ki .nil pass0 (pa_cons (pe_callTy (call_dictPTK (K := K) rfl rfl hu2) (by rfl) T.f_dict (by decide +kernel) (pa_cons (pe_revLK (K := K) rfl (pe_callTy (call_listItems rfl) (by rfl) T.f_list (by decide +kernel) (pa_cons (pe_bm0 PySem.F.plainAttrs_dict PySem.F.slot_dict_items PySem.F.type_dict_items mt_items (pv 0)) pa_nil))) pa_nil)) pa_nil)))), ?_⟩
    refine ⟨_, rfl, .inr (.inr (.inl ⟨rfl, .inr ⟨_, et⟩⟩)), t, rfl, rfl, .inr ⟨_, et⟩, fun q1 n1 => ?_⟩
    generalize g1 : upd _ q1 _ = H1
    obtain ⟨s1, f1⟩ := new_of n1 g1
    have e1 := s1 _ _ et
    refine ⟨q1, t, rfl, f1, .inr ⟨_, e1⟩, fun l H2 q2 ts he s2 n2 f2 ht hp => ?_⟩
    have jt := join_T (K := K) s2 hp (ents_T (H1 := H1) he e1)
    refine ⟨q2, _, rfl, SqL.of f2, fun q3 n3 => ?_⟩
    rw [← List.map_reverse]
    generalize g3 : upd _ q3 _ = H3
    obtain ⟨s3, f3⟩ := new_of n3 g3
    have jr : Paired (PairT K H3) ts.reverse (grid g.ks g.mul).reverse := paired_imp (fun p kv ⟨q, h1, h2⟩ => ⟨q, s3 _ _ h1, SqT.ext h2 s3⟩) (paired_rev jt)
    have gr : ((grid g.ks g.mul).reverse.map (·.1)).Nodup := by rw [List.map_reverse]; exact ((List.reverse_perm _).nodup_iff).mpr (grid_nodup ok.kst)
    refine ⟨q3, ts.reverse, _, rfl, SqL.of f3, jr, fun q4 n4 => ?_⟩
    rw [mergeT_new gr]
    generalize g4 : upd _ q4 _ = H4
    obtain ⟨s4, f4⟩ := new_of n4 g4
    have s04 := s1.trans (s2.trans (s3.trans s4))
    obtain ⟨o, ho⟩ := ip.up s04
    refine fun y dy ny ndy nyd => ⟨y, dy, q4, _, p, g, rfl, ok, upd_same, ?_, List.reverse_perm _, Is.ne ⟨o, ho⟩ ny, ⟨o, ?_⟩, fun H' kp ks => ⟨rfl, ?_⟩⟩
    · rw [upd_ne (fun z => by subst z; rw [f4] at ny; cases ny), upd_ne (fun z => by subst z; rw [f4] at ndy; cases ndy)]
      exact f4
    · rw [upd_ne (fun z => by subst z; rw [ho] at ny; cases ny), upd_ne (fun z => by subst z; rw [ho] at ndy; cases ndy)]
      exact ho
    · refine go y H' (fun b o e => ?_) (s04.free ny) ks
      have := s04 _ _ e
      have nb : b ≠ y := fun z => by subst z; rw [this] at ny; cases ny
      exact kp b o nb (by rw [upd_ne nb, upd_ne (fun z => by subst z; rw [this] at ndy; cases ndy)]; exact this)
def spMd (a : Ad) : Sp := fun vs H Q _ => ∃ s p p', ∃ g : Sg, vs = [.ref s] ∧ g.Ok ∧ LsAt p' s H g ∧ Is H p ∧ ∀ q H', Same H H' → H q = none → SsAt a p q H' g → Q (.ref q) H'
theorem sc_law_made : FnScope ["_law_setting_here", "_law_table_here", "_law_deeds", "_law_some"] ["_law_setting_here"] (defScope s_law_made) := ⟨rfl, rfl, rfl, by decide +kernel, rfl, by decide +kernel, by decide +kernel⟩
theorem bd_law_made : BindsOf "_law_made" "_law_made" s_law_made ["_law_setting_here"] := fun _ _ _ _ _ _ us hl => match us, hl with | [_], _ => rfl
theorem d_made (T : Tp K mg a) (D_Ki : ∃ fd, FnOk P w K mg base CX0 n a.fKi fd ["self", "table"] (spKi a) ∧ Binds K fd ["self", "table"] []) (D_Si : ∃ fd, FnOk P w K mg base CX0 n a.fSi fd ["self", "kinds", "deeds", "twice"] (spSi a) ∧ Binds K fd ["self", "kinds", "deeds", "twice"] []) :
    Df P w K mg base (n + 1 + 1) "_law_made" ["_law_setting_here"] (spMd a) := by
  obtain ⟨fd, F_Ki, B_Ki⟩ := D_Ki
  obtain ⟨fd', F_Si, B_Si⟩ := D_Si
  refine df_mk T 47 rfl sc_law_made bd_law_made (fun vs H Q E h => ?_) (fun f cdv A outer s H vs Q E hr h => ?_)
  · obtain ⟨s, p, p', g, rfl, _⟩ := h
    rfl
  · obtain ⟨ls, p, p', g, rfl, ok, ⟨t, d, tw, _, _, _, _, ex, et, ed, etw⟩, ip, go⟩ := h
    have hu2 := hu2_ hr
    have hs := szl
    refine ⟨_, (pss_cons (ps_asg (pe_lc (own := [("_law_some", 3)]) rfl sc_law_made.nd (pi_listK (K := K) rfl (pe_slice (sl_listK (K := K) rfl) (pv 0) po_none (po_some pe_int))) (blkOk_by (own := [("_law_some", 3)]) (N := ["_law_setting_here", "_law_table_here", "_law_deeds", "_law_some"]) (sc := defScope s_law_made) (by decide +kernel)) (fun _ _ _ _ _ => (pg_name (i := 3) sc_law_made.nd rfl (Or.inl rfl))) (fun _ _ _ _ _ => pts_nil) (fun _ _ _ _ _ => (pe_callTy (CallR.or (call_dictPTK (K := K) rfl rfl hu2) (call_dictPK (K := K) rfl rfl)) (by rfl) T.f_dict (by decide +kernel) (pa_cons (pe_revLK (K := K) rfl (pe_callTy (call_listItems rfl) (by rfl) T.f_list (by decide +kernel) (pa_cons (pe_itemsK (K := K) rfl (pv 3)) pa_nil))) pa_nil)))) (pg_unl rfl (pgs_cons (pg_name (i := 1) sc_law_made.nd rfl (Or.inl rfl)) (pgs_cons (pg_name (i := 2) sc_law_made.nd rfl (Or.inl rfl)) pgs_nil))))
    (pss_one (ps_ret (pe_make T.mkS F_Si hr (by rfl) T.mgS B_Si .nil pass0 (pa_cons (pe_make T.mkK F_Ki hr (by rfl) T.mgK B_Ki .nil pass0 (pa_cons (pv 1) pa_nil)) (pa_cons (pv 2) (pa_cons (pe_callTy (call_list_ofK (K := K) rfl) (by rfl) T.f_list (by decide +kernel) (pa_cons (pe_ix (ix_listK (K := K) rfl) (pv 0) pe_int (fun _ _ => rfl)) pa_nil)) pa_nil))))))), ?_⟩
    refine ⟨_, rfl, _, rfl, ls, _, rfl, SqL.of ex, fun q1 n1 => ?_⟩
    rw [show cutV [V.ref t, V.ref d, V.ref tw] none (some 2) = [V.ref t, V.ref d] from cut_take (k := 2) (by show 2 ≤ 3; decide)]
    generalize g1 : upd _ q1 _ = H1
    obtain ⟨s1, f1⟩ := new_of n1 g1
    refine ⟨q1, rfl, ⟨_, SqL.of f1⟩, fun D nD => ?_⟩
    refine lc_list (xs := [V.ref t, V.ref d]) (fun i H2 => Same H1 H2 ∧ ((i = 0 ∧ H2 D = some (.lst [])) ∨ (i = 1 ∧ ∃ a1, H2 D = some (.lst [.ref a1]) ∧ H2 a1 = some (.dT (grid g.ks g.mul).reverse)) ∨
      (i = 2 ∧ ∃ a1 a2, H2 D = some (.lst [.ref a1, .ref a2]) ∧ H2 a1 = some (.dT (grid g.ks g.mul).reverse) ∧ H2 a2 = some (.dK (dents g.ds.reverse))))) ⟨same_new nD, .inl ⟨rfl, upd_same⟩⟩ (fun i H2 _ hv => SqL.of (hv.1 _ _ f1)) ?_ ?_
    · rintro i v H2 hi ⟨s2, hv⟩
      rcases hv with ⟨rfl, eD⟩ | ⟨rfl, a1, eD, ea1⟩ | ⟨rfl, _⟩
      · cases hi
        have et2 := s2 _ _ (s1 _ _ et)
        refine ⟨rfl, _, rfl, .inr (.inr (.inl ⟨rfl, .inr ⟨_, et2⟩⟩)), t, rfl, rfl, .inr ⟨_, et2⟩, fun q3 n3 => ?_⟩
        generalize g3 : upd _ q3 _ = H3
        obtain ⟨s3, f3⟩ := new_of n3 g3
        have e3 := s3 _ _ et2
        refine ⟨q3, t, rfl, f3, .inr ⟨_, e3⟩, fun l H4 q4 ts he s4 n4 f4 ht hp => ?_⟩
        have jt := join_T (K := K) s4 hp (ents_T (H1 := H1) he e3)
        refine ⟨q4, _, rfl, SqL.of f4, fun q5 n5 => ?_⟩
        rw [← List.map_reverse]
        generalize g5 : upd _ q5 _ = H5
        obtain ⟨s5, f5⟩ := new_of n5 g5
        have jr : Paired (PairT K H5) ts.reverse (grid g.ks g.mul).reverse := paired_imp (fun p kv ⟨q, h1, h2⟩ => ⟨q, s5 _ _ h1, SqT.ext h2 s5⟩) (paired_rev jt)
        have gr : ((grid g.ks g.mul).reverse.map (·.1)).Nodup := by rw [List.map_reverse]; exact ((List.reverse_perm _).nodup_iff).mpr (grid_nodup ok.kst)
        refine .inl ⟨q5, ts.reverse, _, rfl, SqL.of f5, jr, fun q6 n6 => ?_⟩
        rw [mergeT_new gr]
        generalize g6 : upd _ q6 _ = H6
        obtain ⟨s6, f6⟩ := new_of n6 g6
        have s26 := s3.trans (s4.trans (s5.trans s6))
        have eD6 := s26 _ _ eD
        exact ⟨[], eD6, by decide, Same.upd0 (s2.trans s26) nD, .inr (.inl ⟨rfl, q6, upd_same, by rw [upd_ne (fun z => by subst z; rw [f6] at eD6; cases eD6)]; exact f6⟩)⟩
      · cases hi
        have ed2 := s2 _ _ (s1 _ _ ed)
        refine ⟨rfl, _, rfl, .inr (.inr (.inl ⟨rfl, .inl ⟨_, ed2⟩⟩)), d, rfl, rfl, .inl ⟨_, ed2⟩, fun q3 n3 => ?_⟩
        generalize g3 : upd _ q3 _ = H3
        obtain ⟨s3, f3⟩ := new_of n3 g3
        have e3 := s3 _ _ ed2
        refine ⟨q3, d, rfl, f3, .inl ⟨_, e3⟩, fun l H4 q4 ts he s4 n4 f4 ht hp => ?_⟩
        obtain rfl := ents_K he e3
        refine ⟨q4, _, rfl, SqL.of f4, fun q5 n5 => ?_⟩
        rw [← List.map_reverse]
        generalize g5 : upd _ q5 _ = H5
        obtain ⟨s5, f5⟩ := new_of n5 g5
        have jr : Paired (fun p (kv : Key × V) => SqT K H5 p [kV kv.1, kv.2]) ts.reverse (dents g.ds.reverse) := by
          unfold dents
          rw [List.map_reverse]
          exact paired_imp (fun p kv h2 => SqT.ext h2 s5) (paired_rev (join_K hp))
        have gr : ((dents g.ds.reverse).map (·.1)).Nodup := by
          have : dents g.ds.reverse = (dents g.ds).reverse := by unfold dents; rw [List.map_reverse]
          rw [this, List.map_reverse]; exact ((List.reverse_perm _).nodup_iff).mpr (ds_nodup ok.dst)
        refine .inr ⟨q5, ts.reverse, _, rfl, SqL.of f5, jr, fun q6 n6 => ?_⟩
        rw [mergeK_new gr]
        generalize g6 : upd _ q6 _ = H6
        obtain ⟨s6, f6⟩ := new_of n6 g6
        have s26 := s3.trans (s4.trans (s5.trans s6))
        have eD6 := s26 _ _ eD
        have ea6 := s26 _ _ ea1
        exact ⟨_, eD6, by show 1 < sizeLine; decide, Same.upd0 (s2.trans s26) nD, .inr (.inr ⟨rfl, a1, q6, upd_same, by rw [upd_ne (fun z => by subst z; rw [ea6] at eD6; cases eD6)]; exact ea6, by rw [upd_ne (fun z => by subst z; rw [f6] at eD6; cases eD6)]; exact f6⟩)⟩
      · cases hi
    · rintro H2 ⟨s2, hv⟩
      rcases hv with ⟨h, _⟩ | ⟨h, _⟩ | ⟨_, a1, a2, eD, ea1, ea2⟩
      · cases h
      · cases h
      refine ⟨D, _, rfl, SqL.of eD, rfl, _, _, rfl, _, _, rfl, rfl, ?_⟩
      have s02 := s1.trans s2
      obtain ⟨o, ho⟩ := ip.up s02
      -- Kinds
      refine ⟨_, rfl, fun y dy ny ndy nyd => ⟨y, dy, a1, _, p, g, rfl, ok, upd_same, ?_, List.reverse_perm _, Is.ne ⟨o, ho⟩ ny, ⟨o, ?_⟩, fun H3 kp ks => ⟨rfl, ?_⟩⟩⟩
      · rw [upd_ne (fun z => by subst z; rw [ea1] at ny; cases ny), upd_ne (fun z => by subst z; rw [ea1] at ndy; cases ndy)]
        exact ea1
      · rw [upd_ne (fun z => by subst z; rw [ho] at ny; cases ny), upd_ne (fun z => by subst z; rw [ho] at ndy; cases ndy)]
        exact ho
      have s3 : Same H2 H3 := fun b o e => by
        have nb : b ≠ y := fun z => by subst z; rw [e] at ny; cases ny
        exact kp b o nb (by rw [upd_ne nb, upd_ne (fun z => by subst z; rw [e] at ndy; cases ndy)]; exact e)
      have s03 := s02.trans s3
      refine ⟨_, rfl, _, rfl, ls, _, 2, .ref tw, rfl, rfl, SqL.of (s03 _ _ ex), at2 _ _ _ _, tw, _, rfl, .inl (SqL.of (s03 _ _ etw)), fun q4 n4 => ?_⟩
      generalize g4 : upd _ q4 _ = H4
      obtain ⟨s4, f4⟩ := new_of n4 g4
      have s04 := s03.trans s4
      obtain ⟨o4, ho4⟩ := ip.up s04
      refine fun z dz nz ndz nzd => ?_
      have up : ∀ b o, H4 b = some o → upd (upd H4 dz (.own z)) z (.ins a.CS dz []) b = some o := fun b o e => by
        rw [upd_ne (fun y => by subst y; rw [nz] at e; cases e), upd_ne (fun y => by subst y; rw [ndz] at e; cases e)]; exact e
      refine ⟨z, dz, y, a2, q4, p, g.ds.reverse, g, rfl, ok, upd_same, (ks.sm s4).keep fun b o _ e => up b o e, up _ _ (s4 _ _ (s3 _ _ ea2)), List.reverse_perm _, up _ _ f4, Is.ne ⟨o4, ho4⟩ nz, ⟨o4, up _ _ ho4⟩, fun H' kp' ss => ⟨rfl, ?_⟩⟩
      refine go z H' (fun b o e => ?_) (s04.free nz) ss
      have := s04 _ _ e
      exact kp' b o (fun y => by subst y; rw [this] at nz; cases nz) (up _ _ this)
end
end K12

set_option maxHeartbeats 8000000
/-! The law. -/
namespace K12
open PySem PySem.Spec L2
/-- a new list of data, apart from the purse -/
structure BdP (p : Addr) (c : Nat) (H : Hp) (D : Addr) (ds : List Dt) (H1 : Hp) : Prop where
  ex : Ext p c H H1
  nw : H D = none
  ne : D ≠ p
  li : ∃ vs, H1 D = some (.lst vs) ∧ AtL p H1 vs ds ∧ AtL D H1 vs ds
theorem BdP.start {p : Addr} {H : Hp} {D : Addr} (n : H D = none) (ne : D ≠ p) : BdP p 0 H D [] (upd H D (.lst [])) := ⟨.of (same_new n), n, ne, [], upd_same, .nil, .nil⟩
theorem BdP.step {p : Addr} {c d e' : Nat} {H H1 H2 : Hp} {D : Addr} {ds es : List Dt} {v : V} {dd : Dt} (h : BdP p c H D ds H1) (s : Ext p d H1 H2) (f1 : At p H2 v dd) (f2 : At D H2 v dd) (l : ds.length < sizeLine) (e : es = ds ++ [dd]) (hc : c + d ≤ e') :
    ∃ acc, H2 D = some (.lst acc) ∧ acc.length < sizeLine ∧ BdP p e' H D es (upd H2 D (.lst (acc ++ [v]))) := by
  obtain ⟨vs, e1, g1, g2⟩ := h.li
  have hl : vs.length = ds.length := g1.len
  have k1 : AtL p H2 vs ds := g1.up s
  have k2 : AtL D H2 vs ds := AtL.keep2 s.keep g1 g2
  refine ⟨vs, s.keep _ _ h.ne e1, by omega, ((h.ex.trans s).mono hc).upd0 h.nw, h.nw, h.ne, vs ++ [v], upd_same, ?_, ?_⟩
  · rw [e]; exact AtL.upd (k1.snoc f1) (k2.snoc f2)
  · rw [e]; exact AtL.upd (k2.snoc f2) (k2.snoc f2)
/-- each deed takes the next one's kind -/
def rotL (l : List Str) : List Str := l.drop 1 ++ l.take 1
def rotSg (g : Sg) : Sg := { g with ds := (g.ds.map (·.1)).zip (rotL (g.ds.map (·.2))) }
theorem rotL_len (l : List Str) : (rotL l).length = l.length := by
  unfold rotL
  rw [List.length_append, List.length_drop, List.length_take]
  omega
theorem rotL_mem (l : List Str) (x : Str) : x ∈ rotL l ↔ x ∈ l := by
  unfold rotL
  rw [List.mem_append]
  constructor
  · rintro (h | h)
    · exact List.mem_of_mem_drop h
    · exact List.mem_of_mem_take h
  · intro h
    rw [← List.take_append_drop 1 l, List.mem_append] at h
    exact h.symm
theorem zip_fst {a b : List Str} (h : a.length = b.length) : (a.zip b).map (·.1) = a := by
  rw [List.map_fst_zip (Nat.le_of_eq h)]
theorem zip_snd {a b : List Str} (h : a.length = b.length) : (a.zip b).map (·.2) = b := by
  rw [List.map_snd_zip (Nat.le_of_eq h.symm)]
theorem rot_len (g : Sg) : (g.ds.map (·.1)).length = (rotL (g.ds.map (·.2))).length := by rw [rotL_len, List.length_map, List.length_map]
theorem rot_ok {g : Sg} (h : g.Ok) : (rotSg g).Ok where
  kw := h.kw
  kst := h.kst
  kn := h.kn
  kp := h.kp
  cl := h.cl
  as := h.as
  dw := fun d hd => by
    have : d.1 ∈ (rotSg g).ds.map (·.1) := List.mem_map.mpr ⟨d, hd, rfl⟩
    have e : (rotSg g).ds.map (·.1) = g.ds.map (·.1) := zip_fst (rot_len g)
    rw [e] at this
    obtain ⟨d', hd', e'⟩ := List.mem_map.mp this
    rw [← e']; exact h.dw d' hd'
  dst := by
    have e : (rotSg g).ds.map (·.1) = g.ds.map (·.1) := zip_fst (rot_len g)
    rw [e]; exact h.dst
  dk := fun d hd => by
    have : d.2 ∈ (rotSg g).ds.map (·.2) := List.mem_map.mpr ⟨d, hd, rfl⟩
    have e : (rotSg g).ds.map (·.2) = rotL (g.ds.map (·.2)) := zip_snd (rot_len g)
    rw [e, rotL_mem] at this
    obtain ⟨d', hd', e'⟩ := List.mem_map.mp this
    rw [← e']; exact h.dk d' hd'
  dall := fun k hk => by
    obtain ⟨d, hd, e1⟩ := h.dall k hk
    have e : (rotSg g).ds.map (·.2) = rotL (g.ds.map (·.2)) := zip_snd (rot_len g)
    have : k ∈ (rotSg g).ds.map (·.2) := by rw [e, rotL_mem]; exact List.mem_map.mpr ⟨d, hd, e1⟩
    obtain ⟨d', hd', e'⟩ := List.mem_map.mp this
    exact ⟨d', hd', e'⟩
  dn := by
    show (List.zip _ _).length ≤ 8
    rw [List.length_zip, List.length_map]
    exact Nat.le_trans (Nat.min_le_left _ _) h.dn
  tws := h.tws
section
variable {P : Program} {w : World} {K : PySem.W.Frag} {mg : Str → Option Value} {base : Heap} {a : Ad} {n : Nat}
def spLaw (K : PySem.W.Frag) : Sp := fun vs H Q _ => ∃ (s : Addr) (ns : List Int), vs = [.ref s] ∧ SqL K H s (ns.map V.int) ∧ ∀ H', Q (.bl true) H'
theorem sc_law : FnScope ["_law_script", "_law_purse_here", "_law_setting_here", "_law_kinds", "_law_made_here", "_law_sent", "_law_shifted", "_law_second", "_law_turn", "_law_tree", "_law_values", "_law_value", "_law_deed", "_law_kind_here", "_law_late"] ["_law_script"] (defScope s_law) := ⟨rfl, rfl, rfl, by decide +kernel, rfl, by decide +kernel, by decide +kernel⟩
theorem bd_law : BindsOf "law" "law" s_law ["_law_script"] := fun _ _ _ _ _ _ us hl => match us, hl with | [_], _ => rfl
theorem d_law (T : Tp K mg a) (D_Si : ∃ fd, FnOk P w K mg base CX0 n a.fSi fd ["self", "kinds", "deeds", "twice"] (spSi a) ∧ Binds K fd ["self", "kinds", "deeds", "twice"] [])
    (D_Se : ∃ fd, FnOk P w K mg base CX0 n a.fSe fd ["self", "other"] (spEq (RSs a)) ∧ Binds K fd ["self", "other"] [])
    (D_law_draw : DfDraw P w K mg base (n + 1)) (D_law_purses : Df P w K mg base (n + 1) "_law_purses" ["_law_script", "_law_few"] (spPurses K)) (D_law_setting : Df P w K mg base (n + 1) "_law_setting" ["_law_purse_here", "_law_most"] spSet)
    (D_law_made_kinds : Df P w K mg base (n + 1) "_law_made_kinds" ["_law_table_here"] (spMk a)) (D_law_made : Df P w K mg base (n + 1) "_law_made" ["_law_setting_here"] (spMd a)) (D_law_log : Df P w K mg base (n + 1) "_law_log" ["_law_purse_here", "_law_setting_here", "_law_many"] spLg)
    (D_law_drawn_tree : Df P w K mg base (n + 1) "_law_drawn_tree" ["_law_purse_here", "_law_setting_here", "_law_log_here"] (spDt 11)) (D_law_bent : Df P w K mg base (n + 1) "_law_bent" ["_law_purse_here", "_law_setting_here", "_law_tree"] (spBt 11))
    (D_law_tree_right : Df P w K mg base (n + 1) "_law_tree_right" ["_law_made_here", "_law_setting_here", "_law_tree"] (spTr a 12)) : Body P w K mg base (n + 1) ["_law_script", "_law_purse_here", "_law_setting_here", "_law_kinds", "_law_made_here", "_law_sent", "_law_shifted", "_law_second", "_law_turn", "_law_tree", "_law_values", "_law_value", "_law_deed", "_law_kind_here", "_law_late"] "law" s_law (spLaw K) := by
  intro f cdv A outer s H vs Q E hr h
  obtain ⟨sc, ns, rfl, hsc, go⟩ := h
  obtain ⟨fd1, F_Si, B_Si⟩ := D_Si
  obtain ⟨fd2, F_Se, B_Se⟩ := D_Se
  have hs := szl
  have szb : 4000000 ≤ sizeLine := by decide
  refine ⟨_, (pss_cons (ps_for PassesOwn.never rfl (pi_listK (K := K) rfl (pe_f D_law_purses hr (by rfl) (pa_cons (pv 0) (pa_cons pe_int pa_nil)))) (pg_name (i := 1) sc_law.nd rfl (Or.inr rfl))
      (pss_cons (ps_set (i := 2) sc_law.nd rfl (Or.inr rfl) (pe_f D_law_setting hr (by rfl) (pa_cons (pv 1) (pa_cons (pe_op op_add pe_int (pe_callTy call_int1 (by rfl) T.f_int (by decide +kernel) (pa_cons (pe_cmpR op_eq (pe_f D_law_draw hr (by rfl) (pa_cons (pv 1) (pa_cons pe_int pa_nil))) pe_int (nomark _)) pa_nil))) pa_nil))))
      (pss_cons (ps_set (i := 3) sc_law.nd rfl (Or.inl rfl) (pe_f D_law_made_kinds hr (by rfl) (pa_cons (pe_ix (ix_listK (K := K) rfl) (pv 2) pe_int (fun _ _ => rfl)) pa_nil)))
      (pss_cons (ps_set (i := 4) sc_law.nd rfl (Or.inl rfl) (pe_make T.mkS F_Si hr (by rfl) T.mgS B_Si .nil pass0 (pa_cons (pv 3) (pa_cons (pe_callTy call_dictD (by rfl) T.f_dict (by decide +kernel) (pa_cons (pe_ix (ix_listK (K := K) rfl) (pv 2) pe_int (fun _ _ => rfl)) pa_nil)) (pa_cons (pe_callTy (call_list_ofK (K := K) rfl) (by rfl) T.f_list (by decide +kernel) (pa_cons (pe_ix (ix_listK (K := K) rfl) (pv 2) pe_int (fun _ _ => rfl)) pa_nil)) pa_nil)))))
      (pss_cons (ps_set (i := 5) sc_law.nd rfl (Or.inl rfl) (pe_callTy (call_dictP rfl) (by rfl) T.f_dict (by decide +kernel) (pa_cons (pe_lc (own := [("_law_deed", 12), ("_law_kind_here", 13)]) rfl sc_law.nd (pi_zip (by rfl) T.f_zip (pa_cons (pe_callB (call_sortedD rfl) (by rfl) T.f_sorted (by decide +kernel) (pa_cons (pe_ix (ix_listK (K := K) rfl) (pv 2) pe_int (fun _ _ => rfl)) pa_nil)) (pa_cons (pe_op op_cat (pe_slice (sl_listK (K := K) rfl) (pe_callTy (call_listValues rfl) (by rfl) T.f_list (by decide +kernel) (pa_cons (pe_bm0 PySem.F.plainAttrs_dict PySem.F.slot_dict_values PySem.F.type_dict_values mt_values (pe_ix (ix_listK (K := K) rfl) (pv 2) pe_int (fun _ _ => rfl))) pa_nil)) (po_some pe_int) po_none) (pe_slice (sl_listK (K := K) rfl) (pe_callTy (call_listValues rfl) (by rfl) T.f_list (by decide +kernel) (pa_cons (pe_bm0 PySem.F.plainAttrs_dict PySem.F.slot_dict_values PySem.F.type_dict_values mt_values (pe_ix (ix_listK (K := K) rfl) (pv 2) pe_int (fun _ _ => rfl))) pa_nil)) po_none (po_some pe_int))) pa_nil))) (blkOk_by (own := [("_law_deed", 12), ("_law_kind_here", 13)]) (N := ["_law_script", "_law_purse_here", "_law_setting_here", "_law_kinds", "_law_made_here", "_law_sent", "_law_shifted", "_law_second", "_law_turn", "_law_tree", "_law_values", "_law_value", "_law_deed", "_law_kind_here", "_law_late"]) (sc := defScope s_law) (by decide +kernel)) (fun _ _ _ _ _ => (pg_tb (n := 2) rfl (pgs_cons (pg_name (i := 12) sc_law.nd rfl (Or.inl rfl)) (pgs_cons (pg_name (i := 13) sc_law.nd rfl (Or.inl rfl)) pgs_nil)))) (fun _ _ _ _ _ => pts_nil) (fun _ _ _ _ _ => (pe_tup (pa_cons (pv 12) (pa_cons (pv 13) pa_nil))))) pa_nil)))
      (pss_cons (ps_set (i := 6) sc_law.nd rfl (Or.inl rfl) (pe_lst (pa_cons (pe_ix (ix_listK (K := K) rfl) (pv 2) pe_int (fun _ _ => rfl)) (pa_cons (pv 5) (pa_cons (pe_ix (ix_listK (K := K) rfl) (pv 2) pe_int (fun _ _ => rfl)) pa_nil)))))
      (pss_cons (ps_set (i := 7) sc_law.nd rfl (Or.inl rfl) (pe_make T.mkS F_Si hr (by rfl) T.mgS B_Si .nil pass0 (pa_cons (pv 3) (pa_cons (pe_callTy call_dictD (by rfl) T.f_dict (by decide +kernel) (pa_cons (pv 5) pa_nil)) (pa_cons (pe_callTy (call_list_ofK (K := K) rfl) (by rfl) T.f_list (by decide +kernel) (pa_cons (pe_ix (ix_listK (K := K) rfl) (pv 2) pe_int (fun _ _ => rfl)) pa_nil)) pa_nil)))))
      (pss_cons (ps_for PassesOwn.never rfl (pi_range1 (by rfl) T.f_range (pa_cons pe_int pa_nil)) (pg_name (i := 8) sc_law.nd rfl (Or.inl rfl))
        (pss_cons (ps_set (i := 9) sc_law.nd rfl (Or.inr rfl) (pe_f D_law_drawn_tree hr (by rfl) (pa_cons (pv 1) (pa_cons (pv 2) (pa_cons (pe_f D_law_log hr (by rfl) (pa_cons (pv 1) (pa_cons (pv 2) (pa_cons (pe_op op_add pe_int (pe_f D_law_draw hr (by rfl) (pa_cons (pv 1) (pa_cons pe_int pa_nil)))) pa_nil)))) pa_nil)))))
        (pss_cons (ps_set (i := 10) sc_law.nd rfl (Or.inl rfl) (pe_op op_cat (pe_lst (pa_cons (pv 9) pa_nil)) (pe_lc (own := [("_law_late", 14)]) rfl sc_law.nd (pi_range1 (by rfl) T.f_range (pa_cons pe_int pa_nil)) (blkOk_by (own := [("_law_late", 14)]) (N := ["_law_script", "_law_purse_here", "_law_setting_here", "_law_kinds", "_law_made_here", "_law_sent", "_law_shifted", "_law_second", "_law_turn", "_law_tree", "_law_values", "_law_value", "_law_deed", "_law_kind_here", "_law_late"]) (sc := defScope s_law) (by decide +kernel)) (fun _ _ _ _ _ => (pg_name (i := 14) sc_law.nd rfl (Or.inl rfl))) (fun _ _ _ _ _ => pts_nil) (fun _ _ _ _ _ => (pe_f D_law_bent hr (by rfl) (pa_cons (pv 1) (pa_cons (pv 2) (pa_cons (pv 9) pa_nil))))))))
        (pss_one (ps_for PassesOwn.never rfl (pi_listK (K := K) rfl (pv 10)) (pg_name (i := 11) sc_law.nd rfl (Or.inl rfl))
          (pss_one (ps_if (PW.pt (pw_or (pt_not (pt_val (pe_f D_law_tree_right hr (by rfl) (pa_cons (pv 4) (pa_cons (pv 2) (pa_cons (pv 11) pa_nil)))))) (pw_or1 (pt_not (pt_val (pe_f D_law_tree_right hr (by rfl) (pa_cons (pv 7) (pa_cons (pv 6) (pa_cons (pv 11) pa_nil)))))))))
            (pss_one (ps_ret pe_bl))
            pss_nil)))))))
      (pss_one (ps_if (pt_cmpR (op_neIns F_Se T.neS T.eqS.1 T.eqS.2 B_Se (C8.pass0 (E := E0)) hr) (pv 4) (pe_f D_law_made hr (by rfl) (pa_cons (pv 2) pa_nil)) (nomark _))
        (pss_one (ps_ret pe_bl))
        pss_nil))))))))))
    (pss_one (ps_ret pe_bl))), ?_⟩
  refine ⟨_, rfl, sc, ns, rfl, hsc, fun pq p H1 s1 np hp npq epq => ?_⟩
  refine ⟨pq, rfl, ⟨_, SqL.of epq⟩, ?_⟩
  refine for_list (xs := [V.ref p]) (fun i σ H2 => (i = 0 ∧ H2 = H1 ∧ σ = [some (.ref sc), none, none, none, none, none, none, none, none, none, none, none, none, none, none]) ∨ (i = 1 ∧ H2 pq = some (.lst [.ref p]))) (.inl ⟨rfl, rfl, rfl⟩) (fun i σ H2 _ hv => ?_) ?_ ?_
  · rcases hv with ⟨_, rfl, _⟩ | ⟨_, e⟩
    · exact SqL.of epq
    · exact SqL.of e
  · rintro i v σ H2 hi hv
    rcases hv with ⟨rfl, rfl, rfl⟩ | ⟨rfl, _⟩
    case inr => cases hi
    cases hi
    refine ⟨_, rfl, _, rfl, p, 0, 4, rfl, hp, by decide, ⟨by decide, by decide⟩, fun d3 H3 d30 d31 x3 => ⟨rfl, .inr ⟨_, rfl, _, _, rfl, rfl, ?_⟩⟩⟩
    have pu3 := x3.pu _ hp
    obtain ⟨m, hm, hm1, hm4⟩ : ∃ m : Nat, (3 : Int) + (if decide (V.int d3 = V.int 0) = true then 1 else 0) = (m : Nat) ∧ 1 ≤ m ∧ m ≤ 4 := by
      by_cases hd : decide (V.int d3 = V.int 0) = true
      · exact ⟨4, by rw [if_pos hd]; rfl, by decide, by decide⟩
      · exact ⟨3, by rw [if_neg hd]; rfl, by decide, by decide⟩
    refine ⟨p, _, m, congrArg (fun z : Int => [V.ref p, V.int z]) hm, pu3, by decide, hm1, hm4, fun ls g H4 x4 hL ok => ?_⟩
    have x14 := x3.trans x4
    have pu4 := x14.pu _ hp
    have ip4 : Is H4 p := pu4.here
    obtain ⟨t, d, tw, nls, nt, nd, ntw, ex, et, ed, etw⟩ := id hL
    -- Kinds
    refine ⟨_, rfl, ls, _, 0, .ref t, rfl, rfl, SqL.of ex, at0 _ _, t, p, g, rfl, ok, et, ip4, fun kq H5 s5 n5 hK => ?_⟩
    -- Setting
    refine ⟨_, rfl, _, rfl, ls, _, 1, .ref d, rfl, rfl, SqL.of (s5 _ _ ex), at1 _ _ _, d, _, rfl, .inl (s5 _ _ ed), fun q6 n6 => ?_⟩
    generalize g6 : upd _ q6 _ = H6
    obtain ⟨s6, f6⟩ := new_of n6 g6
    have s46 := s5.trans s6
    refine ⟨_, rfl, ls, _, 2, .ref tw, rfl, rfl, SqL.of (s46 _ _ ex), at2 _ _ _ _, tw, _, rfl, .inl (SqL.of (s46 _ _ etw)), fun q7 n7 => ?_⟩
    generalize g7 : upd _ q7 _ = H7
    obtain ⟨s7, f7⟩ := new_of n7 g7
    have s47 := s46.trans s7
    obtain ⟨o7, ho7⟩ := ip4.up s47
    refine fun z dz nz ndz nzd => ?_
    have up : ∀ b o, H7 b = some o → upd (upd H7 dz (.own z)) z (.ins a.CS dz []) b = some o := fun b o e => by
      rw [upd_ne (fun y => by subst y; rw [nz] at e; cases e), upd_ne (fun y => by subst y; rw [ndz] at e; cases e)]; exact e
    refine ⟨z, dz, kq, q6, q7, p, g.ds, g, rfl, ok, upd_same, (hK.sm (s6.trans s7)).keep fun b o _ e => up b o e, up _ _ (s7 _ _ f6), List.Perm.refl _, up _ _ f7, Is.ne ⟨o7, ho7⟩ nz, ⟨o7, up _ _ ho7⟩, fun H8 kp8 hS8 => ⟨rfl, ?_⟩⟩
    have s48 : Same H4 H8 := fun b o e => by
      have := s47 _ _ e
      exact kp8 b o (fun y => by subst y; rw [this] at nz; cases nz) (up _ _ this)
    have hK8 : KsAt a p kq H8 g := (hK.sm (s6.trans s7)).keep fun b o _ e => kp8 b o (fun y => by subst y; rw [nz] at e; cases e) (up _ _ e)
    clear kp8 up nz ndz nzd s47 s46 f6 f7 g6 g7 ho7 hK
    have ex8 := s48 _ _ ex
    have et8 := s48 _ _ et
    have ed8 := s48 _ _ ed
    have etw8 := s48 _ _ etw
    have dn := ok.dn
    have ldents : (dents g.ds).length = g.ds.length := by unfold dents; rw [List.length_map]
    have dpos : 0 < g.ds.length := by
      have kp := ok.kp
      cases hks : g.ks with
      | nil => rw [hks] at kp; cases kp
      | cons x r =>
        obtain ⟨dd, hd, _⟩ := ok.dall x (by rw [hks]; exact List.mem_cons_self)
        exact List.length_pos_of_mem hd
    -- sent
    refine ⟨_, rfl, ls, _, 1, .ref d, rfl, rfl, SqL.of ex8, at1 _ _ _, d, _, g.ds.map (·.1), rfl, .inl ed8, dents_keys _, by rw [List.length_map]; omega, fun ys q9 yp ys' n9 => ?_⟩
    obtain rfl : ys = g.ds.map (·.1) := sorted_is yp ys' (List.Perm.refl _) ok.dst
    generalize g9 : upd _ q9 _ = H9
    obtain ⟨s9, f9⟩ := new_of n9 g9
    have ex9 := s9 _ _ ex8
    have ed9 := s9 _ _ ed8
    refine ⟨_, rfl, ls, _, 1, .ref d, rfl, rfl, SqL.of ex9, at1 _ _ _, .inr (.inr (.inl ⟨rfl, .inl ⟨_, ed9⟩⟩)), d, rfl, rfl, .inl ⟨_, ed9⟩, fun q10 n10 => ?_⟩
    generalize g10 : upd _ q10 _ = H10
    obtain ⟨s10, f10⟩ := new_of n10 g10
    have dv : (dents g.ds).map (·.2) = (g.ds.map (·.2)).map V.str := by unfold dents; rw [List.map_map, List.map_map]; rfl
    refine ⟨q10, d, dents g.ds, rfl, f10, s10 _ _ ed9, fun q11 n11 => ?_⟩
    rw [dv]
    generalize g11 : upd _ q11 _ = H11
    obtain ⟨s11, f11⟩ := new_of n11 g11
    refine ⟨_, rfl, q11, _, rfl, SqL.of f11, fun q12 n12 => ?_⟩
    rw [show cutV ((g.ds.map (·.2)).map V.str) (some 1) none = ((g.ds.map (·.2)).map V.str).drop 1 from cut_drop (k := 1) (by rw [List.length_map, List.length_map]; exact dpos), ← List.map_drop]
    generalize g12 : upd _ q12 _ = H12
    obtain ⟨s12, f12⟩ := new_of n12 g12
    have s812 := s9.trans (s10.trans (s11.trans s12))
    have ed12 := s812 _ _ ed8
    refine ⟨_, rfl, ls, _, 1, .ref d, rfl, rfl, SqL.of (s812 _ _ ex8), at1 _ _ _, .inr (.inr (.inl ⟨rfl, .inl ⟨_, ed12⟩⟩)), d, rfl, rfl, .inl ⟨_, ed12⟩, fun q13 n13 => ?_⟩
    generalize g13 : upd _ q13 _ = H13
    obtain ⟨s13, f13⟩ := new_of n13 g13
    refine ⟨q13, d, dents g.ds, rfl, f13, s13 _ _ ed12, fun q14 n14 => ?_⟩
    rw [dv]
    generalize g14 : upd _ q14 _ = H14
    obtain ⟨s14, f14⟩ := new_of n14 g14
    refine ⟨_, rfl, q14, _, rfl, SqL.of f14, fun q15 n15 => ?_⟩
    rw [show cutV ((g.ds.map (·.2)).map V.str) none (some 1) = ((g.ds.map (·.2)).map V.str).take 1 from cut_take (k := 1) (by rw [List.length_map, List.length_map]; exact dpos), ← List.map_take]
    generalize g15 : upd _ q15 _ = H15
    obtain ⟨s15, f15⟩ := new_of n15 g15
    have s1215 := s13.trans (s14.trans s15)
    refine ⟨q12, q15, _, _, rfl, rfl, s1215 _ _ f12, f15, by rw [List.length_map, List.length_map, List.length_drop, List.length_take, List.length_map]; omega, fun q16 n16 => ?_⟩
    rw [← List.map_append]
    generalize g16 : upd _ q16 _ = H16
    obtain ⟨s16, f16⟩ := new_of n16 g16
    have f16' : H16 q16 = some (.lst ((rotL (g.ds.map (·.2))).map V.str)) := f16
    have s916 := s10.trans (s11.trans (s12.trans (s1215.trans s16)))
    have f916 := s916 _ _ f9
    have s816 := s9.trans s916
    refine ⟨q9, q16, _, _, rfl, SqL.of f916, SqL.of f16', fun D nD => ?_⟩
    have l1 : (g.ds.map (·.1)).length = g.ds.length := List.length_map _
    have l2 : (rotL (g.ds.map (·.2))).length = g.ds.length := by rw [rotL_len, List.length_map]
    have l3 : (rotSg g).ds.length = g.ds.length := by show (List.zip _ _).length = _; rw [List.length_zip, l1, l2]; omega
    refine lc_it (walk_zip (n := g.ds.length) (by simp only [List.length_map, rotL_len]; omega)) (fun i H1 => Pd (fun b : Str × Str => [V.str b.1, V.str b.2]) H16 D ((rotSg g).ds.take i) H1) (Pd.start nD) (fun i H1 _ hv => ⟨SqL.of (hv.sm _ _ f916), SqL.of (hv.sm _ _ f16')⟩) ?_ ?_
    · rintro i v H17 H18 hi hv ⟨T', x1, x2, rfl, nT, rfl, hx1, hx2⟩
      have hx1 : ((g.ds.map (·.1)).map V.str)[i]? = some x1 := hx1
      have hx2 : ((rotL (g.ds.map (·.2))).map V.str)[i]? = some x2 := hx2
      rw [List.getElem?_map] at hx1 hx2
      obtain ⟨y1, hy1, rfl⟩ := Option.map_eq_some_iff.mp hx1
      obtain ⟨y2, hy2, rfl⟩ := Option.map_eq_some_iff.mp hx2
      have gz : (rotSg g).ds[i]? = some (y1, y2) := by
        show (List.zip (g.ds.map (·.1)) (rotL (g.ds.map (·.2))))[i]? = _
        rw [List.getElem?_zip_eq_some]
        exact ⟨hy1, hy2⟩
      have st := same_new (o := .tup [V.str y1, V.str y2]) nT
      refine ⟨T', _, rfl, SqT.of upd_same, rfl, _, _, rfl, _, _, rfl, rfl, rfl, ?_⟩
      refine ⟨_, rfl, _, rfl, Nat.le_trans (by decide : 2 ≤ 4096) hs, fun q18 n18 => ?_⟩
      generalize g18 : upd _ q18 _ = H18
      obtain ⟨s18, f18⟩ := new_of n18 g18
      refine hv.step (b := (y1, y2)) (st.trans s18) f18 ?_ ?_
      · rw [List.length_take]; omega
      · rw [List.take_add_one, gz]; rfl
    · intro H17 hv
      rw [← l3, List.take_length] at hv
      obtain ⟨ps, e17, hp17⟩ := hv.ex
      have ok2 := rot_ok ok
      refine ⟨D, ps, dents (rotSg g).ds, rfl, SqL.of e17, pd_pairs hp17, fun sd n18 => ?_⟩
      rw [mergeK_new (ds_nodup ok2.dst)]
      generalize g18 : upd _ sd _ = H18
      obtain ⟨s18, f18⟩ := new_of n18 g18
      have s818 := s816.trans (hv.sm.trans s18)
      have ip8 : Is H8 p := ip4.up s48
      have nsd : sd ≠ p := (ip8.up (s816.trans hv.sm)).ne n18
      -- shifted
      refine ⟨_, rfl, ls, _, 0, .ref t, rfl, rfl, SqL.of (s818 _ _ ex8), at0 _ _, _, rfl, _, rfl, ls, _, 2, .ref tw, rfl, rfl, SqL.of (s818 _ _ ex8), at2 _ _ _ _, Nat.le_trans (by decide : 3 ≤ 4096) hs, fun sh n19 => ?_⟩
      have nsh : sh ≠ p := (ip8.up s818).ne n19
      generalize g19 : upd _ sh _ = H19
      obtain ⟨s19, f19⟩ := new_of n19 g19
      have s819 := s818.trans s19
      have hL2 : LsAt p sh H19 (rotSg g) := ⟨t, sd, tw, nsh, nt, nsd, ntw, f19, s819 _ _ et8, s19 _ _ f18, s819 _ _ etw8⟩
      -- second
      refine ⟨_, rfl, _, rfl, sd, _, rfl, .inl (s19 _ _ f18), fun q20 n20 => ?_⟩
      generalize g20 : upd _ q20 _ = H20
      obtain ⟨s20, f20⟩ := new_of n20 g20
      have s820 := s819.trans s20
      refine ⟨_, rfl, ls, _, 2, .ref tw, rfl, rfl, SqL.of (s820 _ _ ex8), at2 _ _ _ _, tw, _, rfl, .inl (SqL.of (s820 _ _ etw8)), fun q21 n21 => ?_⟩
      generalize g21 : upd _ q21 _ = H21
      obtain ⟨s21, f21⟩ := new_of n21 g21
      have s821 := s820.trans s21
      obtain ⟨o21, ho21⟩ := ip8.up s821
      refine fun y dy ny ndy nyd => ?_
      have up : ∀ b o, H21 b = some o → upd (upd H21 dy (.own y)) y (.ins a.CS dy []) b = some o := fun b o e => by
        rw [upd_ne (fun y => by subst y; rw [ny] at e; cases e), upd_ne (fun y => by subst y; rw [ndy] at e; cases e)]; exact e
      have hK21 : KsAt a p kq H21 (rotSg g) := hK8.sm s821
      refine ⟨y, dy, kq, q20, q21, p, (rotSg g).ds, rotSg g, rfl, ok2, upd_same, hK21.keep fun b o _ e => up b o e, up _ _ (s21 _ _ f20), List.Perm.refl _, up _ _ f21, Is.ne ⟨o21, ho21⟩ ny, ⟨o21, up _ _ ho21⟩, fun H22 kp22 hS22 => ⟨rfl, ?_⟩⟩
      have s822 : Same H8 H22 := fun b o e => by
        have := s821 _ _ e
        exact kp22 b o (fun y => by subst y; rw [this] at ny; cases ny) (up _ _ this)
      have s1922 : Same H19 H22 := fun b o e => by
        have := s21 _ _ (s20 _ _ e)
        exact kp22 b o (fun y => by subst y; rw [this] at ny; cases ny) (up _ _ this)
      have hS8' := hS8.sm s822
      have hL22 : LsAt p ls H22 g := hL.sm (s48.trans s822)
      have hL2' := hL2.sm s1922
      have x22 : Ext p (1 + 900) H2 H22 := x14.same (s48.trans s822)
      have pu22 := x22.pu _ hp
      have npq22 := npq
      clear kp22 up ny ndy nyd s821 s820 s819 s818 s816 hK21 hL2 hK8
      refine ⟨_, rfl, by decide, by decide, ?_⟩
      refine for_range (lo := 0) (n := 3) (fun i σ H23 => Ext p (i * 3000) H22 H23 ∧ ∃ (u8 u9 u10 u11 : Option V), σ = [some (.ref sc), some (.ref p), some (.ref ls), some (.ref kq), some (.ref z), some (.ref sd), some (.ref sh), some (.ref y), u8, u9, u10, u11, none, none, none]) ⟨by rw [Nat.zero_mul]; exact Ext.refl _ _, none, none, none, none, rfl⟩ ?_ ?_
      · rintro i σ H23 hi ⟨x23, u8, u9, u10, u11, rfl⟩
        have pu23 := x23.pu _ pu22
        have hi3 : i * 3000 ≤ 6000 := by omega
        refine ⟨_, rfl, _, rfl, _, rfl, _, rfl, _, rfl, p, _, _, rfl, pu23, by omega, ⟨by decide, by decide⟩, fun d24 H24 d240 d241 x24 => ⟨_, _, rfl, rfl, ?_⟩⟩
        obtain ⟨lm, hlm, lm1, lm10⟩ : ∃ lm : Nat, (1 : Int) + d24 = (lm : Nat) ∧ 1 ≤ lm ∧ lm ≤ 10 := ⟨(1 + d24).toNat, by omega, by omega, by omega⟩
        have pu24 := x24.pu _ pu23
        have xa := x23.trans x24
        refine ⟨p, ls, _, lm, g, congrArg (fun z : Int => [V.ref p, V.ref ls, V.int z]) hlm, pu24, by omega, hL22.up xa, ok, lm1, lm10, fun lq log H25 x25 nlq elq ilog llog => ?_⟩
        have pu25 := x25.pu _ pu24
        have xb := xa.trans x25
        refine ⟨p, ls, lq, _, g, log, rfl, pu25, by omega, hL22.up xb, ok, nlq, elq, ilog, by omega, by omega, by omega, fun tv tt H26 x26 fr26 fu26 sz26 dp26 => ?_⟩
        have pu26 := x26.pu _ pu25
        have xc := xb.trans x26
        have ip25 : Is H25 p := pu25.here
        have at26 : At p H26 tv tt.dt := fr26 p ip25
        have ft26 : tt.fit 11 := ⟨fu26, by omega, by omega⟩
        refine ⟨_, rfl, Nat.le_trans (by decide : 1 ≤ 4096) hs, fun q27 n27 => ?_⟩
        have n27p := pu26.ne n27
        generalize g27 : upd _ q27 _ = H27
        obtain ⟨s27, f27⟩ := new_of n27 g27
        have xd := xc.same s27
        have pu27 := (Ext.of s27).pu _ pu26
        have at27 := at26.sm s27
        refine ⟨_, rfl, by decide, by decide, fun D28 n28 => ?_⟩
        have n28p := pu27.ne n28
        refine lc_range (lo := 0) (n := 5) (fun j H28 => ∃ ts : List K12.T, BdP p (j * 110) H27 D28 (dtL ts) H28 ∧ ts.length = j ∧ ∀ u ∈ ts, u.fit 12) ⟨[], by unfold dtL; rw [Nat.zero_mul]; exact BdP.start n28 n28p, rfl, fun u hu => (by cases hu)⟩ ?_ ?_
        · rintro j H28 hj ⟨ts, bd, lts, hts⟩
          have pu28 := bd.ex.pu _ pu27
          have at28 := at27.up bd.ex
          have at28D : At D28 H28 tv tt.dt := At.keep2 bd.ex.keep at27 (at27.free n28)
          have hj110 : j * 110 ≤ 500 := by omega
          refine ⟨rfl, _, rfl, _, rfl, _, rfl, p, ls, tv, _, g, tt, rfl, pu28, by omega, hL22.up (xd.trans bd.ex), ok, at28, ft26, fun v' t' H29 x29 fr29 fu29 sz29 dp29 => ?_⟩
          obtain ⟨acc, w1, w2, w3⟩ := bd.step (es := dtL (ts ++ [t'])) x29 (fr29 p pu28.here at28) (fr29 D28 (bd.li.elim fun vs e => ⟨_, e.1⟩) at28D) (by rw [dtL_len]; omega) (by rw [dtL_app, show dtL [t'] = [t'.dt] by rw [dtL_map]; rfl]) (e' := (j + 1) * 110) (by omega)
          refine ⟨acc, w1, w2, ts ++ [t'], w3, by rw [List.length_append, lts]; rfl, fun u hu => ?_⟩
          rcases List.mem_append.mp hu with hu | hu
          · exact hts u hu
          · rw [List.mem_singleton.mp hu]
            exact ⟨fu29, by omega, by omega⟩
        · rintro H28 ⟨ts, bd, lts, hts⟩
          obtain ⟨vs, e28, a28, _⟩ := bd.li
          have f27' := bd.ex.keep _ _ n27p f27
          have lvs : vs.length = 5 := by rw [a28.len, dtL_len, lts]
          refine ⟨q27, D28, _, _, rfl, rfl, f27', e28, by show 1 + vs.length ≤ sizeLine; omega, fun q29 n29 => ?_⟩
          have pu28 := bd.ex.pu _ pu27
          generalize g29 : upd _ q29 _ = H29
          obtain ⟨s29, f29⟩ := new_of n29 g29
          have xe := (xd.trans bd.ex).same s29
          have aall : AtL p H29 (tv :: vs) (dtL (tt :: ts)) := by
            rw [dtL_map]
            have h1 : At p H29 tv tt.dt := (at27.up bd.ex).sm s29
            have h2 := a28.sm s29
            rw [dtL_map] at h2
            exact .cons h1 h2
          have fall : ∀ u ∈ tt :: ts, u.fit 12 := fun u hu => by
            rcases List.mem_cons.mp hu with e | hu
            · rw [e]; exact ft26.mono (by decide)
            · exact hts u hu
          have ip29 : Is H29 p := Is.up pu28.here s29
          have f29' : H29 q29 = some (.lst (tv :: vs)) := f29
          refine ⟨_, rfl, q29, rfl, ⟨_, SqL.of f29'⟩, ?_⟩
          refine for_list (xs := tv :: vs) (fun j σ H30 => Same H29 H30 ∧ ∃ (u11 : Option V), σ = [some (.ref sc), some (.ref p), some (.ref ls), some (.ref kq), some (.ref z), some (.ref sd), some (.ref sh), some (.ref y), some (.int (0 + (i : Int))), some tv, some (.ref q29), u11, none, none, none]) ⟨Same.refl _, u11, rfl⟩ (fun j σ H30 _ hv => SqL.of (hv.1 _ _ f29')) ?_ ?_
          · rintro j v σ H30 hj ⟨s30, u11, rfl⟩
            obtain ⟨u, hu, hat⟩ := aall.part hj
            have fu := fall u (List.mem_of_getElem? hu)
            have xf := xe.same s30
            refine ⟨_, rfl, _, rfl, _, rfl, z, ls, v, p, p, g, u, rfl, ok, hS8'.up xf, hL22.up xf, hat.sm s30, ip29.up s30, fu, fun H31 s31 => ⟨_, rfl, ?_⟩⟩
            refine ifF ?_
            have xg := xf.same s31
            refine ⟨_, rfl, _, rfl, _, rfl, y, sh, v, p, p, rotSg g, u, rfl, ok2, hS22.up xg, hL2'.up xg, hat.sm (s30.trans s31), ip29.up (s30.trans s31), fu, fun H32 s32 => ⟨_, rfl, ?_⟩⟩
            refine ifF ?_
            exact ⟨s30.trans (s31.trans s32), _, rfl⟩
          · rintro σ H30 ⟨s30, u11, rfl⟩
            exact ⟨(xe.same s30).mono (by omega), _, _, _, _, rfl⟩
      · rintro σ H23 ⟨x23, u8, u9, u10, u11, rfl⟩
        have pu23 := x23.pu _ pu22
        have hS23 := hS8'.up x23
        refine ⟨_, rfl, _, rfl, ls, p, p, g, rfl, ok, hL22.up x23, pu23.here, fun q24 H24 s24 n24 hS24 => ?_⟩
        have hS23' := hS23.sm s24
        obtain ⟨_, _, _, _, _, _, _, _, _, k1, _⟩ := id hS23'
        obtain ⟨_, _, _, _, _, _, _, _, _, k2, _⟩ := id hS24
        refine ⟨⟨z, q24, _, _, _, _, rfl, rfl, k1, k2, g, p, hS23', hS24, ok⟩, fun H25 s25 => ⟨_, rfl, ?_⟩⟩
        refine ifF ?_
        refine .inr ⟨rfl, ?_⟩
        exact s25 _ _ (s24 _ _ (x23.keep _ _ npq22 (x22.keep _ _ npq22 epq)))
  · rintro σ H2 hv
    exact go H2
end
end K12

set_option maxHeartbeats 0
namespace K12
open PySem PySem.Spec PyProof.Rows L2
def ds_is_word : He.DefD := ⟨("is_word", none), "is_word", "is_word", defArgs s_is_word, defBody s_is_word, defScope s_is_word, [], []⟩
def ds_is_pair_of_words : He.DefD := ⟨("is_pair_of_words", none), "is_pair_of_words", "is_pair_of_words", defArgs s_is_pair_of_words, defBody s_is_pair_of_words, defScope s_is_pair_of_words, [], []⟩
def ds_is_table : He.DefD := ⟨("is_table", none), "is_table", "is_table", defArgs s_is_table, defBody s_is_table, defScope s_is_table, [], []⟩
def ds_Kinds_init_ : He.DefD := ⟨("Kinds", some "__init__"), "__init__", "Kinds.__init__", defArgs s_Kinds_init_, defBody s_Kinds_init_, defScope s_Kinds_init_, [], []⟩
def ds_Kinds_eq_ : He.DefD := ⟨("Kinds", some "__eq__"), "__eq__", "Kinds.__eq__", defArgs s_Kinds_eq_, defBody s_Kinds_eq_, defScope s_Kinds_eq_, [], []⟩
def ds_check_kinds : He.DefD := ⟨("check_kinds", none), "check_kinds", "check_kinds", defArgs s_check_kinds, defBody s_check_kinds, defScope s_check_kinds, [], []⟩
def ds_is_kind_of : He.DefD := ⟨("is_kind_of", none), "is_kind_of", "is_kind_of", defArgs s_is_kind_of, defBody s_is_kind_of, defScope s_is_kind_of, [], []⟩
def ds_together : He.DefD := ⟨("together", none), "together", "together", defArgs s_together, defBody s_together, defScope s_together, [], []⟩
def ds_squares_of : He.DefD := ⟨("squares_of", none), "squares_of", "squares_of", defArgs s_squares_of, defBody s_squares_of, defScope s_squares_of, [], []⟩
def ds_turned_kinds : He.DefD := ⟨("turned_kinds", none), "turned_kinds", "turned_kinds", defArgs s_turned_kinds, defBody s_turned_kinds, defScope s_turned_kinds, [], []⟩
def ds_are_deeds : He.DefD := ⟨("are_deeds", none), "are_deeds", "are_deeds", defArgs s_are_deeds, defBody s_are_deeds, defScope s_are_deeds, [], []⟩
def ds_are_twice : He.DefD := ⟨("are_twice", none), "are_twice", "are_twice", defArgs s_are_twice, defBody s_are_twice, defScope s_are_twice, [], []⟩
def ds_Setting_init_ : He.DefD := ⟨("Setting", some "__init__"), "__init__", "Setting.__init__", defArgs s_Setting_init_, defBody s_Setting_init_, defScope s_Setting_init_, [], []⟩
def ds_Setting_eq_ : He.DefD := ⟨("Setting", some "__eq__"), "__eq__", "Setting.__eq__", defArgs s_Setting_eq_, defBody s_Setting_eq_, defScope s_Setting_eq_, [], []⟩
def ds_check_setting : He.DefD := ⟨("check_setting", none), "check_setting", "check_setting", defArgs s_check_setting, defBody s_check_setting, defScope s_check_setting, [], []⟩
def ds_row_of : He.DefD := ⟨("row_of", none), "row_of", "row_of", defArgs s_row_of, defBody s_row_of, defScope s_row_of, [], []⟩
def ds_kind_in : He.DefD := ⟨("kind_in", none), "kind_in", "kind_in", defArgs s_kind_in, defBody s_kind_in, defScope s_kind_in, [], []⟩
def ds_opposite_setting : He.DefD := ⟨("opposite_setting", none), "opposite_setting", "opposite_setting", defArgs s_opposite_setting, defBody s_opposite_setting, defScope s_opposite_setting, [], []⟩
def ds_log_in : He.DefD := ⟨("log_in", none), "log_in", "log_in", defArgs s_log_in, defBody s_log_in, defScope s_log_in, [], []⟩
def ds_run_log : He.DefD := ⟨("run_log", none), "run_log", "run_log", defArgs s_run_log, defBody s_run_log, defScope s_run_log, [], []⟩
def ds_is_tree : He.DefD := ⟨("is_tree", none), "is_tree", "is_tree", defArgs s_is_tree, defBody s_is_tree, defScope s_is_tree, [], []⟩
def ds_check_tree : He.DefD := ⟨("check_tree", none), "check_tree", "check_tree", defArgs s_check_tree, defBody s_check_tree, defScope s_check_tree, [], []⟩
def ds_parts_of : He.DefD := ⟨("parts_of", none), "parts_of", "parts_of", defArgs s_parts_of, defBody s_parts_of, defScope s_parts_of, [], []⟩
def ds_height_in : He.DefD := ⟨("height_in", none), "height_in", "height_in", defArgs s_height_in, defBody s_height_in, defScope s_height_in, [], []⟩
def ds_log_of : He.DefD := ⟨("log_of", none), "log_of", "log_of", defArgs s_log_of, defBody s_log_of, defScope s_log_of, [], []⟩
def ds_kind_by : He.DefD := ⟨("kind_by", none), "kind_by", "kind_by", defArgs s_kind_by, defBody s_kind_by, defScope s_kind_by, [], []⟩
def ds_height_of : He.DefD := ⟨("height_of", none), "height_of", "height_of", defArgs s_height_of, defBody s_height_of, defScope s_height_of, [], []⟩
def ds_size_of : He.DefD := ⟨("size_of", none), "size_of", "size_of", defArgs s_size_of, defBody s_size_of, defScope s_size_of, [], []⟩
def ds_knots_in : He.DefD := ⟨("knots_in", none), "knots_in", "knots_in", defArgs s_knots_in, defBody s_knots_in, defScope s_knots_in, [], []⟩
def ds_knots_of : He.DefD := ⟨("knots_of", none), "knots_of", "knots_of", defArgs s_knots_of, defBody s_knots_of, defScope s_knots_of, [], []⟩
def ds_turned : He.DefD := ⟨("turned", none), "turned", "turned", defArgs s_turned, defBody s_turned, defScope s_turned, [], []⟩
def ds_opposite_tree : He.DefD := ⟨("opposite_tree", none), "opposite_tree", "opposite_tree", defArgs s_opposite_tree, defBody s_opposite_tree, defScope s_opposite_tree, [], []⟩
def ds_law_purse : He.DefD := ⟨("_law_purse", none), "_law_purse", "_law_purse", defArgs s_law_purse, defBody s_law_purse, defScope s_law_purse, [], []⟩
def ds_law_mixed : He.DefD := ⟨("_law_mixed", none), "_law_mixed", "_law_mixed", defArgs s_law_mixed, defBody s_law_mixed, defScope s_law_mixed, [], []⟩
def ds_law_draw : He.DefD := ⟨("_law_draw", none), "_law_draw", "_law_draw", defArgs s_law_draw, defBody s_law_draw, defScope s_law_draw, [], []⟩
def ds_law_purses : He.DefD := ⟨("_law_purses", none), "_law_purses", "_law_purses", defArgs s_law_purses, defBody s_law_purses, defScope s_law_purses, [], []⟩
def ds_law_one_of : He.DefD := ⟨("_law_one_of", none), "_law_one_of", "_law_one_of", defArgs s_law_one_of, defBody s_law_one_of, defScope s_law_one_of, [], []⟩
def ds_law_same : He.DefD := ⟨("_law_same", none), "_law_same", "_law_same", defArgs s_law_same, defBody s_law_same, defScope s_law_same, [], []⟩
def ds_law_exact : He.DefD := ⟨("_law_exact", none), "_law_exact", "_law_exact", defArgs s_law_exact, defBody s_law_exact, defScope s_law_exact, [], []⟩
def ds_law_word : He.DefD := ⟨("_law_word", none), "_law_word", "_law_word", defArgs s_law_word, defBody s_law_word, defScope s_law_word, [], []⟩
def ds_law_words : He.DefD := ⟨("_law_words", none), "_law_words", "_law_words", defArgs s_law_words, defBody s_law_words, defScope s_law_words, [], []⟩
def ds_law_plain_table : He.DefD := ⟨("_law_plain_table", none), "_law_plain_table", "_law_plain_table", defArgs s_law_plain_table, defBody s_law_plain_table, defScope s_law_plain_table, [], []⟩
def ds_law_wide_table : He.DefD := ⟨("_law_wide_table", none), "_law_wide_table", "_law_wide_table", defArgs s_law_wide_table, defBody s_law_wide_table, defScope s_law_wide_table, [], []⟩
def ds_law_twofold_table : He.DefD := ⟨("_law_twofold_table", none), "_law_twofold_table", "_law_twofold_table", defArgs s_law_twofold_table, defBody s_law_twofold_table, defScope s_law_twofold_table, [], []⟩
def ds_law_table : He.DefD := ⟨("_law_table", none), "_law_table", "_law_table", defArgs s_law_table, defBody s_law_table, defScope s_law_table, [], []⟩
def ds_law_kinds_of : He.DefD := ⟨("_law_kinds_of", none), "_law_kinds_of", "_law_kinds_of", defArgs s_law_kinds_of, defBody s_law_kinds_of, defScope s_law_kinds_of, [], []⟩
def ds_law_squares : He.DefD := ⟨("_law_squares", none), "_law_squares", "_law_squares", defArgs s_law_squares, defBody s_law_squares, defScope s_law_squares, [], []⟩
def ds_law_setting : He.DefD := ⟨("_law_setting", none), "_law_setting", "_law_setting", defArgs s_law_setting, defBody s_law_setting, defScope s_law_setting, [], []⟩
def ds_law_log : He.DefD := ⟨("_law_log", none), "_law_log", "_law_log", defArgs s_law_log, defBody s_law_log, defScope s_law_log, [], []⟩
def ds_law_kind : He.DefD := ⟨("_law_kind", none), "_law_kind", "_law_kind", defArgs s_law_kind, defBody s_law_kind, defScope s_law_kind, [], []⟩
def ds_law_made_kinds : He.DefD := ⟨("_law_made_kinds", none), "_law_made_kinds", "_law_made_kinds", defArgs s_law_made_kinds, defBody s_law_made_kinds, defScope s_law_made_kinds, [], []⟩
def ds_law_made : He.DefD := ⟨("_law_made", none), "_law_made", "_law_made", defArgs s_law_made, defBody s_law_made, defScope s_law_made, [], []⟩
def ds_law_tree_log : He.DefD := ⟨("_law_tree_log", none), "_law_tree_log", "_law_tree_log", defArgs s_law_tree_log, defBody s_law_tree_log, defScope s_law_tree_log, [], []⟩
def ds_law_tree_parts : He.DefD := ⟨("_law_tree_parts", none), "_law_tree_parts", "_law_tree_parts", defArgs s_law_tree_parts, defBody s_law_tree_parts, defScope s_law_tree_parts, [], []⟩
def ds_law_tree_height : He.DefD := ⟨("_law_tree_height", none), "_law_tree_height", "_law_tree_height", defArgs s_law_tree_height, defBody s_law_tree_height, defScope s_law_tree_height, [], []⟩
def ds_law_drawn_tree : He.DefD := ⟨("_law_drawn_tree", none), "_law_drawn_tree", "_law_drawn_tree", defArgs s_law_drawn_tree, defBody s_law_drawn_tree, defScope s_law_drawn_tree, [], []⟩
def ds_law_tree_knots : He.DefD := ⟨("_law_tree_knots", none), "_law_tree_knots", "_law_tree_knots", defArgs s_law_tree_knots, defBody s_law_tree_knots, defScope s_law_tree_knots, [], []⟩
def ds_law_twin_table : He.DefD := ⟨("_law_twin_table", none), "_law_twin_table", "_law_twin_table", defArgs s_law_twin_table, defBody s_law_twin_table, defScope s_law_twin_table, [], []⟩
def ds_law_leading_table : He.DefD := ⟨("_law_leading_table", none), "_law_leading_table", "_law_leading_table", defArgs s_law_leading_table, defBody s_law_leading_table, defScope s_law_leading_table, [], []⟩
def ds_law_cyclic_table : He.DefD := ⟨("_law_cyclic_table", none), "_law_cyclic_table", "_law_cyclic_table", defArgs s_law_cyclic_table, defBody s_law_cyclic_table, defScope s_law_cyclic_table, [], []⟩
def ds_law_any_table : He.DefD := ⟨("_law_any_table", none), "_law_any_table", "_law_any_table", defArgs s_law_any_table, defBody s_law_any_table, defScope s_law_any_table, [], []⟩
def ds_law_bent : He.DefD := ⟨("_law_bent", none), "_law_bent", "_law_bent", defArgs s_law_bent, defBody s_law_bent, defScope s_law_bent, [], []⟩
def ds_law_turned : He.DefD := ⟨("_law_turned", none), "_law_turned", "_law_turned", defArgs s_law_turned, defBody s_law_turned, defScope s_law_turned, [], []⟩
def ds_law_tree_right : He.DefD := ⟨("_law_tree_right", none), "_law_tree_right", "_law_tree_right", defArgs s_law_tree_right, defBody s_law_tree_right, defScope s_law_tree_right, [], []⟩
def ds_law : He.DefD := ⟨("law", none), "law", "law", defArgs s_law, defBody s_law, defScope s_law, [], []⟩
def fn0 : List He.DefD := [ds_is_word, ds_is_pair_of_words, ds_is_table, ds_Kinds_init_, ds_Kinds_eq_, ds_check_kinds, ds_is_kind_of, ds_together, ds_squares_of, ds_turned_kinds, ds_are_deeds, ds_are_twice, ds_Setting_init_, ds_Setting_eq_, ds_check_setting, ds_row_of, ds_kind_in, ds_opposite_setting, ds_log_in, ds_run_log, ds_is_tree, ds_check_tree, ds_parts_of, ds_height_in, ds_log_of, ds_kind_by, ds_height_of, ds_size_of, ds_knots_in, ds_knots_of]
def fn1 : List He.DefD := [ds_turned, ds_opposite_tree, ds_law_purse, ds_law_mixed, ds_law_draw, ds_law_purses, ds_law_one_of, ds_law_same, ds_law_exact, ds_law_word, ds_law_words, ds_law_plain_table, ds_law_wide_table, ds_law_twofold_table, ds_law_table, ds_law_kinds_of, ds_law_squares, ds_law_setting, ds_law_log, ds_law_kind, ds_law_made_kinds, ds_law_made, ds_law_tree_log, ds_law_tree_parts, ds_law_tree_height, ds_law_drawn_tree, ds_law_tree_knots, ds_law_twin_table, ds_law_leading_table, ds_law_cyclic_table]
def fn2 : List He.DefD := [ds_law_any_table, ds_law_bent, ds_law_turned, ds_law_tree_right, ds_law]
def fn : List He.DefD := fn0 ++ fn1 ++ fn2
def fa0 : List He.Fa := [.glo "is_word", .glo "is_pair_of_words", .glo "is_table", .glo "check_kinds", .glo "is_kind_of", .glo "together", .glo "squares_of", .glo "turned_kinds", .glo "are_deeds", .glo "are_twice", .glo "check_setting", .glo "row_of", .glo "kind_in", .glo "opposite_setting", .glo "log_in", .glo "run_log", .glo "is_tree", .glo "check_tree", .glo "parts_of", .glo "height_in", .glo "log_of", .glo "kind_by", .glo "height_of", .glo "size_of", .glo "knots_in", .glo "knots_of", .glo "turned", .glo "opposite_tree", .glo "_law_purse", .glo "_law_mixed"]
def fa1 : List He.Fa := [.glo "_law_draw", .glo "_law_purses", .glo "_law_one_of", .glo "_law_same", .glo "_law_exact", .glo "_law_word", .glo "_law_words", .glo "_law_plain_table", .glo "_law_wide_table", .glo "_law_twofold_table", .glo "_law_table", .glo "_law_kinds_of", .glo "_law_squares", .glo "_law_setting", .glo "_law_log", .glo "_law_kind", .glo "_law_made_kinds", .glo "_law_made", .glo "_law_tree_log", .glo "_law_tree_parts", .glo "_law_tree_height", .glo "_law_drawn_tree", .glo "_law_tree_knots", .glo "_law_twin_table", .glo "_law_leading_table", .glo "_law_cyclic_table", .glo "_law_any_table", .glo "_law_bent", .glo "_law_turned", .glo "_law_tree_right"]
def fa2 : List He.Fa := [.glo "law", .glo "Kinds", .glo "Setting", .free "all", .free "any", .free "bool", .free "dict", .free "enumerate", .free "int", .free "isinstance", .free "len", .free "list", .free "max", .free "min", .free "range", .free "reversed", .free "sorted", .free "str", .free "sum", .free "tuple", .free "zip", .str "LETTERS" "abcdefghijklmnopqrstuvwxyz", .cls "Kinds", .cls "Setting", .mkr "Kinds", .mkr "Setting", .meth "Kinds" "__eq__", .meth "Setting" "__eq__", .noat "Kinds" "told", .noat "Kinds" "names"]
def fa3 : List He.Fa := [.noat "Setting" "sorts", .noat "Setting" "named", .noat "Setting" "again", .noat "Setting" "known"]
def fa : List He.Fa := fa0 ++ fa1 ++ fa2 ++ fa3
def nm0 : List PySem.Str := ["_wall", "TwiceError", "InvalidTable", "InvalidKinds", "InvalidDeeds", "InvalidTwice", "InvalidSetting", "InvalidTree", "LETTERS", "is_word", "is_pair_of_words", "is_table", "Kinds", "check_kinds", "is_kind_of", "together", "squares_of", "turned_kinds", "are_deeds", "are_twice", "Setting", "check_setting", "row_of", "kind_in", "opposite_setting", "log_in", "run_log", "is_tree", "check_tree", "parts_of"]
def nm1 : List PySem.Str := ["height_in", "log_of", "kind_by", "height_of", "size_of", "knots_in", "knots_of", "turned", "opposite_tree", "_law_purse", "_law_mixed", "_law_draw", "_law_purses", "_law_one_of", "_law_same", "_law_exact", "_law_word", "_law_words", "_law_plain_table", "_law_wide_table", "_law_twofold_table", "_law_table", "_law_kinds_of", "_law_squares", "_law_setting", "_law_log", "_law_kind", "_law_made_kinds", "_law_made", "_law_tree_log"]
def nm2 : List PySem.Str := ["_law_tree_parts", "_law_tree_height", "_law_drawn_tree", "_law_tree_knots", "_law_twin_table", "_law_leading_table", "_law_cyclic_table", "_law_any_table", "_law_bent", "_law_turned", "_law_tree_right"]
def nm : List PySem.Str := nm0 ++ nm1 ++ nm2
abbrev R : PySem.W.OpenRow := PySem.W.OpenLaw.row PySem.Challenge.rw_kindtwice_k12_whole_trees_judged
/-- what isinstance asks of an own class, as a test -/
def icB (K : PySem.W.Frag) (C : Addr) : Bool := He.eqO (PySem.W.findIn K (.ref C) "__class__") (some (some (.builtin "object.__class__"))) && (He.eqO (PySem.W.specialIn K (.builtin "object.__class__") "__get__") (some (some (.builtin "getset_descriptor.__get__"))) &&
  (decide (PySem.W.takesIn K (.builtin "object.__class__") = some true) && (decide (PySem.W.mroIn K C (.type "object") = some true) && decide (PySem.W.kitOne K (.ref C) (.ref C) = some true))))
/-- what the class Setting must have besides -/
def extraB (K : PySem.W.Frag) : Bool := He.eqO (PySem.W.findIn K (.ref (He.ga K "Setting")) "__ne__") (some (some (.builtin "object.__ne__"))) && decide (PySem.W.subIn K (.ref (He.ga K "Setting")) (.type "object") = some true) && (icB K (He.ga K "Kinds") && icB K (He.ga K "Setting"))
def obX (n : Nat) (fa : List He.Fa) (fn : List He.DefD) (g : Addr → Option Obj) : Bool × He.AlD := (extraB (He.frG g (He.asD g n)), He.obsD fa fn (He.frG g (He.asD g n)))
def hookX (n : Nat) (fa : List He.Fa) (fn : List He.DefD) : PySem.W.Hook where
  α := Bool × He.AlD
  obs := fun s => obX n fa fn s.heap.get?
  val := fun _ => (true, He.valD fn)
  says := fun _ h => ∃ K : PySem.W.Frag, K.In h ∧ extraB K = true ∧ He.SaysD fa fn K
  of := fun _ _ e => ⟨_, He.frG_in, congrArg Prod.fst e, congrArg Prod.snd e⟩
  keeps := fun _ _ _ ⟨K, hK, c⟩ k => ⟨K, PySem.W.Frag.In.keeps hK k, c⟩
abbrev hk : PySem.W.Hook := hookX 4 fa fn
def ob (s : PySem.W.SharedT) : Bool × He.AlD := obX 4 fa fn (HandSHeadRun.getT s)
theorem ob_eq (s : PySem.W.SharedT) : ob s = hk.obs s.abs := by
  have e : HandSHeadRun.getT s = s.abs.heap.get? := funext (HandSHeadRun.getT_eq s)
  show obX 4 fa fn (HandSHeadRun.getT s) = obX 4 fa fn s.abs.heap.get?
  rw [e]
theorem run (w : World) : HandSHeadRun.RunEq R (PySem.W.view R.prog [77]) hk ob 6000 nm w := by
  intro os
  kernel_rfl
end K12

set_option maxHeartbeats 0
/-! All put together. -/
namespace K12
open PySem PySem.Spec L2
def adOf (K : PySem.W.Frag) : Ad := ⟨He.ga K "Kinds", He.ga K "Setting", He.ma K (He.ga K "Kinds") "__init__", He.ma K (He.ga K "Kinds") "__eq__", He.ma K (He.ga K "Setting") "__init__", He.ma K (He.ga K "Setting") "__eq__"⟩
theorem allC {α : Type} {Pr : α → Prop} {x : α} {l : List α} (h : Pr x) (k : ∀ y ∈ l, Pr y) : ∀ y ∈ x :: l, Pr y := fun y m => (List.mem_cons.mp m).elim (fun e => e ▸ h) (k y)
theorem allN {α : Type} {Pr : α → Prop} : ∀ y ∈ ([] : List α), Pr y := fun y m => by cases m
section
variable {K : PySem.W.Frag} {h : Heap} {mg : Str → Option Value}
abbrev HasF (K : PySem.W.Frag) (mg : Str → Option Value) (q : Str × Stmt) : Prop := ∃ f fd, FnP K q.1 q.1 q.2 f fd ∧ mg q.1 = some (.ref f)
theorem tpf_is_word (X : K.In h) (G : h.Ns PySem.mainGlobals mg) (c : He.SaysD fa fn K) : HasF K mg ("is_word", s_is_word) := by
  obtain ⟨fd, F⟩ := c.def_ 0 (d := ds_is_word) rfl
  exact ⟨_, fd, F, He.glo_ok X G (c.fact 0 (f := .glo "is_word") rfl)⟩
theorem tpf_is_pair_of_words (X : K.In h) (G : h.Ns PySem.mainGlobals mg) (c : He.SaysD fa fn K) : HasF K mg ("is_pair_of_words", s_is_pair_of_words) := by
  obtain ⟨fd, F⟩ := c.def_ 1 (d := ds_is_pair_of_words) rfl
  exact ⟨_, fd, F, He.glo_ok X G (c.fact 1 (f := .glo "is_pair_of_words") rfl)⟩
theorem tpf_is_table (X : K.In h) (G : h.Ns PySem.mainGlobals mg) (c : He.SaysD fa fn K) : HasF K mg ("is_table", s_is_table) := by
  obtain ⟨fd, F⟩ := c.def_ 2 (d := ds_is_table) rfl
  exact ⟨_, fd, F, He.glo_ok X G (c.fact 2 (f := .glo "is_table") rfl)⟩
theorem tpf_check_kinds (X : K.In h) (G : h.Ns PySem.mainGlobals mg) (c : He.SaysD fa fn K) : HasF K mg ("check_kinds", s_check_kinds) := by
  obtain ⟨fd, F⟩ := c.def_ 5 (d := ds_check_kinds) rfl
  exact ⟨_, fd, F, He.glo_ok X G (c.fact 3 (f := .glo "check_kinds") rfl)⟩
theorem tpf_is_kind_of (X : K.In h) (G : h.Ns PySem.mainGlobals mg) (c : He.SaysD fa fn K) : HasF K mg ("is_kind_of", s_is_kind_of) := by
  obtain ⟨fd, F⟩ := c.def_ 6 (d := ds_is_kind_of) rfl
  exact ⟨_, fd, F, He.glo_ok X G (c.fact 4 (f := .glo "is_kind_of") rfl)⟩
theorem tpf_together (X : K.In h) (G : h.Ns PySem.mainGlobals mg) (c : He.SaysD fa fn K) : HasF K mg ("together", s_together) := by
  obtain ⟨fd, F⟩ := c.def_ 7 (d := ds_together) rfl
  exact ⟨_, fd, F, He.glo_ok X G (c.fact 5 (f := .glo "together") rfl)⟩
theorem tpf_squares_of (X : K.In h) (G : h.Ns PySem.mainGlobals mg) (c : He.SaysD fa fn K) : HasF K mg ("squares_of", s_squares_of) := by
  obtain ⟨fd, F⟩ := c.def_ 8 (d := ds_squares_of) rfl
  exact ⟨_, fd, F, He.glo_ok X G (c.fact 6 (f := .glo "squares_of") rfl)⟩
theorem tpf_turned_kinds (X : K.In h) (G : h.Ns PySem.mainGlobals mg) (c : He.SaysD fa fn K) : HasF K mg ("turned_kinds", s_turned_kinds) := by
  obtain ⟨fd, F⟩ := c.def_ 9 (d := ds_turned_kinds) rfl
  exact ⟨_, fd, F, He.glo_ok X G (c.fact 7 (f := .glo "turned_kinds") rfl)⟩
theorem tpf_are_deeds (X : K.In h) (G : h.Ns PySem.mainGlobals mg) (c : He.SaysD fa fn K) : HasF K mg ("are_deeds", s_are_deeds) := by
  obtain ⟨fd, F⟩ := c.def_ 10 (d := ds_are_deeds) rfl
  exact ⟨_, fd, F, He.glo_ok X G (c.fact 8 (f := .glo "are_deeds") rfl)⟩
theorem tpf_are_twice (X : K.In h) (G : h.Ns PySem.mainGlobals mg) (c : He.SaysD fa fn K) : HasF K mg ("are_twice", s_are_twice) := by
  obtain ⟨fd, F⟩ := c.def_ 11 (d := ds_are_twice) rfl
  exact ⟨_, fd, F, He.glo_ok X G (c.fact 9 (f := .glo "are_twice") rfl)⟩
theorem tpf_check_setting (X : K.In h) (G : h.Ns PySem.mainGlobals mg) (c : He.SaysD fa fn K) : HasF K mg ("check_setting", s_check_setting) := by
  obtain ⟨fd, F⟩ := c.def_ 14 (d := ds_check_setting) rfl
  exact ⟨_, fd, F, He.glo_ok X G (c.fact 10 (f := .glo "check_setting") rfl)⟩
theorem tpf_row_of (X : K.In h) (G : h.Ns PySem.mainGlobals mg) (c : He.SaysD fa fn K) : HasF K mg ("row_of", s_row_of) := by
  obtain ⟨fd, F⟩ := c.def_ 15 (d := ds_row_of) rfl
  exact ⟨_, fd, F, He.glo_ok X G (c.fact 11 (f := .glo "row_of") rfl)⟩
theorem tpf_kind_in (X : K.In h) (G : h.Ns PySem.mainGlobals mg) (c : He.SaysD fa fn K) : HasF K mg ("kind_in", s_kind_in) := by
  obtain ⟨fd, F⟩ := c.def_ 16 (d := ds_kind_in) rfl
  exact ⟨_, fd, F, He.glo_ok X G (c.fact 12 (f := .glo "kind_in") rfl)⟩
theorem tpf_opposite_setting (X : K.In h) (G : h.Ns PySem.mainGlobals mg) (c : He.SaysD fa fn K) : HasF K mg ("opposite_setting", s_opposite_setting) := by
  obtain ⟨fd, F⟩ := c.def_ 17 (d := ds_opposite_setting) rfl
  exact ⟨_, fd, F, He.glo_ok X G (c.fact 13 (f := .glo "opposite_setting") rfl)⟩
theorem tpf_log_in (X : K.In h) (G : h.Ns PySem.mainGlobals mg) (c : He.SaysD fa fn K) : HasF K mg ("log_in", s_log_in) := by
  obtain ⟨fd, F⟩ := c.def_ 18 (d := ds_log_in) rfl
  exact ⟨_, fd, F, He.glo_ok X G (c.fact 14 (f := .glo "log_in") rfl)⟩
theorem tpf_run_log (X : K.In h) (G : h.Ns PySem.mainGlobals mg) (c : He.SaysD fa fn K) : HasF K mg ("run_log", s_run_log) := by
  obtain ⟨fd, F⟩ := c.def_ 19 (d := ds_run_log) rfl
  exact ⟨_, fd, F, He.glo_ok X G (c.fact 15 (f := .glo "run_log") rfl)⟩
theorem tpf_is_tree (X : K.In h) (G : h.Ns PySem.mainGlobals mg) (c : He.SaysD fa fn K) : HasF K mg ("is_tree", s_is_tree) := by
  obtain ⟨fd, F⟩ := c.def_ 20 (d := ds_is_tree) rfl
  exact ⟨_, fd, F, He.glo_ok X G (c.fact 16 (f := .glo "is_tree") rfl)⟩
theorem tpf_check_tree (X : K.In h) (G : h.Ns PySem.mainGlobals mg) (c : He.SaysD fa fn K) : HasF K mg ("check_tree", s_check_tree) := by
  obtain ⟨fd, F⟩ := c.def_ 21 (d := ds_check_tree) rfl
  exact ⟨_, fd, F, He.glo_ok X G (c.fact 17 (f := .glo "check_tree") rfl)⟩
theorem tpf_parts_of (X : K.In h) (G : h.Ns PySem.mainGlobals mg) (c : He.SaysD fa fn K) : HasF K mg ("parts_of", s_parts_of) := by
  obtain ⟨fd, F⟩ := c.def_ 22 (d := ds_parts_of) rfl
  exact ⟨_, fd, F, He.glo_ok X G (c.fact 18 (f := .glo "parts_of") rfl)⟩
theorem tpf_height_in (X : K.In h) (G : h.Ns PySem.mainGlobals mg) (c : He.SaysD fa fn K) : HasF K mg ("height_in", s_height_in) := by
  obtain ⟨fd, F⟩ := c.def_ 23 (d := ds_height_in) rfl
  exact ⟨_, fd, F, He.glo_ok X G (c.fact 19 (f := .glo "height_in") rfl)⟩
theorem tpf_log_of (X : K.In h) (G : h.Ns PySem.mainGlobals mg) (c : He.SaysD fa fn K) : HasF K mg ("log_of", s_log_of) := by
  obtain ⟨fd, F⟩ := c.def_ 24 (d := ds_log_of) rfl
  exact ⟨_, fd, F, He.glo_ok X G (c.fact 20 (f := .glo "log_of") rfl)⟩
theorem tpf_kind_by (X : K.In h) (G : h.Ns PySem.mainGlobals mg) (c : He.SaysD fa fn K) : HasF K mg ("kind_by", s_kind_by) := by
  obtain ⟨fd, F⟩ := c.def_ 25 (d := ds_kind_by) rfl
  exact ⟨_, fd, F, He.glo_ok X G (c.fact 21 (f := .glo "kind_by") rfl)⟩
theorem tpf_height_of (X : K.In h) (G : h.Ns PySem.mainGlobals mg) (c : He.SaysD fa fn K) : HasF K mg ("height_of", s_height_of) := by
  obtain ⟨fd, F⟩ := c.def_ 26 (d := ds_height_of) rfl
  exact ⟨_, fd, F, He.glo_ok X G (c.fact 22 (f := .glo "height_of") rfl)⟩
theorem tpf_size_of (X : K.In h) (G : h.Ns PySem.mainGlobals mg) (c : He.SaysD fa fn K) : HasF K mg ("size_of", s_size_of) := by
  obtain ⟨fd, F⟩ := c.def_ 27 (d := ds_size_of) rfl
  exact ⟨_, fd, F, He.glo_ok X G (c.fact 23 (f := .glo "size_of") rfl)⟩
theorem tpf_knots_in (X : K.In h) (G : h.Ns PySem.mainGlobals mg) (c : He.SaysD fa fn K) : HasF K mg ("knots_in", s_knots_in) := by
  obtain ⟨fd, F⟩ := c.def_ 28 (d := ds_knots_in) rfl
  exact ⟨_, fd, F, He.glo_ok X G (c.fact 24 (f := .glo "knots_in") rfl)⟩
theorem tpf_knots_of (X : K.In h) (G : h.Ns PySem.mainGlobals mg) (c : He.SaysD fa fn K) : HasF K mg ("knots_of", s_knots_of) := by
  obtain ⟨fd, F⟩ := c.def_ 29 (d := ds_knots_of) rfl
  exact ⟨_, fd, F, He.glo_ok X G (c.fact 25 (f := .glo "knots_of") rfl)⟩
theorem tpf_turned (X : K.In h) (G : h.Ns PySem.mainGlobals mg) (c : He.SaysD fa fn K) : HasF K mg ("turned", s_turned) := by
  obtain ⟨fd, F⟩ := c.def_ 30 (d := ds_turned) rfl
  exact ⟨_, fd, F, He.glo_ok X G (c.fact 26 (f := .glo "turned") rfl)⟩
theorem tpf_opposite_tree (X : K.In h) (G : h.Ns PySem.mainGlobals mg) (c : He.SaysD fa fn K) : HasF K mg ("opposite_tree", s_opposite_tree) := by
  obtain ⟨fd, F⟩ := c.def_ 31 (d := ds_opposite_tree) rfl
  exact ⟨_, fd, F, He.glo_ok X G (c.fact 27 (f := .glo "opposite_tree") rfl)⟩
theorem tpf__law_purse (X : K.In h) (G : h.Ns PySem.mainGlobals mg) (c : He.SaysD fa fn K) : HasF K mg ("_law_purse", s_law_purse) := by
  obtain ⟨fd, F⟩ := c.def_ 32 (d := ds_law_purse) rfl
  exact ⟨_, fd, F, He.glo_ok X G (c.fact 28 (f := .glo "_law_purse") rfl)⟩
theorem tpf__law_mixed (X : K.In h) (G : h.Ns PySem.mainGlobals mg) (c : He.SaysD fa fn K) : HasF K mg ("_law_mixed", s_law_mixed) := by
  obtain ⟨fd, F⟩ := c.def_ 33 (d := ds_law_mixed) rfl
  exact ⟨_, fd, F, He.glo_ok X G (c.fact 29 (f := .glo "_law_mixed") rfl)⟩
theorem tpf__law_draw (X : K.In h) (G : h.Ns PySem.mainGlobals mg) (c : He.SaysD fa fn K) : HasF K mg ("_law_draw", s_law_draw) := by
  obtain ⟨fd, F⟩ := c.def_ 34 (d := ds_law_draw) rfl
  exact ⟨_, fd, F, He.glo_ok X G (c.fact 30 (f := .glo "_law_draw") rfl)⟩
theorem tpf__law_purses (X : K.In h) (G : h.Ns PySem.mainGlobals mg) (c : He.SaysD fa fn K) : HasF K mg ("_law_purses", s_law_purses) := by
  obtain ⟨fd, F⟩ := c.def_ 35 (d := ds_law_purses) rfl
  exact ⟨_, fd, F, He.glo_ok X G (c.fact 31 (f := .glo "_law_purses") rfl)⟩
theorem tpf__law_one_of (X : K.In h) (G : h.Ns PySem.mainGlobals mg) (c : He.SaysD fa fn K) : HasF K mg ("_law_one_of", s_law_one_of) := by
  obtain ⟨fd, F⟩ := c.def_ 36 (d := ds_law_one_of) rfl
  exact ⟨_, fd, F, He.glo_ok X G (c.fact 32 (f := .glo "_law_one_of") rfl)⟩
theorem tpf__law_same (X : K.In h) (G : h.Ns PySem.mainGlobals mg) (c : He.SaysD fa fn K) : HasF K mg ("_law_same", s_law_same) := by
  obtain ⟨fd, F⟩ := c.def_ 37 (d := ds_law_same) rfl
  exact ⟨_, fd, F, He.glo_ok X G (c.fact 33 (f := .glo "_law_same") rfl)⟩
theorem tpf__law_exact (X : K.In h) (G : h.Ns PySem.mainGlobals mg) (c : He.SaysD fa fn K) : HasF K mg ("_law_exact", s_law_exact) := by
  obtain ⟨fd, F⟩ := c.def_ 38 (d := ds_law_exact) rfl
  exact ⟨_, fd, F, He.glo_ok X G (c.fact 34 (f := .glo "_law_exact") rfl)⟩
theorem tpf__law_word (X : K.In h) (G : h.Ns PySem.mainGlobals mg) (c : He.SaysD fa fn K) : HasF K mg ("_law_word", s_law_word) := by
  obtain ⟨fd, F⟩ := c.def_ 39 (d := ds_law_word) rfl
  exact ⟨_, fd, F, He.glo_ok X G (c.fact 35 (f := .glo "_law_word") rfl)⟩
theorem tpf__law_words (X : K.In h) (G : h.Ns PySem.mainGlobals mg) (c : He.SaysD fa fn K) : HasF K mg ("_law_words", s_law_words) := by
  obtain ⟨fd, F⟩ := c.def_ 40 (d := ds_law_words) rfl
  exact ⟨_, fd, F, He.glo_ok X G (c.fact 36 (f := .glo "_law_words") rfl)⟩
theorem tpf__law_plain_table (X : K.In h) (G : h.Ns PySem.mainGlobals mg) (c : He.SaysD fa fn K) : HasF K mg ("_law_plain_table", s_law_plain_table) := by
  obtain ⟨fd, F⟩ := c.def_ 41 (d := ds_law_plain_table) rfl
  exact ⟨_, fd, F, He.glo_ok X G (c.fact 37 (f := .glo "_law_plain_table") rfl)⟩
theorem tpf__law_wide_table (X : K.In h) (G : h.Ns PySem.mainGlobals mg) (c : He.SaysD fa fn K) : HasF K mg ("_law_wide_table", s_law_wide_table) := by
  obtain ⟨fd, F⟩ := c.def_ 42 (d := ds_law_wide_table) rfl
  exact ⟨_, fd, F, He.glo_ok X G (c.fact 38 (f := .glo "_law_wide_table") rfl)⟩
theorem tpf__law_twofold_table (X : K.In h) (G : h.Ns PySem.mainGlobals mg) (c : He.SaysD fa fn K) : HasF K mg ("_law_twofold_table", s_law_twofold_table) := by
  obtain ⟨fd, F⟩ := c.def_ 43 (d := ds_law_twofold_table) rfl
  exact ⟨_, fd, F, He.glo_ok X G (c.fact 39 (f := .glo "_law_twofold_table") rfl)⟩
theorem tpf__law_table (X : K.In h) (G : h.Ns PySem.mainGlobals mg) (c : He.SaysD fa fn K) : HasF K mg ("_law_table", s_law_table) := by
  obtain ⟨fd, F⟩ := c.def_ 44 (d := ds_law_table) rfl
  exact ⟨_, fd, F, He.glo_ok X G (c.fact 40 (f := .glo "_law_table") rfl)⟩
theorem tpf__law_kinds_of (X : K.In h) (G : h.Ns PySem.mainGlobals mg) (c : He.SaysD fa fn K) : HasF K mg ("_law_kinds_of", s_law_kinds_of) := by
  obtain ⟨fd, F⟩ := c.def_ 45 (d := ds_law_kinds_of) rfl
  exact ⟨_, fd, F, He.glo_ok X G (c.fact 41 (f := .glo "_law_kinds_of") rfl)⟩
theorem tpf__law_squares (X : K.In h) (G : h.Ns PySem.mainGlobals mg) (c : He.SaysD fa fn K) : HasF K mg ("_law_squares", s_law_squares) := by
  obtain ⟨fd, F⟩ := c.def_ 46 (d := ds_law_squares) rfl
  exact ⟨_, fd, F, He.glo_ok X G (c.fact 42 (f := .glo "_law_squares") rfl)⟩
theorem tpf__law_setting (X : K.In h) (G : h.Ns PySem.mainGlobals mg) (c : He.SaysD fa fn K) : HasF K mg ("_law_setting", s_law_setting) := by
  obtain ⟨fd, F⟩ := c.def_ 47 (d := ds_law_setting) rfl
  exact ⟨_, fd, F, He.glo_ok X G (c.fact 43 (f := .glo "_law_setting") rfl)⟩
theorem tpf__law_log (X : K.In h) (G : h.Ns PySem.mainGlobals mg) (c : He.SaysD fa fn K) : HasF K mg ("_law_log", s_law_log) := by
  obtain ⟨fd, F⟩ := c.def_ 48 (d := ds_law_log) rfl
  exact ⟨_, fd, F, He.glo_ok X G (c.fact 44 (f := .glo "_law_log") rfl)⟩
theorem tpf__law_kind (X : K.In h) (G : h.Ns PySem.mainGlobals mg) (c : He.SaysD fa fn K) : HasF K mg ("_law_kind", s_law_kind) := by
  obtain ⟨fd, F⟩ := c.def_ 49 (d := ds_law_kind) rfl
  exact ⟨_, fd, F, He.glo_ok X G (c.fact 45 (f := .glo "_law_kind") rfl)⟩
theorem tpf__law_made_kinds (X : K.In h) (G : h.Ns PySem.mainGlobals mg) (c : He.SaysD fa fn K) : HasF K mg ("_law_made_kinds", s_law_made_kinds) := by
  obtain ⟨fd, F⟩ := c.def_ 50 (d := ds_law_made_kinds) rfl
  exact ⟨_, fd, F, He.glo_ok X G (c.fact 46 (f := .glo "_law_made_kinds") rfl)⟩
theorem tpf__law_made (X : K.In h) (G : h.Ns PySem.mainGlobals mg) (c : He.SaysD fa fn K) : HasF K mg ("_law_made", s_law_made) := by
  obtain ⟨fd, F⟩ := c.def_ 51 (d := ds_law_made) rfl
  exact ⟨_, fd, F, He.glo_ok X G (c.fact 47 (f := .glo "_law_made") rfl)⟩
theorem tpf__law_tree_log (X : K.In h) (G : h.Ns PySem.mainGlobals mg) (c : He.SaysD fa fn K) : HasF K mg ("_law_tree_log", s_law_tree_log) := by
  obtain ⟨fd, F⟩ := c.def_ 52 (d := ds_law_tree_log) rfl
  exact ⟨_, fd, F, He.glo_ok X G (c.fact 48 (f := .glo "_law_tree_log") rfl)⟩
theorem tpf__law_tree_parts (X : K.In h) (G : h.Ns PySem.mainGlobals mg) (c : He.SaysD fa fn K) : HasF K mg ("_law_tree_parts", s_law_tree_parts) := by
  obtain ⟨fd, F⟩ := c.def_ 53 (d := ds_law_tree_parts) rfl
  exact ⟨_, fd, F, He.glo_ok X G (c.fact 49 (f := .glo "_law_tree_parts") rfl)⟩
theorem tpf__law_tree_height (X : K.In h) (G : h.Ns PySem.mainGlobals mg) (c : He.SaysD fa fn K) : HasF K mg ("_law_tree_height", s_law_tree_height) := by
  obtain ⟨fd, F⟩ := c.def_ 54 (d := ds_law_tree_height) rfl
  exact ⟨_, fd, F, He.glo_ok X G (c.fact 50 (f := .glo "_law_tree_height") rfl)⟩
theorem tpf__law_drawn_tree (X : K.In h) (G : h.Ns PySem.mainGlobals mg) (c : He.SaysD fa fn K) : HasF K mg ("_law_drawn_tree", s_law_drawn_tree) := by
  obtain ⟨fd, F⟩ := c.def_ 55 (d := ds_law_drawn_tree) rfl
  exact ⟨_, fd, F, He.glo_ok X G (c.fact 51 (f := .glo "_law_drawn_tree") rfl)⟩
theorem tpf__law_tree_knots (X : K.In h) (G : h.Ns PySem.mainGlobals mg) (c : He.SaysD fa fn K) : HasF K mg ("_law_tree_knots", s_law_tree_knots) := by
  obtain ⟨fd, F⟩ := c.def_ 56 (d := ds_law_tree_knots) rfl
  exact ⟨_, fd, F, He.glo_ok X G (c.fact 52 (f := .glo "_law_tree_knots") rfl)⟩
theorem tpf__law_twin_table (X : K.In h) (G : h.Ns PySem.mainGlobals mg) (c : He.SaysD fa fn K) : HasF K mg ("_law_twin_table", s_law_twin_table) := by
  obtain ⟨fd, F⟩ := c.def_ 57 (d := ds_law_twin_table) rfl
  exact ⟨_, fd, F, He.glo_ok X G (c.fact 53 (f := .glo "_law_twin_table") rfl)⟩
theorem tpf__law_leading_table (X : K.In h) (G : h.Ns PySem.mainGlobals mg) (c : He.SaysD fa fn K) : HasF K mg ("_law_leading_table", s_law_leading_table) := by
  obtain ⟨fd, F⟩ := c.def_ 58 (d := ds_law_leading_table) rfl
  exact ⟨_, fd, F, He.glo_ok X G (c.fact 54 (f := .glo "_law_leading_table") rfl)⟩
theorem tpf__law_cyclic_table (X : K.In h) (G : h.Ns PySem.mainGlobals mg) (c : He.SaysD fa fn K) : HasF K mg ("_law_cyclic_table", s_law_cyclic_table) := by
  obtain ⟨fd, F⟩ := c.def_ 59 (d := ds_law_cyclic_table) rfl
  exact ⟨_, fd, F, He.glo_ok X G (c.fact 55 (f := .glo "_law_cyclic_table") rfl)⟩
theorem tpf__law_any_table (X : K.In h) (G : h.Ns PySem.mainGlobals mg) (c : He.SaysD fa fn K) : HasF K mg ("_law_any_table", s_law_any_table) := by
  obtain ⟨fd, F⟩ := c.def_ 60 (d := ds_law_any_table) rfl
  exact ⟨_, fd, F, He.glo_ok X G (c.fact 56 (f := .glo "_law_any_table") rfl)⟩
theorem tpf__law_bent (X : K.In h) (G : h.Ns PySem.mainGlobals mg) (c : He.SaysD fa fn K) : HasF K mg ("_law_bent", s_law_bent) := by
  obtain ⟨fd, F⟩ := c.def_ 61 (d := ds_law_bent) rfl
  exact ⟨_, fd, F, He.glo_ok X G (c.fact 57 (f := .glo "_law_bent") rfl)⟩
theorem tpf__law_turned (X : K.In h) (G : h.Ns PySem.mainGlobals mg) (c : He.SaysD fa fn K) : HasF K mg ("_law_turned", s_law_turned) := by
  obtain ⟨fd, F⟩ := c.def_ 62 (d := ds_law_turned) rfl
  exact ⟨_, fd, F, He.glo_ok X G (c.fact 58 (f := .glo "_law_turned") rfl)⟩
theorem tpf__law_tree_right (X : K.In h) (G : h.Ns PySem.mainGlobals mg) (c : He.SaysD fa fn K) : HasF K mg ("_law_tree_right", s_law_tree_right) := by
  obtain ⟨fd, F⟩ := c.def_ 63 (d := ds_law_tree_right) rfl
  exact ⟨_, fd, F, He.glo_ok X G (c.fact 59 (f := .glo "_law_tree_right") rfl)⟩
theorem tpf_law (X : K.In h) (G : h.Ns PySem.mainGlobals mg) (c : He.SaysD fa fn K) : HasF K mg ("law", s_law) := by
  obtain ⟨fd, F⟩ := c.def_ 64 (d := ds_law) rfl
  exact ⟨_, fd, F, He.glo_ok X G (c.fact 60 (f := .glo "law") rfl)⟩
theorem tpl0 (X : K.In h) (G : h.Ns PySem.mainGlobals mg) (c : He.SaysD fa fn K) : ∀ q ∈ fnL0, HasF K mg q := (allC (tpf_is_word X G c) (allC (tpf_is_pair_of_words X G c) (allC (tpf_is_table X G c) (allC (tpf_check_kinds X G c) (allC (tpf_is_kind_of X G c) (allC (tpf_together X G c) (allC (tpf_squares_of X G c) (allC (tpf_turned_kinds X G c) (allC (tpf_are_deeds X G c) (allC (tpf_are_twice X G c) (allC (tpf_check_setting X G c) (allC (tpf_row_of X G c) (allC (tpf_kind_in X G c) (allC (tpf_opposite_setting X G c) (allC (tpf_log_in X G c) (allC (tpf_run_log X G c) (allC (tpf_is_tree X G c) (allC (tpf_check_tree X G c) (allC (tpf_parts_of X G c) (allC (tpf_height_in X G c) allN))))))))))))))))))))
theorem tpl1 (X : K.In h) (G : h.Ns PySem.mainGlobals mg) (c : He.SaysD fa fn K) : ∀ q ∈ fnL1, HasF K mg q := (allC (tpf_log_of X G c) (allC (tpf_kind_by X G c) (allC (tpf_height_of X G c) (allC (tpf_size_of X G c) (allC (tpf_knots_in X G c) (allC (tpf_knots_of X G c) (allC (tpf_turned X G c) (allC (tpf_opposite_tree X G c) (allC (tpf__law_purse X G c) (allC (tpf__law_mixed X G c) (allC (tpf__law_draw X G c) (allC (tpf__law_purses X G c) (allC (tpf__law_one_of X G c) (allC (tpf__law_same X G c) (allC (tpf__law_exact X G c) (allC (tpf__law_word X G c) (allC (tpf__law_words X G c) (allC (tpf__law_plain_table X G c) (allC (tpf__law_wide_table X G c) (allC (tpf__law_twofold_table X G c) allN))))))))))))))))))))
theorem tpl2 (X : K.In h) (G : h.Ns PySem.mainGlobals mg) (c : He.SaysD fa fn K) : ∀ q ∈ fnL2, HasF K mg q := (allC (tpf__law_table X G c) (allC (tpf__law_kinds_of X G c) (allC (tpf__law_squares X G c) (allC (tpf__law_setting X G c) (allC (tpf__law_log X G c) (allC (tpf__law_kind X G c) (allC (tpf__law_made_kinds X G c) (allC (tpf__law_made X G c) (allC (tpf__law_tree_log X G c) (allC (tpf__law_tree_parts X G c) (allC (tpf__law_tree_height X G c) (allC (tpf__law_drawn_tree X G c) (allC (tpf__law_tree_knots X G c) (allC (tpf__law_twin_table X G c) (allC (tpf__law_leading_table X G c) (allC (tpf__law_cyclic_table X G c) (allC (tpf__law_any_table X G c) (allC (tpf__law_bent X G c) (allC (tpf__law_turned X G c) (allC (tpf__law_tree_right X G c) allN))))))))))))))))))))
theorem tpl3 (X : K.In h) (G : h.Ns PySem.mainGlobals mg) (c : He.SaysD fa fn K) : ∀ q ∈ fnL3, HasF K mg q := (allC (tpf_law X G c) allN)
theorem tplF (X : K.In h) (G : h.Ns PySem.mainGlobals mg) (c : He.SaysD fa fn K) : ∀ x ∈ freeL, mg x = none := (allC (He.free_ok X G (c.fact 63 (f := .free "all") rfl)) (allC (He.free_ok X G (c.fact 64 (f := .free "any") rfl)) (allC (He.free_ok X G (c.fact 65 (f := .free "bool") rfl)) (allC (He.free_ok X G (c.fact 66 (f := .free "dict") rfl)) (allC (He.free_ok X G (c.fact 67 (f := .free "enumerate") rfl)) (allC (He.free_ok X G (c.fact 68 (f := .free "int") rfl)) (allC (He.free_ok X G (c.fact 69 (f := .free "isinstance") rfl)) (allC (He.free_ok X G (c.fact 70 (f := .free "len") rfl)) (allC (He.free_ok X G (c.fact 71 (f := .free "list") rfl)) (allC (He.free_ok X G (c.fact 72 (f := .free "max") rfl)) (allC (He.free_ok X G (c.fact 73 (f := .free "min") rfl)) (allC (He.free_ok X G (c.fact 74 (f := .free "range") rfl)) (allC (He.free_ok X G (c.fact 75 (f := .free "reversed") rfl)) (allC (He.free_ok X G (c.fact 76 (f := .free "sorted") rfl)) (allC (He.free_ok X G (c.fact 77 (f := .free "str") rfl)) (allC (He.free_ok X G (c.fact 78 (f := .free "sum") rfl)) (allC (He.free_ok X G (c.fact 79 (f := .free "tuple") rfl)) (allC (He.free_ok X G (c.fact 80 (f := .free "zip") rfl)) allN))))))))))))))))))
theorem ic_K (c : He.SaysD fa fn K) (e : icB K (He.ga K "Kinds") = true) : C8.InsC K (He.ga K "Kinds") := by
  unfold icB at e
  obtain ⟨e1, e⟩ := He.ba e
  obtain ⟨e2, e⟩ := He.ba e
  obtain ⟨e3, e⟩ := He.ba e
  obtain ⟨e4, e5⟩ := He.ba e
  exact ⟨He.cls_ok (c.fact 82 (f := .cls "Kinds") rfl), He.eqO_ok e1, He.eqO_ok e2, of_decide_eq_true e3, of_decide_eq_true e4, of_decide_eq_true e5⟩
theorem ic_S (c : He.SaysD fa fn K) (e : icB K (He.ga K "Setting") = true) : C8.InsC K (He.ga K "Setting") := by
  unfold icB at e
  obtain ⟨e1, e⟩ := He.ba e
  obtain ⟨e2, e⟩ := He.ba e
  obtain ⟨e3, e⟩ := He.ba e
  obtain ⟨e4, e5⟩ := He.ba e
  exact ⟨He.cls_ok (c.fact 83 (f := .cls "Setting") rfl), He.eqO_ok e1, He.eqO_ok e2, of_decide_eq_true e3, of_decide_eq_true e4, of_decide_eq_true e5⟩
theorem tp (X : K.In h) (G : h.Ns PySem.mainGlobals mg) (ex : extraB K = true) (c : He.SaysD fa fn K) : Tp K mg (adOf K) := by
  unfold extraB at ex
  obtain ⟨ex, e3⟩ := He.ba ex
  obtain ⟨e1, e2⟩ := He.ba ex
  obtain ⟨e4, e5⟩ := He.ba e3
  have mK := He.mkr_ok (c.fact 84 (f := .mkr "Kinds") rfl)
  have mS := He.mkr_ok (c.fact 85 (f := .mkr "Setting") rfl)
  have qK := He.meth_ok (c.fact 86 (f := .meth "Kinds" "__eq__") rfl)
  have qS := He.meth_ok (c.fact 87 (f := .meth "Setting" "__eq__") rfl)
  refine {
    fn := fun i x st hi => ?_
    free := fun i x hi => tplF X G c x (List.mem_of_getElem? hi)
    letters := He.str_ok X G (c.fact 81 (f := .str "LETTERS" "abcdefghijklmnopqrstuvwxyz") rfl)
    mgK := He.glo_ok X G (c.fact 61 (f := .glo "Kinds") rfl)
    mgS := He.glo_ok X G (c.fact 62 (f := .glo "Setting") rfl)
    clK := He.cls_ok (c.fact 82 (f := .cls "Kinds") rfl)
    clS := He.cls_ok (c.fact 83 (f := .cls "Setting") rfl)
    mkK := mK
    mkS := mS
    eqK := ⟨qK.at_, qK.fn⟩
    eqS := ⟨qS.at_, qS.fn⟩
    neS := ⟨He.eqO_ok e1, of_decide_eq_true e2⟩
    inK := by obtain ⟨fd, F⟩ := c.def_ 3 (d := ds_Kinds_init_) rfl; exact ⟨fd, F⟩
    inS := by obtain ⟨fd, F⟩ := c.def_ 12 (d := ds_Setting_init_) rfl; exact ⟨fd, F⟩
    qK := by obtain ⟨fd, F⟩ := c.def_ 4 (d := ds_Kinds_eq_) rfl; exact ⟨fd, F⟩
    qS := by obtain ⟨fd, F⟩ := c.def_ 13 (d := ds_Setting_eq_) rfl; exact ⟨fd, F⟩
    nTold := He.noat_ok (c.fact 88 (f := .noat "Kinds" "told") rfl)
    nNames := He.noat_ok (c.fact 89 (f := .noat "Kinds" "names") rfl)
    nSorts := He.noat_ok (c.fact 90 (f := .noat "Setting" "sorts") rfl)
    nNamed := He.noat_ok (c.fact 91 (f := .noat "Setting" "named") rfl)
    nAgain := He.noat_ok (c.fact 92 (f := .noat "Setting" "again") rfl)
    nKnown := He.noat_ok (c.fact 93 (f := .noat "Setting" "known") rfl)
    isK := mK.kp
    isS := mS.kp
    icK := ic_K c e4
    icS := ic_S c e5 }
  have m := List.mem_of_getElem? hi
  have all : HasF K mg (x, st) := by
    rcases List.mem_append.mp m with m | m
    · exact tpl0 X G c _ m
    · rcases List.mem_append.mp m with m | m
      · exact tpl1 X G c _ m
      · rcases List.mem_append.mp m with m | m
        · exact tpl2 X G c _ m
        · exact tpl3 X G c _ m
  exact all
end
section
variable {P : Program} {w : World} {K : PySem.W.Frag} {mg : Str → Option Value} {base : Heap} {a : Ad} {n : Nat}
theorem d_drawns (T : Tp K mg a) (D1 : DfDraw P w K mg base n) (D2 : Df P w K mg base n "_law_one_of" ["_law_purse_here", "_law_some"] spOneOf) (D3 : Df P w K mg base n "_law_squares" ["_law_table_here"] spSq_)
    (D4 : Df P w K mg base n "_law_kind" ["_law_setting_here", "_law_log_here"] spKind) : ∀ m, Df P w K mg base (n + m + 1) "_law_drawn_tree" ["_law_purse_here", "_law_setting_here", "_law_log_here"] (spDt m)
  | 0 => df_mk T 51 rfl sc_law_drawn_tree bd_law_drawn_tree (fun vs H Q E ⟨p, s, l, k, g, log, _, _, _, _, _, _, _, _, _, ft, _⟩ => absurd ft (Nat.not_lt_zero _)) fun f cdv A outer s H vs Q E hr ⟨p, s', l, k, g, log, _, _, _, _, _, _, _, _, _, ft, _⟩ => absurd ft (Nat.not_lt_zero _)
  | m + 1 => d_drawn_tree T (Df.mono D1 (by omega)) (Df.mono D2 (by omega)) (Df.mono D3 (by omega)) (Df.mono D4 (by omega)) (d_drawns T D1 D2 D3 D4 m)
theorem d_bents (T : Tp K mg a) (D1 : DfDraw P w K mg base n) (D2 : Df P w K mg base n "_law_one_of" ["_law_purse_here", "_law_some"] spOneOf) (D3 : Df P w K mg base n "_law_kinds_of" ["_law_table_here"] spKo_)
    (D4 : Df P w K mg base n "_law_tree_parts" ["_law_tree"] spTp) : ∀ m, Df P w K mg base (n + m + 1) "_law_bent" ["_law_purse_here", "_law_setting_here", "_law_tree"] (spBt m)
  | 0 => df_mk T 57 rfl sc_law_bent bd_law_bent (fun vs H Q E ⟨p, s, v, k, g, t, _, _, _, _, _, _, ft, _⟩ => absurd ft.dp (Nat.not_lt_zero _)) fun f cdv A outer s H vs Q E hr ⟨p, s', v, k, g, t, _, _, _, _, _, _, ft, _⟩ => absurd ft.dp (Nat.not_lt_zero _)
  | m + 1 => d_bent T (Df.mono D1 (by omega)) (Df.mono D3 (by omega)) (Df.mono D2 (by omega)) (Df.mono D4 (by omega)) (d_bents T D1 D2 D3 D4 m)
/-- a method at a higher level -/
theorem up_fn {f : Addr} {ps : List Str} {sp : Sp} {j k : Nat} (D : ∃ fd, FnOk P w K mg base CX0 j f fd ps sp ∧ Binds K fd ps []) (h : j ≤ k) : ∃ fd, FnOk P w K mg base CX0 k f fd ps sp ∧ Binds K fd ps [] := by
  obtain ⟨fd, F, b⟩ := D
  exact ⟨fd, F.mono h, b⟩
theorem law_ok (T : Tp K mg a) {f : Addr} {fd : FuncData} (F : FnP K "law" "law" s_law f fd) : FnOk P w K mg base CX0 33 f fd ["_law_script"] (spLaw K) := by
  have iw := d_is_word (P := P) (w := w) (base := base) (n := 0) T
  have ip := d_is_pair (n := 1) T iw
  have it := d_is_table (n := 2) T (iw.mono (by decide)) ip
  have ki := d_Ki (n := 3) T it
  have ke := d_Ke (P := P) (w := w) (base := base) (n := 0) T
  have ck := d_check_kinds (P := P) (w := w) (base := base) (n := 0) T
  have iko := d_is_kind_of (P := P) (w := w) (base := base) (n := 0) T
  have tog := d_together (P := P) (w := w) (base := base) (n := 0) T
  have sqs := d_squares_of (P := P) (w := w) (base := base) (n := 0) T
  have tk := d_turned_kinds (n := 4) T ki
  have adz := d_are_deeds (n := 1) T iw iko
  have atw := d_are_twice (n := 1) T iko sqs
  have si := d_Si (n := 2) T (ck.mono (by decide)) adz atw
  have se := d_Se (n := 1) T ke
  have cks := d_check_setting (P := P) (w := w) (base := base) (n := 0) T
  have row := d_row_of (P := P) (w := w) (base := base) (n := 0) T
  have kin := d_kind_in (n := 1) T row tog
  have os := d_opposite_setting (n := 5) T (cks.mono (by decide)) tk (up_fn si (by decide))
  have lg := d_logs (n := 2) T kin (sqs.mono (by decide)) 12
  have ist := d_is_tree (n := 27) T (cks.mono (by decide)) lg
  have ckt := d_check_tree (n := 27) T (cks.mono (by decide)) lg
  have lo := d_log_of (n := 28) T ckt (lg.mono (by decide))
  have kb := d_kind_by (n := 28) T ckt (kin.mono (by decide)) (lg.mono (by decide))
  have po := d_parts_of (P := P) (w := w) (base := base) (n := 0) T
  have hi := d_heights (n := 1) T po 12
  have kn := d_knotss (n := 1) T po 12 (by decide)
  have tu := d_turneds (P := P) (w := w) (base := base) (n := 0) T 12
  have ho := d_height_of (n := 28) T ckt (hi.mono (by decide))
  have ko := d_knots_of (n := 28) T ckt (kn.mono (by decide))
  have ot := d_opposite_tree (n := 28) T ckt (tu.mono (by decide))
  have ltp := d_tree_parts (P := P) (w := w) (base := base) (n := 0) T
  have lth := d_tree_heights (n := 1) T ltp 12
  have ltu := d_lturneds (n := 1) T ltp 12
  have ltk := d_tree_knotss (n := 1) T ltp 12 (by decide)
  have sm := d_sames (P := P) (w := w) (base := base) (n := 0) T 30
  have exa := d_exacts (P := P) (w := w) (base := base) (n := 0) T 30
  have kof := d_kinds_of (P := P) (w := w) (base := base) (n := 0) T
  have lsq := d_squares (n := 1) T kof
  have lki := d_kind (P := P) (w := w) (base := base) (n := 0) T
  have ltl := d_tree_logs (n := 2) T lsq (lki.mono (by decide)) 12
  have tr := d_tree_right (n := 31) (m := 12) (by decide) T exa (lki.mono (by decide)) sm (lth.mono (by decide)) (ltk.mono (by decide)) (ltl.mono (by decide)) (ltu.mono (by decide)) (ho.mono (by decide)) (ist.mono (by decide)) (kb.mono (by decide)) (ko.mono (by decide)) (lo.mono (by decide)) (os.mono (by decide)) (ot.mono (by decide))
  have mx := d_mixed (P := P) (w := w) (base := base) (n := 0) T
  have dr := d_draw (n := 1) T mx
  have pu := d_purse (P := P) (w := w) (base := base) (n := 0) T
  have pus := d_purses (n := 1) T pu
  have oo := d_one_of (n := 2) T dr
  have wo := d_word (n := 2) T dr
  have wos := d_words (n := 3) T (Df.mono dr (by decide)) wo
  have pl := d_plain (P := P) (w := w) (base := base) (n := 0) T
  have cy := d_cyclic (P := P) (w := w) (base := base) (n := 0) T
  have tf := d_twofold (P := P) (w := w) (base := base) (n := 0) T
  have twi := d_twin (P := P) (w := w) (base := base) (n := 0) T
  have wi := d_wide (P := P) (w := w) (base := base) (n := 0) T
  have le := d_leading (P := P) (w := w) (base := base) (n := 0) T
  have an := d_any (n := 2) T dr (cy.mono (by decide))
  have tb := d_table (n := 4) T (Df.mono dr (by decide)) (an.mono (by decide)) (le.mono (by decide)) (pl.mono (by decide)) (twi.mono (by decide)) (tf.mono (by decide)) (wi.mono (by decide)) wos
  have st := d_setting (n := 5) T (Df.mono dr (by decide)) (kof.mono (by decide)) (oo.mono (by decide)) (lsq.mono (by decide)) tb (wos.mono (by decide))
  have llg := d_log (n := 3) T (Df.mono dr (by decide)) oo
  have dt := d_drawns (n := 3) T (Df.mono dr (by decide)) oo (lsq.mono (by decide)) (lki.mono (by decide)) 11
  have bt := d_bents (n := 3) T (Df.mono dr (by decide)) oo (kof.mono (by decide)) (ltp.mono (by decide)) 11
  have mk := d_made_kinds (n := 4) T ki
  have md := d_made (n := 4) T ki (up_fn si (by decide))
  refine fn_mk F sc_law (fun vs H Q E h => ?_) (d_law (n := 31) T (up_fn si (by decide)) (up_fn se (by decide)) (Df.mono dr (by decide)) (pus.mono (by decide)) (st.mono (by decide)) (mk.mono (by decide)) (md.mono (by decide)) (llg.mono (by decide)) (dt.mono (by decide)) (bt.mono (by decide)) tr)
  obtain ⟨s, ns, rfl, _⟩ := h
  rfl
end
theorem facts {P : Program} {w : World} {K : PySem.W.Frag} {h : Heap} {mg : Str → Option Value} {f : Addr} (X : K.In h) (G : h.Ns PySem.mainGlobals mg) (hfa : mg ("law" : Str) = some (.ref f)) (ex : extraB K = true) (c : He.SaysD fa fn K) :
    ∃ fd : FuncData, (∀ (s : Shared) (v : Value), BindsTo s fd ⟨[v], []⟩ [("_law_script", v)]) ∧ ∀ base : Heap, K.In base → base.Ns PySem.mainGlobals mg → FnOk P w K mg base CX0 33 f fd ["_law_script"] (spLaw K) := by
  obtain ⟨fd, F⟩ := c.def_ 64 (d := ds_law) rfl
  have e := hfa.symm.trans (He.glo_ok X G (c.fact 60 (f := .glo "law") rfl))
  cases e
  have b := FunD.bindsA (ps := ["_law_script"]) F fun _ _ _ _ _ _ us hl => match us, hl with | [_], _ => rfl
  exact ⟨fd, fun s v => b s [v] rfl, fun base _ _ => law_ok (tp X G ex c) F⟩
end K12
open PySem PySem.W PySem.Calls PyProof.Rows
theorem PySem.Challenge.cw_kindtwice_k12_whole_trees_judged_holds : PySem.Challenge.rw_kindtwice_k12_whole_trees_judged.Holds := by
  w_on; o_law
  refine HandSHeadRun.head_any (r := K12.R) (q := view K12.R.prog [77]) (H := K12.hk) (ob := K12.ob) (M := 6000) (loose := K12.nm) (d := HandSHeadRun.topDef K12.R.prog 77) (kwd := []) K12.ob_eq
    (by kernel_rfl) (fun s => by kernel_rfl) K12.run (by kernel_rfl) (by kernel_rfl) (by kernel_rfl) (by rfl) (by first | assumption | decide +kernel) (by decide +kernel) ⟨rfl, rfl, rfl, rfl, rfl, by decide +kernel⟩ ?hw ?hc
  case hw => w_witness2
  case hc =>
    refine L2.walk_ofE (l := PySem.Challenge.rw_kindtwice_k12_whole_trees_judged) (n := 63) (k := 33) (x := "_law_script") (CX := L2.CX0) rfl (by decide) (by kernel_rfl) ⟨rfl, by decide, by decide⟩ ?F (fun _ _ _ _ z => z)
    intro w mg fa h Y G hmg0
    obtain ⟨K, KX, ex, c⟩ := Y
    have hmg : mg ("law" : PySem.Str) = some (.ref fa) := by
      have e : (HandSHeadRun.topDef K12.R.prog 77).name = ("law" : PySem.Str) := by kernel_rfl
      rw [← e]
      exact hmg0
    obtain ⟨fd, hb, hF⟩ := K12.facts (P := (PySem.Challenge.rw_kindtwice_k12_whole_trees_judged).prog) (w := w) KX G hmg ex c
    exact ⟨K, fd, K12.spLaw K, KX, hb, fun H a ns hl _ hS => ⟨a, ns, rfl, hS, fun _ => rfl⟩, hF⟩
