import PyProof.Rows.All
import Wide.All
import OpenK.AllK
import Wide.FinOn
import Lean
import PySem.Challenge.RW_xw0301_01
open PySem PySem.W PyProof.Rows PySem.Spec
set_option Elab.async false
set_option maxRecDepth 100000
set_option maxHeartbeats 8000000
namespace Mine
open_top hd for PySem.Challenge.rw_xw0301_01
local macro_rules | `(tactic| walk_at $s:str) => `(tactic| k_extra $s)
local macro_rules | `(tactic| k_mem) => `(tactic| first | ktr_member | exact List.mem_cons_self | (refine List.mem_cons_of_mem _ ?_; k_mem))
inductive HT where
  | nil
  | node (x vl : Nat) (k rk : Int) (l r : HT)
def HT.size : HT → Nat
  | .nil => 0
  | .node _ _ _ _ l r => l.size + r.size + 1
def HT.rank : HT → Int
  | .nil => 0
  | .node _ _ _ rk _ _ => rk
def HT.vls : HT → List Nat
  | .nil => []
  | .node _ vl _ _ l r => vl :: (l.vls ++ r.vls)
def HT.keys : HT → List Int
  | .nil => []
  | .node _ _ k _ l r => k :: (l.keys ++ r.keys)
def mkT (x vl : Nat) (k : Int) (l m : HT) : HT := if m.rank > l.rank then .node x vl k (l.rank + 1) m l else .node x vl k (m.rank + 1) l m
def merge : HT → HT → HT
  | .nil, t => t
  | .node x vl k rk l r, .nil => .node x vl k rk l r
  | .node x vl k rk l r, .node x' vl' k' rk' l' r' =>
    if k' < k then mkT x' vl' k' l' (merge r' (.node x vl k rk l r)) else mkT x vl k l (merge r (.node x' vl' k' rk' l' r'))
termination_by a b => a.size + b.size
decreasing_by all_goals (simp only [HT.size]; omega)
theorem merge_nil_l (t : HT) : merge .nil t = t := by rw [merge]
theorem merge_nil_r (t : HT) : merge t .nil = t := by cases t <;> rw [merge]
theorem merge_lt {x vl : Nat} {k rk : Int} {l r : HT} {x' vl' : Nat} {k' rk' : Int} {l' r' : HT} (h : k' < k) : merge (.node x vl k rk l r) (.node x' vl' k' rk' l' r') = mkT x' vl' k' l' (merge r' (.node x vl k rk l r)) := by
  rw [merge, if_pos h]
theorem merge_ge {x vl : Nat} {k rk : Int} {l r : HT} {x' vl' : Nat} {k' rk' : Int} {l' r' : HT} (h : ¬ k' < k) : merge (.node x vl k rk l r) (.node x' vl' k' rk' l' r') = mkT x vl k l (merge r (.node x' vl' k' rk' l' r')) := by
  rw [merge, if_neg h]
theorem mk_vls (x vl : Nat) (k : Int) (l m : HT) : (mkT x vl k l m).vls.Perm (vl :: (l.vls ++ m.vls)) := by
  unfold mkT
  split
  · exact List.Perm.cons _ List.perm_append_comm
  · exact List.Perm.refl _
theorem mk_keys (x vl : Nat) (k : Int) (l m : HT) : (mkT x vl k l m).keys.Perm (k :: (l.keys ++ m.keys)) := by
  unfold mkT
  split
  · exact List.Perm.cons _ List.perm_append_comm
  · exact List.Perm.refl _
theorem mk_size (x vl : Nat) (k : Int) (l m : HT) : (mkT x vl k l m).size = l.size + m.size + 1 := by
  unfold mkT
  split <;> simp only [HT.size] <;> omega
theorem merge_vls : ∀ (n : Nat) (a b : HT), a.size + b.size ≤ n → (merge a b).vls.Perm (a.vls ++ b.vls)
  | n, .nil, b, _ => by rw [merge_nil_l]; exact List.Perm.refl _
  | n, .node x vl k rk l r, .nil, _ => by rw [merge_nil_r]; simp [HT.vls]
  | 0, .node x vl k rk l r, .node x' vl' k' rk' l' r', h => by simp only [HT.size] at h; omega
  | n + 1, .node x vl k rk l r, .node x' vl' k' rk' l' r', h => by
    by_cases c : k' < k
    · rw [merge_lt c]
      refine (mk_vls ..).trans ?_
      have ih := merge_vls n r' (.node x vl k rk l r) (by simp only [HT.size] at h ⊢; omega)
      refine (List.Perm.cons _ (List.Perm.append_left _ ih)).trans ?_
      rw [show (HT.node x' vl' k' rk' l' r').vls = vl' :: (l'.vls ++ r'.vls) from rfl]
      refine List.Perm.trans ?_ (List.perm_middle.symm)
      refine List.Perm.cons _ ?_
      rw [← List.append_assoc]
      exact List.perm_append_comm
    · rw [merge_ge c]
      refine (mk_vls ..).trans ?_
      have ih := merge_vls n r (.node x' vl' k' rk' l' r') (by simp only [HT.size] at h ⊢; omega)
      refine (List.Perm.cons _ (List.Perm.append_left _ ih)).trans ?_
      rw [show (HT.node x vl k rk l r).vls = vl :: (l.vls ++ r.vls) from rfl, ← List.append_assoc]
      exact List.Perm.refl _
theorem merge_keys : ∀ (n : Nat) (a b : HT), a.size + b.size ≤ n → (merge a b).keys.Perm (a.keys ++ b.keys)
  | n, .nil, b, _ => by rw [merge_nil_l]; exact List.Perm.refl _
  | n, .node x vl k rk l r, .nil, _ => by rw [merge_nil_r]; simp [HT.keys]
  | 0, .node x vl k rk l r, .node x' vl' k' rk' l' r', h => by simp only [HT.size] at h; omega
  | n + 1, .node x vl k rk l r, .node x' vl' k' rk' l' r', h => by
    by_cases c : k' < k
    · rw [merge_lt c]
      refine (mk_keys ..).trans ?_
      have ih := merge_keys n r' (.node x vl k rk l r) (by simp only [HT.size] at h ⊢; omega)
      refine (List.Perm.cons _ (List.Perm.append_left _ ih)).trans ?_
      rw [show (HT.node x' vl' k' rk' l' r').keys = k' :: (l'.keys ++ r'.keys) from rfl]
      refine List.Perm.trans ?_ (List.perm_middle.symm)
      refine List.Perm.cons _ ?_
      rw [← List.append_assoc]
      exact List.perm_append_comm
    · rw [merge_ge c]
      refine (mk_keys ..).trans ?_
      have ih := merge_keys n r (.node x' vl' k' rk' l' r') (by simp only [HT.size] at h ⊢; omega)
      refine (List.Perm.cons _ (List.Perm.append_left _ ih)).trans ?_
      rw [show (HT.node x vl k rk l r).keys = k :: (l.keys ++ r.keys) from rfl, ← List.append_assoc]
      exact List.Perm.refl _
theorem keys_length : ∀ t : HT, t.keys.length = t.size
  | .nil => rfl
  | .node _ _ _ _ l r => by simp only [HT.keys, HT.size, List.length_cons, List.length_append, keys_length l, keys_length r]
theorem merge_size (a b : HT) : (merge a b).size = a.size + b.size := by
  rw [← keys_length, (merge_keys _ a b (Nat.le_refl _)).length_eq, List.length_append, keys_length, keys_length]
/-- none is less than the least, the ranks are right -/
def Good : Int → HT → Prop
  | _, .nil => True
  | least, .node _ _ k rk l r => least ≤ k ∧ rk = r.rank + 1 ∧ r.rank ≤ l.rank ∧ Good k l ∧ Good k r
theorem Good.mono {a b : Int} (h : a ≤ b) : ∀ {t : HT}, Good b t → Good a t
  | .nil, _ => trivial
  | .node .., g => ⟨Int.le_trans h g.1, g.2⟩
theorem Good.rank0 : ∀ {a : Int} {t : HT}, Good a t → 0 ≤ t.rank
  | _, .nil, _ => Int.le_refl 0
  | _, .node _ _ _ rk l r, g => by
    have := Good.rank0 g.2.2.2.2
    show 0 ≤ rk
    have h := g.2.1
    omega
theorem mk_good {a k : Int} {x vl : Nat} {l m : HT} (ha : a ≤ k) (hl : Good k l) (hm : Good k m) : Good a (mkT x vl k l m) := by
  unfold mkT
  split
  · rename_i h; exact ⟨ha, rfl, by omega, hm, hl⟩
  · rename_i h; exact ⟨ha, rfl, by omega, hl, hm⟩
theorem merge_good : ∀ (n : Nat) (a : Int) (t u : HT), t.size + u.size ≤ n → Good a t → Good a u → Good a (merge t u)
  | n, a, .nil, u, _, _, g => by rw [merge_nil_l]; exact g
  | n, a, .node x vl k rk l r, .nil, _, g, _ => by rw [merge_nil_r]; exact g
  | 0, a, .node x vl k rk l r, .node x' vl' k' rk' l' r', h, _, _ => by simp only [HT.size] at h; omega
  | n + 1, a, .node x vl k rk l r, .node x' vl' k' rk' l' r', h, g, g' => by
    by_cases c : k' < k
    · rw [merge_lt c]
      refine mk_good g'.1 g'.2.2.2.1 (merge_good n _ _ _ (by simp only [HT.size] at h ⊢; omega) g'.2.2.2.2 ⟨by omega, g.2⟩)
    · rw [merge_ge c]
      refine mk_good g.1 g.2.2.2.1 (merge_good n _ _ _ (by simp only [HT.size] at h ⊢; omega) g.2.2.2.2 ⟨by omega, g'.2⟩)
theorem two_pow_le {a b : Nat} (h : a ≤ b) : (2 : Int) ^ a ≤ (2 : Int) ^ b := by
  have := Int.ofNat_le.mpr (Nat.pow_le_pow_right (n := 2) (by decide) h)
  simpa using this
/-- two to the power of the rank is at most one more than the things -/
theorem Good.pow : ∀ {a : Int} {t : HT}, Good a t → (2 : Int) ^ t.rank.toNat ≤ t.size + 1
  | _, .nil, _ => by simp [HT.rank, HT.size]
  | _, .node _ _ _ rk l r, g => by
    have hl := Good.pow g.2.2.2.1
    have hr := Good.pow g.2.2.2.2
    have r0 := Good.rank0 g.2.2.2.2
    have e : rk.toNat = r.rank.toNat + 1 := by have := g.2.1; omega
    have le : (2 : Int) ^ r.rank.toNat ≤ (2 : Int) ^ l.rank.toNat := two_pow_le (by have := g.2.2.1; omega)
    show (2 : Int) ^ rk.toNat ≤ ((l.size + r.size + 1 : Nat) : Int) + 1
    rw [e, Int.pow_succ]
    omega
theorem Good.rank_le : ∀ {a : Int} {t : HT}, Good a t → t.rank ≤ t.size
  | _, .nil, _ => Int.le_refl 0
  | _, .node _ _ _ rk l r, g => by
    have := Good.rank_le g.2.2.2.2
    have h := g.2.1
    show rk ≤ ((l.size + r.size + 1 : Nat) : Int)
    omega
theorem Good.all : ∀ {a : Int} {t : HT}, Good a t → ∀ k ∈ t.keys, a ≤ k
  | _, .nil, _, _, h => nomatch h
  | _, .node _ _ k _ l r, g, q, h => by
    rcases List.mem_cons.mp h with rfl | h
    · exact g.1
    · rcases List.mem_append.mp h with h | h
      · exact Int.le_trans g.1 (Good.all g.2.2.2.1 q h)
      · exact Int.le_trans g.1 (Good.all g.2.2.2.2 q h)
section
local macro_rules | `(tactic| k_room) => `(tactic| first | assumption | ktr_room)
local macro_rules | `(tactic| ktr_room) => `(tactic| assumption)
abbrev flds (k : Nat → Tok) : List Value := [.str (Str.ofString "KEY") (k 0), .str (Str.ofString "LEFT") (k 1), .str (Str.ofString "RIGHT") (k 2), .str (Str.ofString "RANK") (k 3)]
abbrev nodeD (a : Nat → Int) (t : Nat → Tok) (v : Nat → Value) (fl vl : Addr) : List DictEntry :=
  [⟨a 0, .str (Str.ofString "word") (t 0), v 0⟩, ⟨a 1, .str (Str.ofString "number") (t 1), v 1⟩, ⟨a 2, .str (Str.ofString "mark") (t 2), v 2⟩, ⟨a 3, .str (Str.ofString "fields") (t 3), .ref fl⟩, ⟨a 4, .str (Str.ofString "values") (t 4), .ref vl⟩]
abbrev refD (a : Nat → Int) (t : Nat → Tok) (kd : Value) (x : Addr) (j : Nat) : List DictEntry :=
  [⟨a 0, .str (Str.ofString "kind") (t 0), kd⟩, ⟨a 1, .str (Str.ofString "owner") (t 1), .ref x⟩, ⟨a 2, .str (Str.ofString "key") (t 2), .int (j : Nat) (t 3)⟩]
inductive Fld : Str → Nat → Prop
  | key : Fld (Str.ofString "KEY") 0
  | left : Fld (Str.ofString "LEFT") 1
  | right : Fld (Str.ofString "RIGHT") 2
  | rank : Fld (Str.ofString "RANK") 3
theorem Fld.lt {f : Str} {j : Nat} (H : Fld f j) : j < 4 := by cases H <;> decide
abbrev fldNames : List Str := [Str.ofString "KEY", Str.ofString "LEFT", Str.ofString "RIGHT", Str.ofString "RANK"]
theorem flds_are (k : Nat → Tok) : StrsAre (flds k) fldNames := .cons _ _ (.cons _ _ (.cons _ _ (.cons _ _ .nil)))
/-- the ledger bears a thing of the kind HEAP at x, its values' list at vl -/
def Node (news : List (Addr × Obj)) (x vl : Addr) (vs : List Value) : Prop :=
  ∃ (dx fl : Addr) (a : Nat → Int) (t k : Nat → Tok) (v : Nat → Value) (n : Nat → Nat),
    (x, instObj 204 dx) ∈ news ∧ (dx, dictOf (nodeD a t v fl vl) (n 0)) ∈ news ∧ (fl, W.listOf (flds k).toArray (n 1)) ∈ news ∧ (vl, W.listOf vs.toArray (n 2)) ∈ news
/-- the ledger bears a name of the field at place j of x -/
def RefTo (news : List (Addr × Obj)) (r x : Addr) (j : Nat) : Prop :=
  ∃ (dr : Addr) (a : Nat → Int) (t : Nat → Tok) (kd : Value) (n : Nat), (r, instObj 117 dr) ∈ news ∧ (dr, dictOf (refD a t kd x j) n) ∈ news
theorem room_0 {R dp c d : Nat} (h : dp + (20 + c + d) < R) : dp < R ∧ dp + 1 + 10 < R ∧ dp + 1 + 11 < R := by omega
theorem room_a {R dp a b c : Nat} (h : dp + (20 + (a + b + 1) + c) < R) : dp + 1 + (20 + b + c) < R := by omega
theorem room_b {R dp a b c : Nat} (h : dp + (20 + c + (a + b + 1)) < R) : dp + 1 + (20 + b + c) < R := by omega
theorem size_a {n a b c : Nat} (h : (a + b + 1) + c < n + 1) : b + c < n := by omega
theorem size_b {n a b c : Nat} (h : c + (a + b + 1) < n + 1) : b + c < n := by omega
theorem rooms {dp : Nat} (h : dp + 10 < recursionLimit) : dp < recursionLimit ∧ dp + 1 < recursionLimit ∧ dp + 1 + 1 < recursionLimit ∧ dp + 1 + 1 + 1 < recursionLimit ∧ dp + 1 + 1 + 1 + 1 < recursionLimit ∧ dp + 1 + 1 + 1 + 1 + 1 < recursionLimit := by
  refine ⟨?_, ?_, ?_, ?_, ?_, ?_⟩ <;> omega
section
variable {prog : Program} {w : World} {A : Around} {E : Value → Shared → Prop} {s : Shared} {h₀ h : Heap} {L : Addr} {m : Str → Option Value} {news news' : List (Addr × Obj)}
theorem obj_same (N : News h₀ L h news) {a b : Addr} {o o' : Obj} (h1 : (a, o) ∈ news) (h2 : (b, o') ∈ news) (e : a = b) : o = o' := by
  subst e
  exact Option.some.inj ((N.get h1).symm.trans (N.get h2))
theorem news_tl {p : Addr × Obj} {l : List (Addr × Obj)} (N : News h₀ L h (p :: l)) : News h₀ L h l := fun q hq => N q (.tail _ hq)
theorem fld_in {fld : Str} {j : Nat} (H : Fld fld j) : fldNames.any (· == fld) = true := by cases H <;> decide +kernel
theorem fld_notin {fl : Addr} {k : Nat → Tok} {t : Tok} {n : Nat} {fld : Str} {j : Nat} {Q : Value → Shared → Prop} (N : News h₀ L s.heap news) (hf : (fl, W.listOf (flds k).toArray n) ∈ news) (H : Fld fld j)
    (h : Q (.bool false) s) : wpAny (model prog w) A (compareOp .NotIn (.str fld t) (.ref fl)) Q E s :=
  notin_list_strs (N.isList hf) (flds_are k) (by rw [fld_in H]; exact h)
theorem fld_hit {fld : Str} {j : Nat} (k : Nat → Tok) (H : Fld fld j) : ∀ m (hm : m < 4), isStrOf fld ((flds k).toArray[m]'hm) = decide (m = j) := by
  intro m hm
  have hm' : m = 0 ∨ m = 1 ∨ m = 2 ∨ m = 3 := by omega
  cases H <;> (rcases hm' with rfl | rfl | rfl | rfl <;> (with_unfolding_all rfl))
theorem fld_index {fl : Addr} {k : Nat → Tok} {t : Tok} {n : Nat} {fld : Str} {j : Nat} {Q : Value → Shared → Prop} (N : News h₀ L s.heap news) (hf : (fl, W.listOf (flds k).toArray n) ∈ news) (H : Fld fld j)
    (h : Q (.int (j : Nat) s.toks) { s with toks := s.toks + 1 }) : wpAny (model prog w) A (call (.builtin "list.index") [.ref fl, .str fld t]) Q E s := by
  have ho := N.get hf
  have hj := H.lt
  refine call_meets PySem.F.slot_list_index ⟨_, ho, rfl⟩ PySem.F.entry_list_index (PySem.F.args_list_index_2 _ _)
    (PySem.SeqAt.list_indexAt fl (flds k).toArray n _ _ (.str fld t) (isStrOf fld) j hj (by omega) ((fld_hit k H j hj).trans (decide_eq_true rfl)) (fun m hm hlt => (fld_hit k H m hm).trans (decide_eq_false (Nat.ne_of_lt hlt)))) ⟨ho, fun y hy => (eq_isStrOf fld t (flds_are k) y (by simpa using hy)).at _ _, h⟩
theorem fld_item {vl : Addr} {n : Nat} {j : Nat} {t : Tok} {vs : List Value} {v : Value} {Q : Value → Shared → Prop} {value slice : PySem.Expr} (N : News h₀ L s.heap news) (hf : (vl, W.listOf vs.toArray n) ∈ news) (hj : j < 4) (hv : vs[j]? = some v)
    (h : Q v s) (hb : subscripted slice false (.ref vl) (.int (j : Nat) t) = operate [.ref vl, .int (j : Nat) t] (getItem (.ref vl) (.int (j : Nat) t)) := by with_unfolding_all rfl) :
    wpAny (model prog w) A (subscriptTail value slice (.ref vl) (.int (j : Nat) t)) Q E s := by
  have hl := N.isList hf
  exact tail_any hl.typeIs slot_list_getitem.lookup (wpAny_getItem_list hl (by omega) (by omega) (by simpa using hv) h) hb
theorem set_sym {Q : Unit → Shared → Prop} {vl : Addr} {vs : List Value} {n j : Nat} {t : Tok} {v : Value} (F : Fr h₀ L s.heap m) (N : News h₀ L s.heap news) (hf : (vl, W.listOf vs.toArray n) ∈ news) (hj : j < 4) (h4 : vs.length = 4)
    (h : ∀ h', Fr h₀ L h' m → News h₀ L h' ((vl, W.listOf (vs.set j v).toArray n) :: news.filter (fun p => p.1 != vl)) → Q () {s with heap := h'}) : wpAny (model prog w) A (setItem (.ref vl) (.int (j : Nat) t) v) Q E s := by
  have N' : News h₀ L s.heap ([] ++ (vl, W.listOf vs.toArray n) :: news.filter (fun p => p.1 != vl)) := by
    intro p hp
    rcases List.mem_cons.mp hp with rfl | hp
    · exact N _ hf
    · exact N p (List.mem_filter.mp hp).1
  have z := N _ hf
  have off : ∀ p ∈ news.filter (fun p => p.1 != vl), p.1 ≠ vl := fun p hp => by
    have := (List.mem_filter.mp hp).2
    simpa using this
  have hs : vs.toArray.setIfInBounds j v = (vs.set j v).toArray := by simp
  refine ki_setAt (t := t) z.1 (by omega) (by omega) (by simp [h4]; omega) (h _ (F.change (Heap.SameBut.update ..) z.2.1 z.2.2) (ki_turn (pre := []) (its' := (vs.set j v).toArray) (n' := n) _ N' (fun _ h => nomatch h) off ?_ ?_))
  · simpa using hs
  · simp
theorem mem_off {vl : Addr} {p q : Addr × Obj} (hp : p ∈ news) (h : p.1 ≠ vl) : p ∈ q :: news.filter (fun p => p.1 != vl) := .tail _ (List.mem_filter.mpr ⟨hp, by simpa using h⟩)
variable {x vl r : Addr} {vs : List Value} {j : Nat}
theorem Node.mono (H : Node news x vl vs) (hs : ∀ p ∈ news, p ∈ news') : Node news' x vl vs := by
  obtain ⟨dx, fl, a, t, k, v, n, h1, h2, h3, h4⟩ := H
  exact ⟨dx, fl, a, t, k, v, n, hs _ h1, hs _ h2, hs _ h3, hs _ h4⟩
end
section
variable {w : World} {mean : ExcName → Option Value} {mg mb : Str → Option Value} {dp un : Nat} {gd : Option (List Code)} {cn : Str} {cs : Scope} {a : Addr} {ccd : Value} {cl : List (Str × Addr)} {outer : List Env} {A₀ : Around} {base h₀ : Heap} {L : Addr} {m : Str → Option Value} {news : List (Addr × Obj)} {s : Shared} {Q E : Value → Shared → Prop}
theorem node_notstr {x vl : Addr} {vs : List Value} {A : Around} (X : (Mine.hd.heap_39 w.params).In h₀) (F : Fr h₀ L s.heap m) (N : News h₀ L s.heap news) (hn : Node news x vl vs) (h : Q (.bool false) { s with toks := s.toks + 1 }) :
    wpAny (model PySem.Challenge.rw_xw0301_01.row.prog w) A (call (.builtin "isinstance") [.ref x, .type "str"]) Q E s := by
  obtain ⟨dx, fl, a, t, k, v, n, h1, h2, h3, h4⟩ := hn
  revert X; k_fill; intro X
  k_dflt (refine' kin_callT ?k1 ?k2 ?k3 ?ty ?k4 ?k5 ?k6 ?k7 ?k8 ?k9 ?_; (case k1 => k_in); (case k2 => k_inst); (case k3 => kin_no); (case ty => kernel_rfl); (case k4 => k_is); (case k5 => k_is); (case k6 => k_is); (case k7 => k_is); (case k8 => k_is); (case k9 => k_is); k_whole)
  exact h
theorem field_ref_spec (B : Below A₀ base outer h₀) (F : Fr h₀ L s.heap m) (X : (Mine.hd.heap_39 w.params).In h₀) (N : News h₀ L s.heap news) (T : Top Mine.hd.view_39 (looseW Mine.hd.view_39 [Str.ofString "SnobolError"]) mean mg mb h₀) (hk : cs.kind = .function)
    (hd : dp + 10 < recursionLimit) {x vl : Addr} {vs : List Value} {fld : Str} {j : Nat} {tk : Tok}
    (hn : Node news x vl vs) (H : Fld fld j)
    (ret : ∀ r news' h' tk', Fr h₀ L h' m → News h₀ L h' news' → (∀ p ∈ news, p ∈ news') → RefTo news' r x j → Q (.ref r) {s with heap := h', toks := tk'}) :
    wpAny (model PySem.Challenge.rw_xw0301_01.row.prog w) (ktrTop dp un gd cn cs L a ccd cl outer) (call (.ref 220) [.ref x, .str fld tk]) Q E s := by
  obtain ⟨r0, r1, r2, r3, r4, r5⟩ := rooms hd
  obtain ⟨dx, fl, a', t, k, v, n, h1, h2, h3, h4⟩ := hn
  revert X; k_fill; intro X
  k_with_none
  k_with "compareOp NotIn str ref" => (k_dflt (refine' fld_notin ?N ?m ?H ?_; (case N => k_asm); (case m => k_mem); (case H => assumption); k_whole))
  k_with "call builtin:list.index" => (k_dflt (refine' fld_index ?N ?m ?H ?_; (case N => k_asm); (case m => k_mem); (case H => assumption); k_whole))
  refine wpAny_call ?_
  k_dflt ktr_enter
  k_steps
  all_goals exact ret _ _ _ _ (by k_asm) (by k_asm) (fun _ hp => .tail _ (.tail _ hp)) ⟨_, fun i => [_, _, _].getD i 0, fun i => [_, _, _, _].getD i 0, _, _, .head _, .tail _ (.head _)⟩
theorem slot_set_spec (B : Below A₀ base outer h₀) (F : Fr h₀ L s.heap m) (X : (Mine.hd.heap_39 w.params).In h₀) (N : News h₀ L s.heap news) (T : Top Mine.hd.view_39 (looseW Mine.hd.view_39 [Str.ofString "SnobolError"]) mean mg mb h₀) (hk : cs.kind = .function)
    (hd : dp + 10 < recursionLimit) {r x vl : Addr} {vs : List Value} {v : Value} {j : Nat}
    (hn : Node news x vl vs) (hr : RefTo news r x j) (hj : j < 4) (hl4 : vs.length = 4) {kk : Int} {tt : Tok} (hk0 : vs[0]? = some (.int kk tt))
    (ret : ∀ news' h' tk', Fr h₀ L h' m → News h₀ L h' news' → (∀ p ∈ news, p.1 ≠ vl → p ∈ news') → Node news' x vl (vs.set j v) → Q .none {s with heap := h', toks := tk'}) :
    wpAny (model PySem.Challenge.rw_xw0301_01.row.prog w) (ktrTop dp un gd cn cs L a ccd cl outer) (call (.ref 234) [.ref r, v]) Q E s := by
  obtain ⟨r0, r1, r2, r3, r4, r5⟩ := rooms hd
  obtain ⟨dx, fl, a', t, k, v', n, h1, h2, h3, h4⟩ := hn
  obtain ⟨dr, b, u, kd, nn, g1, g2⟩ := hr
  revert X; k_fill; intro X
  k_with_none
  k_with "setItem ref int" => (k_dflt (refine' set_sym ?F ?N ?m ?H ?v ?_; (case F => k_asm); (case N => k_asm); (case m => k_mem); (case H => assumption); (case v => assumption); k_whole; intro h' F' N'; (try k_sweep)))
  refine wpAny_call ?_
  k_dflt ktr_enter
  k_steps
  have q1 : x ≠ vl := fun e => by
    have z := obj_same N h1 h4 e
    injection z with z
    cases z
  have q2 : dx ≠ vl := fun e => by
    have z := obj_same N h2 h4 e
    injection z with z
    injection z with z
    exact absurd z (by decide)
  have q3 : fl ≠ vl := fun e => by
    have z := obj_same N h3 h4 e
    injection z with _ _ z
    injection z with z
    have z := congrArg Array.toList z
    simp only at z
    subst z
    cases hk0
  exact ret _ _ _ (by k_asm) (by k_asm) (fun _ hp ho => mem_off hp ho) ⟨dx, fl, a', t, k, v', n, mem_off h1 q1, mem_off h2 q2, mem_off h3 q3, .head _⟩
theorem told_node (B : Below A₀ base outer h₀) (F : Fr h₀ L s.heap m) (X : (Mine.hd.heap_39 w.params).In h₀) (N : News h₀ L s.heap news) (T : Top Mine.hd.view_39 (looseW Mine.hd.view_39 [Str.ofString "SnobolError"]) mean mg mb h₀) (hk : cs.kind = .function)
    (hd : dp + 11 < recursionLimit) {x vl : Addr} {vs : List Value} {v : Value} {fld : Str} {j : Nat} {tk : Tok}
    (hn : Node news x vl vs) (H : Fld fld j) (hv : vs[j]? = some v)
    (ret : ∀ h' tk', Fr h₀ L h' m → News h₀ L h' news → Q v {s with heap := h', toks := tk'}) :
    wpAny (model PySem.Challenge.rw_xw0301_01.row.prog w) (ktrTop dp un gd cn cs L a ccd cl outer) (call (.ref 241) [.ref x, .str fld tk]) Q E s := by
  have hd1 : dp + 1 + 10 < recursionLimit := by omega
  have hj := H.lt
  obtain ⟨r1, r2, r3, r4, r5, r6⟩ := rooms hd1
  have r0 : dp < recursionLimit := by omega
  revert X; k_fill; intro X
  k_with_none
  k_with "call builtin:isinstance" => (k_dflt (refine' node_notstr ?X ?F ?N ?hn ?_; (case hn => assumption); (case X => k_asm); (case F => k_asm); (case N => k_asm); k_whole))
  k_with "call ref" => (k_dflt (refine' field_ref_spec ?B ?F ?X ?N ?T ?hk ?hd ?hn ?H ?_; (case hn => assumption); (case H => assumption); (case B => k_asm); (case F => k_asm); (case X => k_asm); (case N => k_asm); (case T => k_asm); (case hk => first | exact rfl | assumption); (case hd => assumption); k_whole; intro r' news' h' tk' F' N' S' R'; (have D' := Node.mono hn S'); (obtain ⟨dx', fl', a', t', k', v', n', h1', h2', h3', h4'⟩ := D'); (obtain ⟨dr', b', u', kd', nn', g1', g2'⟩ := R'); (try k_sweep)))
  k_with "subscriptTail" => ((with_reducible show wpAny _ _ (subscriptTail _ _ (Value.ref _) (Value.int _ _)) _ _ _); k_dflt (refine' fld_item ?N ?m ?H ?v ?_; (case N => k_asm); (case m => k_mem); (case H => assumption); (case v => assumption); k_whole))
  refine wpAny_call ?_
  k_dflt ktr_enter
  k_steps
  (rename News _ _ _ _ => N9)
  exact ret _ _ (by k_asm) (fun p hp => N9 p (S' p hp))
theorem told_str (B : Below A₀ base outer h₀) (F : Fr h₀ L s.heap m) (X : (Mine.hd.heap_39 w.params).In h₀) (N : News h₀ L s.heap news) (T : Top Mine.hd.view_39 (looseW Mine.hd.view_39 [Str.ofString "SnobolError"]) mean mg mb h₀) (hk : cs.kind = .function)
    (hd : dp < recursionLimit) {z fld : Str} {tk t₀ : Tok}
    (ret : ∀ h' tk' t, Fr h₀ L h' m → News h₀ L h' news → Q (.int 0 t) {s with heap := h', toks := tk'}) :
    wpAny (model PySem.Challenge.rw_xw0301_01.row.prog w) (ktrTop dp un gd cn cs L a ccd cl outer) (call (.ref 241) [.str z t₀, .str fld tk]) Q E s := by
  revert X; k_fill; intro X
  k_with_none
  refine wpAny_call ?_
  k_dflt ktr_enter
  k_steps
  all_goals exact ret _ _ _ (by k_asm) (by k_asm)
end
/-- the ledger bears the tree at v -/
inductive Tree (news : List (Addr × Obj)) : Value → HT → Prop
  | nil (z : Str) (t : Tok) : Tree news (.str z t) .nil
  | node {x vl : Addr} {k rk : Int} {t1 t2 : Tok} {lv rv : Value} {l r : HT} : Node news x vl [.int k t1, lv, rv, .int rk t2] → Tree news lv l → Tree news rv r → Tree news (.ref x) (.node x vl k rk l r)
theorem Node.keep {news news' : List (Addr × Obj)} {x vl : Addr} {vs : List Value} (H : Node news x vl vs) (hs : ∀ p ∈ news, p.1 = vl ∨ (∃ C, p.2.cls = .ref C) ∨ p.2.cls = .type "dict" ∨ (∃ k n, p.2 = W.listOf (flds k).toArray n) → p ∈ news') : Node news' x vl vs := by
  obtain ⟨dx, fl, a, t, k, v, n, h1, h2, h3, h4⟩ := H
  exact ⟨dx, fl, a, t, k, v, n, hs _ h1 (.inr (.inl ⟨_, rfl⟩)), hs _ h2 (.inr (.inr (.inl rfl))), hs _ h3 (.inr (.inr (.inr ⟨_, _, rfl⟩))), hs _ h4 (.inl rfl)⟩
/-- a list of values, as a node keeps it, is no list of fields' names, no thing and no dict -/
theorem Tree.vl_list {news : List (Addr × Obj)} : ∀ {v : Value} {t : HT}, Tree news v t → ∀ b ∈ t.vls, ∃ k tk vs n, (b, W.listOf (Value.int k tk :: vs).toArray n) ∈ news
  | _, _, .nil _ _, _, hb => nomatch hb
  | _, _, .node hn hl hr, b, hb => by
    rcases List.mem_cons.mp hb with rfl | hb
    · obtain ⟨dx, fl, a, t, k, v, n, h1, h2, h3, h4⟩ := hn
      exact ⟨_, _, _, _, h4⟩
    · rcases List.mem_append.mp hb with hb | hb
      · exact hl.vl_list b hb
      · exact hr.vl_list b hb
theorem off_of {h₀ h : Heap} {L : Addr} {news : List (Addr × Obj)} (N : News h₀ L h news) {b : Addr} {k : Int} {tk : Tok} {vs : List Value} {n : Nat} (hb : (b, W.listOf (Value.int k tk :: vs).toArray n) ∈ news) {p : Addr × Obj} (hp : p ∈ news)
    (ho : (∃ C, p.2.cls = .ref C) ∨ p.2.cls = .type "dict" ∨ (∃ k n, p.2 = W.listOf (flds k).toArray n)) : p.1 ≠ b := by
  intro e
  obtain ⟨q, o⟩ := p
  have z := obj_same N hp hb e
  rcases ho with ⟨C, hc⟩ | hc | ⟨k', n', hc⟩
  · have hc : o.cls = .ref C := hc
    rw [z] at hc
    cases hc
  · have hc : o.cls = .type "dict" := hc
    rw [z] at hc
    exact absurd (show Value.type "list" = .type "dict" from hc) (by decide)
  · have hc : o = W.listOf (flds k').toArray n' := hc
    rw [z] at hc
    injection hc with _ _ hc
    injection hc with hc
    have hc := congrArg Array.toList hc
    simp at hc
/-- all but the lists of values at ch is kept -/
def Kp (news : List (Addr × Obj)) (ch : List Addr) (news' : List (Addr × Obj)) : Prop := ∀ p ∈ news, p.1 ∉ ch → p ∈ news'
section
variable {h₀ h : Heap} {L : Addr} {news news' news₀ : List (Addr × Obj)} {ch : List Addr} {x vl : Addr} {vs : List Value} {v : Value} {t : HT}
theorem Node.kp (N : News h₀ L h news) (H : Node news x vl vs) (hc : ∀ b ∈ ch, ∃ k tk vs n, (b, W.listOf (Value.int k tk :: vs).toArray n) ∈ news) (hv : vl ∉ ch) (K : Kp news ch news') : Node news' x vl vs := by
  refine H.keep fun p hp ho => K p hp fun hm => ?_
  rcases ho with e | ho
  · exact hv (e ▸ hm)
  · obtain ⟨k, tk, vs, n, hb⟩ := hc _ hm
    exact off_of N hb hp ho rfl
theorem Tree.kp (N : News h₀ L h news) (H : Tree news v t) (hc : ∀ b ∈ ch, ∃ k tk vs n, (b, W.listOf (Value.int k tk :: vs).toArray n) ∈ news) (K : Kp news ch news') (hv : ∀ b ∈ t.vls, b ∉ ch) : Tree news' v t := by
  induction H with
  | nil z t => exact .nil z t
  | node hn _ _ il ir =>
    refine .node (hn.kp N hc (hv _ (.head _)) K) (il fun b hb => hv b (.tail _ (List.mem_append_left _ hb))) (ir fun b hb => hv b (.tail _ (List.mem_append_right _ hb)))
theorem Tree.mono (H : Tree news v t) (hs : ∀ p ∈ news, p ∈ news') : Tree news' v t := by
  induction H with
  | nil z t => exact .nil z t
  | node hn _ _ il ir => exact .node (hn.mono hs) il ir
/-- what is known in the midst of a making -/
structure St (news₀ : List (Addr × Obj)) (ch : List Addr) (news : List (Addr × Obj)) (x vl : Addr) (k : Int) (t1 : Tok) (v1 v2 v3 lv rv : Value) (lt rt : HT) : Prop where
  node : Node news x vl [.int k t1, v1, v2, v3]
  l : Tree news lv lt
  r : Tree news rv rt
  keep : Kp news₀ ch news
  offl : vl ∉ lt.vls
  offr : vl ∉ rt.vls
  inch : vl ∈ ch
variable {k : Int} {t1 : Tok} {v1 v2 v3 v1' v2' v3' lv rv : Value} {lt rt : HT}
theorem St.mono (S : St news₀ ch news x vl k t1 v1 v2 v3 lv rv lt rt) (hs : ∀ p ∈ news, p ∈ news') : St news₀ ch news' x vl k t1 v1 v2 v3 lv rv lt rt :=
  ⟨S.node.mono hs, S.l.mono hs, S.r.mono hs, fun p hp ho => hs _ (S.keep p hp ho), S.offl, S.offr, S.inch⟩
theorem Node.lists (H : Node news x vl (.int k t1 :: vs)) : ∀ b ∈ [vl], ∃ k tk vs n, (b, W.listOf (Value.int k tk :: vs).toArray n) ∈ news := by
  obtain ⟨dx, fl, a, t, k, v, n, h1, h2, h3, h4⟩ := H
  intro b hb
  rw [List.mem_singleton.mp hb]
  exact ⟨_, _, _, _, h4⟩
theorem St.set (N : News h₀ L h news) (S : St news₀ ch news x vl k t1 v1 v2 v3 lv rv lt rt) (hs : ∀ p ∈ news, p.1 ≠ vl → p ∈ news') (hn : Node news' x vl [.int k t1, v1', v2', v3']) : St news₀ ch news' x vl k t1 v1' v2' v3' lv rv lt rt := by
  have K : Kp news [vl] news' := fun p hp ho => hs p hp fun e => ho (List.mem_singleton.mpr e)
  have hc := S.node.lists
  refine ⟨hn, S.l.kp N hc K fun b hb hm => S.offl (List.mem_singleton.mp hm ▸ hb), S.r.kp N hc K fun b hb hm => S.offr (List.mem_singleton.mp hm ▸ hb), fun p hp ho => hs _ (S.keep p hp ho) fun e => ho (e ▸ S.inch), S.offl, S.offr, S.inch⟩
end
section
variable {w : World} {mean : ExcName → Option Value} {mg mb : Str → Option Value} {dp un : Nat} {gd : Option (List Code)} {cn : Str} {cs : Scope} {a : Addr} {ccd : Value} {cl : List (Str × Addr)} {outer : List Env} {A₀ : Around} {base h₀ : Heap} {L : Addr} {m : Str → Option Value} {news : List (Addr × Obj)} {s : Shared} {Q E : Value → Shared → Prop}
theorem told_rank (B : Below A₀ base outer h₀) (F : Fr h₀ L s.heap m) (X : (Mine.hd.heap_39 w.params).In h₀) (N : News h₀ L s.heap news) (T : Top Mine.hd.view_39 (looseW Mine.hd.view_39 [Str.ofString "SnobolError"]) mean mg mb h₀) (hk : cs.kind = .function)
    (hd : dp + 11 < recursionLimit) {v : Value} {t : HT} {tk : Tok} (R : Tree news v t)
    (ret : ∀ h' tk' tk'', Fr h₀ L h' m → News h₀ L h' news → Q (.int t.rank tk'') {s with heap := h', toks := tk'}) :
    wpAny (model PySem.Challenge.rw_xw0301_01.row.prog w) (ktrTop dp un gd cn cs L a ccd cl outer) (call (.ref 241) [v, .str (Str.ofString "RANK") tk]) Q E s := by
  cases R with
  | nil z t => exact told_str B F X N T hk (by omega) fun h' tk' t F' N' => ret h' tk' t F' N'
  | node hn _ _ => exact told_node B F X N T hk hd hn .rank rfl fun h' tk' F' N' => ret h' tk' _ F' N'
theorem field_ref_st (B : Below A₀ base outer h₀) (F : Fr h₀ L s.heap m) (X : (Mine.hd.heap_39 w.params).In h₀) (N : News h₀ L s.heap news) (T : Top Mine.hd.view_39 (looseW Mine.hd.view_39 [Str.ofString "SnobolError"]) mean mg mb h₀) (hk : cs.kind = .function)
    (hd : dp + 10 < recursionLimit) {news₀ : List (Addr × Obj)} {ch : List Addr} {x vl : Addr} {k : Int} {t1 : Tok} {v1 v2 v3 lv rv : Value} {lt rt : HT} {fld : Str} {j : Nat} {tk : Tok}
    (S : St news₀ ch news x vl k t1 v1 v2 v3 lv rv lt rt) (H : Fld fld j)
    (ret : ∀ r news' h' tk', Fr h₀ L h' m → News h₀ L h' news' → St news₀ ch news' x vl k t1 v1 v2 v3 lv rv lt rt → RefTo news' r x j → Q (.ref r) {s with heap := h', toks := tk'}) :
    wpAny (model PySem.Challenge.rw_xw0301_01.row.prog w) (ktrTop dp un gd cn cs L a ccd cl outer) (call (.ref 220) [.ref x, .str fld tk]) Q E s :=
  field_ref_spec B F X N T hk hd S.node H fun r news' h' tk' F' N' hs R' => ret r news' h' tk' F' N' (S.mono hs) R'
theorem slot_set_st (B : Below A₀ base outer h₀) (F : Fr h₀ L s.heap m) (X : (Mine.hd.heap_39 w.params).In h₀) (N : News h₀ L s.heap news) (T : Top Mine.hd.view_39 (looseW Mine.hd.view_39 [Str.ofString "SnobolError"]) mean mg mb h₀) (hk : cs.kind = .function)
    (hd : dp + 10 < recursionLimit) {news₀ : List (Addr × Obj)} {ch : List Addr} {r x vl : Addr} {k : Int} {t1 : Tok} {v1 v2 v3 v1' v2' v3' v lv rv : Value} {lt rt : HT} {j : Nat}
    (S : St news₀ ch news x vl k t1 v1 v2 v3 lv rv lt rt) (hr : RefTo news r x j) (hj : j < 4) (hv : [.int k t1, v1, v2, v3].set j v = [.int k t1, v1', v2', v3'])
    (ret : ∀ news' h' tk', Fr h₀ L h' m → News h₀ L h' news' → St news₀ ch news' x vl k t1 v1' v2' v3' lv rv lt rt → Q .none {s with heap := h', toks := tk'}) :
    wpAny (model PySem.Challenge.rw_xw0301_01.row.prog w) (ktrTop dp un gd cn cs L a ccd cl outer) (call (.ref 234) [.ref r, v]) Q E s :=
  slot_set_spec B F X N T hk hd S.node hr hj rfl (kk := k) (tt := t1) rfl fun news' h' tk' F' N' hs hn => ret news' h' tk' F' N' (S.set N hs (hv ▸ hn))

def MadeSpec (w : World) (mean : ExcName → Option Value) (mg mb : Str → Option Value) (t1 t2 : HT) : Prop :=
  ∀ (dp un : Nat) (gd : Option (List Code)) (cn : Str) (cs : Scope) (a : Addr) (ccd : Value) (cl : List (Str × Addr)) (outer : List Env) (A₀ : Around) (base h₀ : Heap) (L : Addr) (m : Str → Option Value) (news : List (Addr × Obj)) (s : Shared) (v1 v2 : Value) (Q E : Value → Shared → Prop),
    Below A₀ base outer h₀ → Fr h₀ L s.heap m → (Mine.hd.heap_39 w.params).In h₀ → News h₀ L s.heap news → Top Mine.hd.view_39 (looseW Mine.hd.view_39 [Str.ofString "SnobolError"]) mean mg mb h₀ → cs.kind = .function →
    dp + (20 + t1.size + t2.size) < recursionLimit → Tree news v1 t1 → Tree news v2 t2 → (t1.vls ++ t2.vls).Nodup →
    (∀ r news' h' tk', Fr h₀ L h' m → News h₀ L h' news' → Kp news (t1.vls ++ t2.vls) news' → Tree news' r (merge t1 t2) → Q r { s with heap := h', toks := tk' }) →
    wpAny (model PySem.Challenge.rw_xw0301_01.row.prog w) (ktrTop dp un gd cn cs L a ccd cl outer) (call (.ref 248) [v1, v2]) Q E s
theorem made_use {t1 t2 : HT} {v1 v2 : Value} (C : MadeSpec w mean mg mb t1 t2) (B : Below A₀ base outer h₀) (F : Fr h₀ L s.heap m) (X : (Mine.hd.heap_39 w.params).In h₀) (N : News h₀ L s.heap news) (T : Top Mine.hd.view_39 (looseW Mine.hd.view_39 [Str.ofString "SnobolError"]) mean mg mb h₀) (hk : cs.kind = .function)
    (hd : dp + (20 + t1.size + t2.size) < recursionLimit) (R1 : Tree news v1 t1) (R2 : Tree news v2 t2) (nd : (t1.vls ++ t2.vls).Nodup)
    (ret : ∀ r news' h' tk', Fr h₀ L h' m → News h₀ L h' news' → Kp news (t1.vls ++ t2.vls) news' → Tree news' r (merge t1 t2) → Q r { s with heap := h', toks := tk' }) :
    wpAny (model PySem.Challenge.rw_xw0301_01.row.prog w) (ktrTop dp un gd cn cs L a ccd cl outer) (call (.ref 248) [v1, v2]) Q E s := C _ _ _ _ _ _ _ _ _ _ _ _ _ _ _ _ _ _ _ _ B F X N T hk hd R1 R2 nd ret
end
section
variable {h₀ h : Heap} {L : Addr} {news news' : List (Addr × Obj)} {ch : List Addr} {x vl : Addr} {k rk : Int} {t1 t2 t3 : Tok} {v lv rv mv ov : Value} {l r o q : HT}
theorem St.made (N : News h₀ L h news) (hn : Node news x vl [.int k t1, lv, rv, .int rk t2]) (hl : Tree news lv l) (hr : Tree news rv r) (ho : Tree news ov o) (nd : (vl :: (l.vls ++ r.vls) ++ o.vls).Nodup)
    (K : Kp news (r.vls ++ o.vls) news') (R : Tree news' mv (merge r o)) (hch : ∀ b, b ∈ vl :: (l.vls ++ r.vls) ++ o.vls → b ∈ ch) : St news ch news' x vl k t1 lv rv (.int rk t2) lv mv l (merge r o) := by
  have hc : ∀ b ∈ r.vls ++ o.vls, ∃ k tk vs n, (b, W.listOf (Value.int k tk :: vs).toArray n) ∈ news := fun b hb => (List.mem_append.mp hb).elim (hr.vl_list b) (ho.vl_list b)
  rw [List.cons_append, List.nodup_cons, List.append_assoc, List.nodup_append] at nd
  obtain ⟨h1, h2, h3, h4⟩ := nd
  refine ⟨hn.kp N hc (fun hm => h1 (List.mem_append_right _ hm)) K, hl.kp N hc K (fun b hb hm => h4 b hb b hm rfl), R, fun p hp hp2 => K p hp fun hm => hp2 (hch _ ?_), fun hm => h1 (List.mem_append_left _ hm),
    fun hm => h1 (List.mem_append_right _ ((merge_vls _ r o (Nat.le_refl _)).mem_iff.mp hm)), hch _ (.head _)⟩
  rw [List.cons_append, List.append_assoc]
  exact .tail _ (List.mem_append_right _ hm)
theorem St.end_ge (S : St news ch news' x vl k t1 lv mv (.int (q.rank + 1) t3) lv mv l q) (h : ¬ l.rank < q.rank) : Tree news' (.ref x) (mkT x vl k l q) := by
  unfold mkT
  rw [if_neg h]
  exact .node S.node S.l S.r
theorem St.end_lt (S : St news ch news' x vl k t1 mv lv (.int (l.rank + 1) t3) lv mv l q) (h : l.rank < q.rank) : Tree news' (.ref x) (mkT x vl k l q) := by
  unfold mkT
  rw [if_pos h]
  exact .node S.node S.r S.l
theorem nd_swap {a b : List Addr} (nd : (a ++ b).Nodup) : (b ++ a).Nodup := (List.perm_append_comm.nodup_iff).mp nd
theorem nd_rec {vl : Addr} {a b c : List Addr} (nd : (vl :: (a ++ b) ++ c).Nodup) : (b ++ c).Nodup := by
  rw [List.cons_append, List.nodup_cons, List.append_assoc, List.nodup_append] at nd
  exact nd.2.2.1
end
structure Stop (P : Prop) : Prop where
  go : P
theorem stop_at {P : Prop} (h : Stop P) : P := h.go

theorem made_spec (w : World) (mean : ExcName → Option Value) (mg mb : Str → Option Value) : ∀ (n : Nat) (t1 t2 : HT), t1.size + t2.size < n → MadeSpec w mean mg mb t1 t2 := by
  intro n
  induction n with
  | zero => intro t1 t2 h; exact absurd h (Nat.not_lt_zero _)
  | succ n IH =>
    intro t1 t2 hn dp un gd cn cs a ccd cl outer A₀ base h₀ L m news s v1 v2 Q E B F X N T hk hd R1 R2 nd ret
    obtain ⟨r0, r10, r11⟩ := room_0 hd
    revert X; k_fill; intro X
    k_with_none
    k_with "call ref" => (k_dflt (refine' told_node ?B ?F ?X ?N ?T ?hk ?hd ?hn ?H ?v ?_; (case hn => first | exact St.node (by assumption) | assumption); (case H => first | exact Fld.key | exact Fld.left | exact Fld.right | exact Fld.rank); (case v => exact rfl); (case B => k_asm); (case F => k_asm); (case X => k_asm); (case N => first | k_asm | exact news_tl (by k_asm) | exact news_tl (news_tl (by k_asm))); (case T => k_asm); (case hk => first | exact rfl | assumption); (case hd => assumption); k_whole; intro h' tk' F' N'; (try k_sweep)))
    k_with "call ref" => (k_dflt (refine' told_rank ?B ?F ?X ?N ?T ?hk ?hd ?R ?_; (case R => first | exact St.l (by assumption) | exact St.r (by assumption) | assumption); (case B => k_asm); (case F => k_asm); (case X => k_asm); (case N => first | k_asm | exact news_tl (by k_asm) | exact news_tl (news_tl (by k_asm))); (case T => k_asm); (case hk => first | exact rfl | assumption); (case hd => assumption); k_whole; intro h' tk' tk'' F' N'; (try k_sweep)))
    k_with "call ref" => (k_dflt (refine' field_ref_st ?B ?F ?X ?N ?T ?hk ?hd ?S ?H ?_; (case S => assumption); (case H => first | exact Fld.key | exact Fld.left | exact Fld.right | exact Fld.rank); (case B => k_asm); (case F => k_asm); (case X => k_asm); (case N => first | k_asm | exact news_tl (by k_asm) | exact news_tl (news_tl (by k_asm))); (case T => k_asm); (case hk => first | exact rfl | assumption); (case hd => assumption); k_whole; intro r' news' h' tk' F' N' S' R'; (try k_sweep)))
    k_with "call ref" => (k_dflt (refine' slot_set_st ?B ?F ?X ?N ?T ?hk ?hd ?S ?R ?j ?v ?_; (case S => assumption); (case R => assumption); (case j => decide); (case v => exact rfl); (case B => k_asm); (case F => k_asm); (case X => k_asm); (case N => first | k_asm | exact news_tl (by k_asm) | exact news_tl (news_tl (by k_asm))); (case T => k_asm); (case hk => first | exact rfl | assumption); (case hd => assumption); k_whole; intro news' h' tk' F' N' S'; (try k_sweep)))
    k_with "call builtin:isinstance" => (k_dflt (refine' node_notstr ?X ?F ?N ?hn ?_; (case hn => first | exact St.node (by assumption) | assumption); (case X => k_asm); (case F => k_asm); (case N => k_asm); k_whole))
    k_with "call ref" => ((with_reducible show wpAny _ _ (call (Value.ref 248) [_, _]) _ _ _); refine stop_at ?_)
    have R1' := R1
    have R2' := R2
    cases R1 with
    | nil z tk =>
      refine wpAny_call ?_
      k_dflt ktr_enter
      k_steps
      all_goals exact ret _ _ _ _ (by k_asm) (by k_asm) (fun _ hp _ => hp) (by rw [merge_nil_l]; exact R2')
    | @node x1 vl1 k1 rk1 u1 u1' lv1 rv1 l1 r1 hn1 hl1 hr1 =>
      cases R2 with
      | nil z' tk' =>
        refine wpAny_call ?_
        k_dflt ktr_enter
        k_steps
        all_goals exact ret _ _ _ _ (by k_asm) (by k_asm) (fun _ hp _ => hp) (by rw [merge_nil_r]; exact R1')
      | @node x2 vl2 k2 rk2 u2 u2' lv2 rv2 l2 r2 hn2 hl2 hr2 =>
        have rc1 : dp + 1 + (20 + r1.size + (HT.node x2 vl2 k2 rk2 l2 r2).size) < recursionLimit := room_a (a := l1.size) hd
        have rc2 : dp + 1 + (20 + r2.size + (HT.node x1 vl1 k1 rk1 l1 r1).size) < recursionLimit := room_b (a := l2.size) hd
        have n1 : r1.size + (HT.node x2 vl2 k2 rk2 l2 r2).size < n := size_a (a := l1.size) hn
        have n2 : r2.size + (HT.node x1 vl1 k1 rk1 l1 r1).size < n := size_b (a := l2.size) hn
        clear hn hd
        refine wpAny_call ?_
        k_dflt ktr_enter
        k_steps
        · refine Stop.mk ?_
          k_dflt (refine' made_use (IH r2 (.node x1 vl1 k1 rk1 l1 r1) n2) ?B ?F ?X ?N ?T ?hk ?hd hr2 R1' ?nd ?_; (case B => k_asm); (case F => k_asm); (case X => k_asm); (case N => k_asm); (case T => k_asm); (case hk => first | exact rfl | assumption); (case hd => assumption); (case nd => exact nd_rec (nd_swap nd)))
          intro r3 news3 h3 tk3 F3 N3 K3 R3
          have S3 := St.made N hn2 hl2 hr2 R1' (nd_swap nd) K3 R3 (ch := (HT.node x1 vl1 k1 rk1 l1 r1).vls ++ (HT.node x2 vl2 k2 rk2 l2 r2).vls) (fun b hb => (List.mem_append.mp hb).elim (fun h => List.mem_append_right _ h) (fun h => List.mem_append_left _ h))
          clear hn1 hl1 hr1 hn2 hl2 hr2 R1' R2' K3 R3
          k_steps
          all_goals refine ret _ _ _ _ (by k_asm) (by k_asm) (St.keep (by assumption)) ?_
          all_goals rw [merge_lt (by assumption)]
          all_goals first | exact St.end_ge (by assumption) (by assumption) | exact St.end_lt (by assumption) (by assumption)
        · refine Stop.mk ?_
          k_dflt (refine' made_use (IH r1 (.node x2 vl2 k2 rk2 l2 r2) n1) ?B ?F ?X ?N ?T ?hk ?hd hr1 R2' ?nd ?_; (case B => k_asm); (case F => k_asm); (case X => k_asm); (case N => k_asm); (case T => k_asm); (case hk => first | exact rfl | assumption); (case hd => assumption); (case nd => exact nd_rec nd))
          intro r3 news3 h3 tk3 F3 N3 K3 R3
          have S3 := St.made N hn1 hl1 hr1 R2' nd K3 R3 (ch := (HT.node x1 vl1 k1 rk1 l1 r1).vls ++ (HT.node x2 vl2 k2 rk2 l2 r2).vls) (fun b hb => hb)
          clear hn1 hl1 hr1 hn2 hl2 hr2 R1' R2' K3 R3
          k_steps
          all_goals refine ret _ _ _ _ (by k_asm) (by k_asm) (St.keep (by assumption)) ?_
          all_goals rw [merge_ge (by assumption)]
          all_goals first | exact St.end_ge (by assumption) (by assumption) | exact St.end_lt (by assumption) (by assumption)
def KeysSpec (w : World) (mean : ExcName → Option Value) (mg mb : Str → Option Value) (t : HT) : Prop :=
  ∀ (dp un : Nat) (gd : Option (List Code)) (cn : Str) (cs : Scope) (a : Addr) (ccd : Value) (cl : List (Str × Addr)) (outer : List Env) (A₀ : Around) (base h₀ : Heap) (L : Addr) (m : Str → Option Value) (news : List (Addr × Obj)) (s : Shared) (v : Value) (least : Int) (tl : Tok) (Q E : Value → Shared → Prop),
    Below A₀ base outer h₀ → Fr h₀ L s.heap m → (Mine.hd.heap_39 w.params).In h₀ → News h₀ L s.heap news → Top Mine.hd.view_39 (looseW Mine.hd.view_39 [Str.ofString "SnobolError"]) mean mg mb h₀ → cs.kind = .function →
    dp + (20 + t.size) < recursionLimit → un + 8 * (20 + t.size) < cLine → Tree news v t → Good least t → t.size ≤ 100 →
    (∀ l vs n news' h' tk', Fr h₀ L h' m → News h₀ L h' news' → (∀ p ∈ news, p ∈ news') → (l, W.listOf vs.toArray n) ∈ news' → IntsAre vs t.keys → Q (.ref l) { s with heap := h', toks := tk' }) →
    wpAny (model PySem.Challenge.rw_xw0301_01.row.prog w) (ktrTop dp un gd cn cs L a ccd cl outer) (call (.ref 255) [v, .int least tl]) Q E s
section
variable {w : World} {mean : ExcName → Option Value} {mg mb : Str → Option Value} {dp un : Nat} {gd : Option (List Code)} {cn : Str} {cs : Scope} {a : Addr} {ccd : Value} {cl : List (Str × Addr)} {outer : List Env} {A₀ : Around} {base h₀ : Heap} {L : Addr} {m : Str → Option Value} {news : List (Addr × Obj)} {s : Shared} {Q E : Value → Shared → Prop}
theorem keys_use {t : HT} {v : Value} {least : Int} {tl : Tok} (C : KeysSpec w mean mg mb t) (B : Below A₀ base outer h₀) (F : Fr h₀ L s.heap m) (X : (Mine.hd.heap_39 w.params).In h₀) (N : News h₀ L s.heap news) (T : Top Mine.hd.view_39 (looseW Mine.hd.view_39 [Str.ofString "SnobolError"]) mean mg mb h₀) (hk : cs.kind = .function)
    (hd : dp + (20 + t.size) < recursionLimit) (hu : un + 8 * (20 + t.size) < cLine) (R : Tree news v t) (g : Good least t) (hs : t.size ≤ 100)
    (ret : ∀ l vs n news' h' tk', Fr h₀ L h' m → News h₀ L h' news' → (∀ p ∈ news, p ∈ news') → (l, W.listOf vs.toArray n) ∈ news' → IntsAre vs t.keys → Q (.ref l) { s with heap := h', toks := tk' }) :
    wpAny (model PySem.Challenge.rw_xw0301_01.row.prog w) (ktrTop dp un gd cn cs L a ccd cl outer) (call (.ref 255) [v, .int least tl]) Q E s := C _ _ _ _ _ _ _ _ _ _ _ _ _ _ _ _ _ _ _ _ _ B F X N T hk hd hu R g hs ret
end
section
variable {prog : Program} {w : World} {A : Around} {h₀ : Heap} {L : Addr} {m : Str → Option Value} {news : List (Addr × Obj)} {s : Shared} {Q E : Value → Shared → Prop}
theorem my_add {l b : Addr} {vs ws : List Value} {n n' : Nat} (F : Fr h₀ L s.heap m) (N : News h₀ L s.heap news) (m1 : (l, W.listOf vs.toArray n) ∈ news) (m2 : (b, W.listOf ws.toArray n') ∈ news) (hsz : vs.length + ws.length ≤ 1000)
    (h : ∀ l' h', Fr h₀ L h' m → News h₀ L h' ((l', W.listOf (vs ++ ws).toArray 0) :: news) → Q (.ref l') { s with heap := h' }) : wpAny (model prog w) A (binaryOp .Add (.ref l) (.ref b)) Q E s :=
  add_lists (vs := vs) (ws := ws) (hsz := by have := sizeLine_eq; omega) F N (N.isList m1) (N.isList m2) fun h' F' N' => h _ h' F' N'
theorem my_len {l : Addr} {vs : List Value} {n : Nat} (N : News h₀ L s.heap news) (m1 : (l, W.listOf vs.toArray n) ∈ news) (hsz : vs.length ≤ 1000)
    (h : ∀ t tk, Q (.int (vs.length : Nat) t) { s with toks := tk }) : wpAny (model prog w) A (call (.builtin "len") [.ref l]) Q E s :=
  PySem.Calls.call_len_list (N.isList m1) (by simp; omega) (by simpa using h _ _)
end
theorem len_a {v : Value} {vs : List Value} (h : vs.length ≤ 100) : [v].length + vs.length ≤ 1000 := by simp only [List.length_cons, List.length_nil]; omega
theorem len_b {v : Value} {vs ws : List Value} (h : vs.length ≤ 100) (h' : ws.length ≤ 100) : ([v] ++ vs).length + ws.length ≤ 1000 := by simp only [List.length_append, List.length_cons, List.length_nil]; omega
theorem room_k {R U dp un a b : Nat} (h : dp + (20 + (a + b + 1)) < R) (h' : un + 8 * (20 + (a + b + 1)) < U) : dp < R ∧ dp + 1 + 11 < R ∧ dp + 1 + (20 + a) < R ∧ dp + 1 + (20 + b) < R ∧ un + 3 + 8 * (20 + a) < U ∧ un + 3 + 8 * (20 + b) < U := by omega
theorem good_facts {least k rk : Int} {x vl : Nat} {l r : HT} {n m : Nat} (g : Good least (.node x vl k rk l r)) (hs : (HT.node x vl k rk l r).size ≤ 100) (e1 : n = l.size) (e2 : m = r.size) :
    ¬ k < least ∧ rk = r.rank + 1 ∧ ¬ l.rank < rk - 1 ∧ 0 ≤ rk ∧ rk ≤ 1000000 ∧ n ≤ 100 ∧ m ≤ 100 ∧ ¬ (n : Int) + (m : Int) + 2 < 2 ^ rk.toNat := by
  have r0 := Good.rank0 g
  have r1 := Good.rank_le g
  have pw := Good.pow g
  obtain ⟨g1, g2, g3, g4, g5⟩ := g
  simp only [HT.size, HT.rank] at hs r0 r1 pw
  subst e1 e2
  refine ⟨by omega, g2, by omega, r0, by omega, by omega, by omega, by omega⟩
theorem keys_spec (w : World) (mean : ExcName → Option Value) (mg mb : Str → Option Value) : ∀ t : HT, KeysSpec w mean mg mb t := by
  intro t
  induction t with
  | nil =>
    intro dp un gd cn cs a ccd cl outer A₀ base h₀ L m news s v least tl Q E B F X N T hk hd hu R g hs ret
    have r0 : dp < recursionLimit := Nat.lt_of_le_of_lt (Nat.le_add_right _ _) hd
    revert X; k_fill; intro X
    k_with_none
    cases R
    refine wpAny_call ?_
    k_dflt ktr_enter
    k_steps
    all_goals exact ret _ [] _ _ _ _ (by k_asm) (by k_asm) (fun _ hp => .tail _ hp) (.head _) .nil
  | node x vl k rk l r IHl IHr =>
    intro dp un gd cn cs a ccd cl outer A₀ base h₀ L m news s v least tl Q E B F X N T hk hd hu R g hs ret
    obtain ⟨r0, r11, rl, rr, ul, ur⟩ := room_k (a := l.size) (b := r.size) hd hu
    have sl : l.size ≤ 100 := Nat.le_trans (Nat.le_trans (Nat.le_add_right _ r.size) (Nat.le_succ _)) hs
    have sr : r.size ≤ 100 := Nat.le_trans (Nat.le_trans (Nat.le_add_left _ l.size) (Nat.le_succ _)) hs
    clear hd hu
    revert X; k_fill; intro X
    k_with_none
    k_with "call ref" => (k_dflt (refine' told_node ?B ?F ?X ?N ?T ?hk ?hd ?hn ?H ?v ?_; (case hn => assumption); (case H => first | exact Fld.key | exact Fld.left | exact Fld.right | exact Fld.rank); (case v => exact rfl); (case B => k_asm); (case F => k_asm); (case X => k_asm); (case N => first | k_asm | exact news_tl (by k_asm) | exact news_tl (news_tl (by k_asm))); (case T => k_asm); (case hk => first | exact rfl | assumption); (case hd => assumption); k_whole; intro h' tk' F' N'; (try k_sweep)))
    k_with "call ref" => (k_dflt (refine' told_rank ?B ?F ?X ?N ?T ?hk ?hd ?R ?_; (case R => assumption); (case B => k_asm); (case F => k_asm); (case X => k_asm); (case N => first | k_asm | exact news_tl (by k_asm) | exact news_tl (news_tl (by k_asm))); (case T => k_asm); (case hk => first | exact rfl | assumption); (case hd => assumption); k_whole; intro h' tk' tk'' F' N'; (try k_sweep)))
    k_with "call builtin:isinstance" => (k_dflt (refine' node_notstr ?X ?F ?N ?hn ?_; (case hn => assumption); (case X => k_asm); (case F => k_asm); (case N => k_asm); k_whole))
    k_with "binaryOp Add ref ref" => (k_dflt (refine' my_add ?F ?N ?m1 ?m2 ?hsz ?_; (case F => k_asm); (case N => k_asm); (case m1 => k_mem); (case m2 => k_mem); (case hsz => first | exact len_a (by assumption) | exact len_b (by assumption) (by assumption)); k_whole; intro l' h' F' N'; (try k_sweep)))
    k_with "call builtin:len" => (k_dflt (refine' my_len ?N ?m1 ?hsz ?_; (case N => k_asm); (case m1 => k_mem); (case hsz => exact Nat.le_trans (by assumption) (by decide)); k_whole; intro t' tk'))
    k_with "binaryOp Pow int int" => (k_dflt (refine' pow_int_small ?a ?b ?c ?_; (case a => assumption); (case b => assumption); (case c => decide); k_whole))
    k_with "call ref" => ((with_reducible show wpAny _ _ (call (Value.ref 255) [_, _]) _ _ _); refine stop_at ?_)
    cases R with
    | @node _ _ _ _ t1 t2 lv rv _ _ hn hl hr =>
    refine wpAny_call ?_
    k_dflt ktr_enter
    k_steps
    refine Stop.mk ?_
    k_dflt (refine' keys_use IHl ?B ?F ?X ?N ?T ?hk rl ul hl g.2.2.2.1 sl ?_; (case B => k_asm); (case F => k_asm); (case X => k_asm); (case N => k_asm); (case T => k_asm); (case hk => first | exact rfl | assumption))
    intro la vsa na news1 h1 tk1 F1 N1 S1 M1 I1
    have hn1 := hn.mono S1
    have hl1 := hl.mono S1
    have hr1 := hr.mono S1
    clear hn hl hr
    k_steps
    refine Stop.mk ?_
    k_dflt (refine' keys_use IHr ?B ?F ?X ?N ?T ?hk rr ur hr1 g.2.2.2.2 sr ?_; (case B => k_asm); (case F => k_asm); (case X => k_asm); (case N => k_asm); (case T => k_asm); (case hk => first | exact rfl | assumption))
    intro lb vsb nb news2 h2 tk2 F2 N2 S2 M2 I2
    have hn2 := hn1.mono S2
    have hl2 := hl1.mono S2
    have hr2 := hr1.mono S2
    have M1 := S2 _ M1
    clear hn1 hl1 hr1
    obtain ⟨g1, g2, g3, g4, g5, g6, g7, g8⟩ := good_facts (n := vsa.length) (m := vsb.length) g hs (by rw [I1.length, keys_length]) (by rw [I2.length, keys_length])
    clear g hs sl sr rl rr ul ur
    k_steps
    all_goals first
      | contradiction
      | exact ret _ ([Value.int k t1] ++ vsa ++ vsb) _ _ _ _ (by k_asm) (by k_asm) (fun p hp => .tail _ (.tail _ (.tail _ (S2 _ (S1 _ hp))))) (.head _) (.cons _ _ (I1.append I2))
      | (exfalso; omega)
section
variable {prog : Program} {w : World} {A : Around} {h₀ : Heap} {L : Addr} {m : Str → Option Value} {news : List (Addr × Obj)} {s : Shared} {E : Value → Shared → Prop}
theorem my_sorted {l : Addr} {vs : List Value} {ns : List Int} {n : Nat} {Q : Value → Shared → Prop} (F : Fr h₀ L s.heap m) (N : News h₀ L s.heap news) (m1 : (l, W.listOf vs.toArray n) ∈ news) (hI : IntsAre vs ns) (h64 : vs.length < 64)
    (h : ∀ l' vs' ns' n' h', Fr h₀ L h' m → News h₀ L h' ((l', W.listOf vs'.toArray n') :: news) → IntsAre vs' ns' → ns'.Perm ns → ns'.Pairwise (· ≤ ·) → Q (.ref l') { s with heap := h' }) :
    wpAny (model prog w) A (call (.builtin "sorted") [.ref l]) Q E s :=
  sorted_N F N (N.isList m1) hI h64 fun h' vs' ns' e F' N' i p o => h _ vs' ns' e h' F' N' i p o
theorem sorted_same {a b : List Int} (p : a.Perm b) (x : a.Pairwise (· ≤ ·)) (y : b.Pairwise (· ≤ ·)) : a = b :=
  p.eq_of_pairwise (fun _ _ _ _ h h' => Int.le_antisymm h h') x y
theorem my_ne {a b : Addr} {vs us : List Value} {ns ms : List Int} {n n' : Nat} {Q : Value → Shared → Prop} (N : News h₀ L s.heap news) (m1 : (a, W.listOf vs.toArray n) ∈ news) (m2 : (b, W.listOf us.toArray n') ∈ news) (hi : IntsAre vs ns) (hi' : IntsAre us ms) (hu : A.units + 64 < cLine) (e : ns = ms)
    (h : Q (.bool false) s) : wpAny (model prog w) A (compareOp .NotEq (.ref a) (.ref b)) Q E s :=
  ne_intsK (N.isList m1) hi (N.isList m2) hi' hu (by rw [decide_eq_true e]; exact h)
theorem my_eq {a b : Addr} {vs us : List Value} {ns ms : List Int} {n n' : Nat} {Q : Value → Shared → Prop} (N : News h₀ L s.heap news) (m1 : (a, W.listOf vs.toArray n) ∈ news) (m2 : (b, W.listOf us.toArray n') ∈ news) (hi : IntsAre vs ns) (hi' : IntsAre us ms) (hu : A.units + 64 < cLine) (e : ns = ms)
    (h : Q (.bool true) s) : wpAny (model prog w) A (compareOp .Eq (.ref a) (.ref b)) Q E s :=
  eq_intsK (N.isList m1) hi (N.isList m2) hi' hu (by rw [decide_eq_true e]; exact h)
theorem my_append {D : Addr} {vs : List Value} {n : Nat} {x : Value} {Q : Value → Shared → Prop} (F : Fr h₀ L s.heap m) (N : News h₀ L s.heap news) (m1 : (D, W.listOf vs.toArray n) ∈ news) (hsz : vs.length ≤ 1000)
    (h : ∀ h', Fr h₀ L h' m → News h₀ L h' ((D, W.listOf (vs ++ [x]).toArray (n + 1)) :: news.filter (fun p => p.1 != D)) → Q .none { s with heap := h' }) : wpAny (model prog w) A (call (.builtin "list.append") [.ref D, x]) Q E s := by
  have N' : News h₀ L s.heap ((D, W.listOf vs.toArray n) :: news.filter (fun p => p.1 != D)) := by
    intro p hp
    rcases List.mem_cons.mp hp with rfl | hp
    · exact N _ m1
    · exact N p (List.mem_filter.mp hp).1
  have off : ∀ p ∈ news.filter (fun p => p.1 != D), p.1 ≠ D := fun p hp => by
    have := (List.mem_filter.mp hp).2
    simpa using this
  refine append_K F N' (Upd.head off) (fun h' F' N' => h h' F' ?_) (by have := sizeLine_eq; simp; omega)
  simpa using N'
theorem form3 {m : Str → Option Value} {k1 k2 k3 : Str} {v1 v2 v3 : Value} (h1 : m k1 = some v1) (h2 : m k2 = some v2) (h3 : m k3 = some v3) :
    m = fun y => if y = k1 then some v1 else if y = k2 then some v2 else if y = k3 then some v3 else m y := by
  funext y
  by_cases e1 : y = k1
  · rw [if_pos e1, e1, h1]
  · rw [if_neg e1]
    by_cases e2 : y = k2
    · rw [if_pos e2, e2, h2]
    · rw [if_neg e2]
      by_cases e3 : y = k3
      · rw [if_pos e3, e3, h3]
      · rw [if_neg e3]
theorem Fr.form3 {h : Heap} {k1 k2 k3 : Str} {v1 v2 v3 : Value} (F : Fr h₀ L h m) (h1 : m k1 = some v1) (h2 : m k2 = some v2) (h3 : m k3 = some v3) :
    Fr h₀ L h (fun y => if y = k1 then some v1 else if y = k2 then some v2 else if y = k3 then some v3 else m y) := by
  have e := Mine.form3 h1 h2 h3
  exact (congrArg (Fr h₀ L h) e).mp F
end
/-- the part of a ledger that bears lists, dicts and things -/
def plainObj (o : Obj) : Bool := o.cls == .type "list" || o.cls == .type "dict" || (match o.cls with | .ref _ => true | _ => false)
def clean (news : List (Addr × Obj)) : List (Addr × Obj) := news.filter fun p => plainObj p.2
theorem mem_clean {p : Addr × Obj} {news : List (Addr × Obj)} (hp : p ∈ news) (h : plainObj p.2 = true) : p ∈ clean news := List.mem_filter.mpr ⟨hp, h⟩
theorem clean_sub {p : Addr × Obj} {news : List (Addr × Obj)} (hp : p ∈ clean news) : p ∈ news := (List.mem_filter.mp hp).1
theorem Tree.clean {news : List (Addr × Obj)} {v : Value} {t : HT} (H : Tree news v t) : Tree (clean news) v t := by
  induction H with
  | nil z t => exact .nil z t
  | node hn _ _ il ir =>
    obtain ⟨dx, fl, a, t, k, v, n, h1, h2, h3, h4⟩ := hn
    exact .node ⟨dx, fl, a, t, k, v, n, mem_clean h1 rfl, mem_clean h2 rfl, mem_clean h3 rfl, mem_clean h4 rfl⟩ il ir
theorem tree_new {x d l f : Addr} {a1 a2 a3 a4 a5 : Int} {t1 t2 t3 t4 t5 k1 k2 k3 k4 u1 u2 u3 u4 : Tok} {w0 nr mk : Value} {n n1 n2 : Nat} {k : Int} {z1 z2 : Str} {rest : List (Addr × Obj)} :
    Tree ((x, instObj 204 d) :: (d, dictOf [⟨a1, .str (Str.ofString "word") t1, w0⟩, ⟨a2, .str (Str.ofString "number") t2, nr⟩, ⟨a3, .str (Str.ofString "mark") t3, mk⟩, ⟨a4, .str (Str.ofString "fields") t4, .ref f⟩, ⟨a5, .str (Str.ofString "values") t5, .ref l⟩] n) :: (l, W.listOf #[.int k u1, .str z1 u2, .str z2 u3, .int 1 u4] n1) :: (f, W.listOf #[.str (Str.ofString "KEY") k1, .str (Str.ofString "LEFT") k2, .str (Str.ofString "RIGHT") k3, .str (Str.ofString "RANK") k4] n2) :: rest) (.ref x) (.node x l k 1 .nil .nil) :=
  .node ⟨d, f, fun i => [a1, a2, a3, a4, a5].getD i 0, fun i => [t1, t2, t3, t4, t5].getD i 0, fun i => [k1, k2, k3, k4].getD i 0, fun i => [w0, nr, mk].getD i .none, fun i => [n, n2, n1].getD i 0, .head _, .tail _ (.head _), .tail _ (.tail _ (.tail _ (.head _))), .tail _ (.tail _ (.head _))⟩ (.nil _ _) (.nil _ _)
theorem vls_lt {news : List (Addr × Obj)} {v : Value} {t : HT} {b : Addr} (H : Tree news v t) (hlt : AllLt b news) : b ∉ t.vls := fun hb => by
  obtain ⟨k, tk, vs, n, hm⟩ := H.vl_list b hb
  exact Nat.lt_irrefl _ (ktn_ltOf hlt _ hm)
theorem vls_off {h₀ h : Heap} {L : Addr} {led news : List (Addr × Obj)} (N : News h₀ L h led) (sub : ∀ p ∈ news, p ∈ led) {v : Value} {t : HT} (H : Tree news v t) {p : Addr × Obj} (hp : p ∈ led) (hc : p.2.cls ≠ .type "list") : p.1 ∉ t.vls := fun hb => by
  obtain ⟨k, tk, vs, n, hm⟩ := H.vl_list _ hb
  exact hc (by rw [obj_same N (o := p.2) hp (sub _ hm) rfl])
theorem sub6 {a b c d e f : Addr × Obj} {l : List (Addr × Obj)} : ∀ p ∈ l, p ∈ a :: b :: c :: d :: e :: f :: l := fun _ hp => .tail _ (.tail _ (.tail _ (.tail _ (.tail _ (.tail _ hp)))))
theorem take_succ_perm {ks a : List Int} {i : Nat} {k : Int} (h : ks[i]? = some k) (p : a.Perm (ks.take i)) : (a ++ [k]).Perm (ks.take (i + 1)) := by
  rw [List.take_add_one, h]
  exact List.Perm.append_right _ p
theorem turn_facts {news1 led news3 : List (Addr × Obj)} {x l' I Dk Lo : Addr} {tv r3 : Value} {t : HT} {key : Int} {ks : List Int} {i : Nat} {oe oi oD oL : Obj} {h₀ h : Heap} {L : Addr} (N2 : News h₀ L h led) (sub : ∀ p ∈ news1, p ∈ led)
    (hTr : Tree news1 tv t) (hG : Good 0 t) (hk : 0 ≤ key) (hPm : t.keys.Perm (ks.take i)) (hkey : ks[i]? = some key) (hNd : t.vls.Nodup) (hDn : Dk ∉ t.vls) (hLn : Lo ∉ t.vls) (lt : AllLt l' news1) (hD : (Dk, oD) ∈ news1) (hL : (Lo, oL) ∈ news1)
    (he : (I + 1, oe) ∈ led) (hi : (I, oi) ∈ led) (hoe : oe.cls = .type "enumerate") (hoi : oi.cls = .type "list_iterator") (lta : I + 1 < l') (ltb : I < l') (K3 : Kp led (t.vls ++ (HT.node x l' key 1 .nil .nil).vls) news3) (R3 : Tree news3 r3 (merge t (HT.node x l' key 1 .nil .nil))) :
    ∃ t3, Tree news3 r3 t3 ∧ Good 0 t3 ∧ t3.keys.Perm (ks.take (i + 1)) ∧ t3.vls.Nodup ∧ Dk ∉ t3.vls ∧ Lo ∉ t3.vls ∧ (Dk, oD) ∈ news3 ∧ (Lo, oL) ∈ news3 ∧ (I + 1, oe) ∈ news3 ∧ (I, oi) ∈ news3 := by
  have V := merge_vls _ t (HT.node x l' key 1 .nil .nil) (Nat.le_refl _)
  have P := merge_keys _ t (HT.node x l' key 1 .nil .nil) (Nat.le_refl _)
  have hl : l' ∉ t.vls := vls_lt hTr lt
  have hv : (HT.node x l' key 1 .nil .nil).vls = [l'] := rfl
  rw [hv] at V K3
  have no : ∀ {b : Addr}, b ∉ t.vls → b ≠ l' → b ∉ t.vls ++ [l'] := fun h1 h2 hm => (List.mem_append.mp hm).elim h1 fun h3 => h2 (List.mem_singleton.mp h3)
  have ne : ∀ {b : Addr} {o : Obj}, (b, o) ∈ news1 → b ≠ l' := fun hb e => Nat.ne_of_lt (ktn_ltOf lt _ hb) e
  have ie : I + 1 ∉ t.vls := vls_off N2 sub hTr he (by rw [hoe]; decide)
  have ii : I ∉ t.vls := vls_off N2 sub hTr hi (by rw [hoi]; decide)
  refine ⟨_, R3, merge_good _ _ _ _ (Nat.le_refl _) hG ⟨hk, rfl, Int.le_refl _, trivial, trivial⟩, P.trans (take_succ_perm hkey hPm), ?_, fun hm => no hDn (ne hD) (V.mem_iff.mp hm), fun hm => no hLn (ne hL) (V.mem_iff.mp hm),
    K3 _ (sub _ hD) (no hDn (ne hD)), K3 _ (sub _ hL) (no hLn (ne hL)), K3 _ he (no ie (Nat.ne_of_lt lta)), K3 _ hi (no ii (Nat.ne_of_lt ltb))⟩
  refine V.nodup_iff.mpr ((List.perm_append_comm.nodup_iff).mp (List.nodup_cons.mpr ⟨hl, hNd⟩))
theorem append_perm {a b c : List Int} {k : Int} (h : (a ++ k :: b).Perm c) : ((a ++ [k]) ++ b).Perm c := by simpa using h
def WhileP (Dk Lo : Addr) (kvs : List Value) (kn : Nat) (ks : List Int) (n : Nat) (m : Str → Option Value) (news : List (Addr × Obj)) : Prop :=
  ∃ v t offs ovs on, m (Str.ofString "keys") = some (.ref Dk) ∧ m (Str.ofString "off") = some (.ref Lo) ∧ m (Str.ofString "top") = some v ∧ (Dk, W.listOf kvs.toArray kn) ∈ news ∧ (Lo, W.listOf (List.toArray ovs) on) ∈ news ∧ IntsAre ovs offs ∧
    Tree news v t ∧ Good 0 t ∧ (offs ++ t.keys).Perm ks ∧ offs.Pairwise (· ≤ ·) ∧ (∀ a ∈ offs, ∀ b ∈ t.keys, a ≤ b) ∧ t.vls.Nodup ∧ Dk ∉ t.vls ∧ Lo ∉ t.vls ∧ n = t.size
/-- what is taken off stays sorted, and below what is left -/
theorem off_step {offs : List Int} {x vl : Nat} {k rk : Int} {l r : HT} {ks : List Int} (g : Good 0 (.node x vl k rk l r)) (p : (offs ++ (HT.node x vl k rk l r).keys).Perm ks) (so : offs.Pairwise (· ≤ ·)) (le : ∀ a ∈ offs, ∀ b ∈ (HT.node x vl k rk l r).keys, a ≤ b) :
    Good 0 (merge l r) ∧ ((offs ++ [k]) ++ (merge l r).keys).Perm ks ∧ (offs ++ [k]).Pairwise (· ≤ ·) ∧ (∀ a ∈ offs ++ [k], ∀ b ∈ (merge l r).keys, a ≤ b) := by
  obtain ⟨g1, g2, g3, g4, g5⟩ := g
  have P := merge_keys _ l r (Nat.le_refl _)
  refine ⟨merge_good _ _ _ _ (Nat.le_refl _) (g4.mono g1) (g5.mono g1), ?_, ?_, ?_⟩
  · refine List.Perm.trans (List.Perm.append_left _ P) (append_perm p)
  · refine List.pairwise_append.mpr ⟨so, List.pairwise_singleton _ _, fun a ha b hb => ?_⟩
    rw [List.mem_singleton.mp hb]
    exact le a ha k (.head _)
  · intro a ha b hb
    have hb := List.mem_append.mp (P.mem_iff.mp hb)
    rcases List.mem_append.mp ha with ha | ha
    · exact le a ha b (.tail _ (List.mem_append.mpr hb))
    · rw [List.mem_singleton.mp ha]
      exact hb.elim (fun h => g4.all b h) fun h => g5.all b h
theorem clean_off {h₀ h : Heap} {L I : Addr} {led news : List (Addr × Obj)} {oe oi : Obj} (N : News h₀ L h led) (sub : ∀ p ∈ news, p ∈ led) (he : (I + 1, oe) ∈ news) (hi : (I, oi) ∈ news) (hoe : oe.cls = .type "enumerate") (hoi : oi.cls = .type "list_iterator") :
    ∀ p ∈ clean news, ∀ q ∈ [(I + 1, oe), (I, oi)], p.1 ≠ q.1 := by
  rintro ⟨b, o⟩ hp ⟨c, o'⟩ hq e
  have hpl := (List.mem_filter.mp hp).2
  have hpm := sub _ (clean_sub hp)
  rcases List.mem_cons.mp hq with hq | hq
  · cases hq
    have z := obj_same N hpm (sub _ he) e
    subst z
    have hpl : plainObj o = true := hpl
    unfold plainObj at hpl
    rw [hoe] at hpl
    exact absurd hpl (by decide)
  · cases List.mem_singleton.mp hq
    have z := obj_same N hpm (sub _ hi) e
    subst z
    have hpl : plainObj o = true := hpl
    unfold plainObj at hpl
    rw [hoi] at hpl
    exact absurd hpl (by decide)
theorem Tree.offl {h₀ h : Heap} {L Lo : Addr} {news : List (Addr × Obj)} {v : Value} {t : HT} {ovs : List Value} {offs : List Int} {on : Nat} {q : Addr × Obj} (N : News h₀ L h news) (H : Tree news v t) (hL : (Lo, W.listOf ovs.toArray on) ∈ news) (hi : IntsAre ovs offs) (hn : Lo ∉ t.vls) :
    Tree (q :: news.filter (fun p => p.1 != Lo)) v t := by
  induction H with
  | nil z t => exact .nil z t
  | node hd _ _ il ir =>
    refine .node (hd.keep fun p hp ho => ?_) (il fun hm => hn (.tail _ (List.mem_append_left _ hm))) (ir fun hm => hn (.tail _ (List.mem_append_right _ hm)))
    refine mem_off hp fun e => ?_
    rcases ho with ho | ⟨C, hc⟩ | hc | ⟨k', n', hc⟩
    · exact hn (by rw [← e, ho]; exact .head _)
    all_goals
      have z := obj_same N (o := p.2) hp hL e
      rw [z] at hc
    · cases hc
    · exact absurd (show Value.type "list" = .type "dict" from hc) (by decide)
    · injection hc with _ _ hc
      injection hc with hc
      have hc := congrArg Array.toList hc
      simp only at hc
      rw [hc] at hi
      cases hi
section
variable {prog : Program} {w : World} {A : Around} {E : Value → Shared → Prop} {s : Shared} {env : Env} {h₀ : Heap} {body : List Stmt} {Q : Flow → Shared → Prop} {elts : List PySem.Expr} {kk : Nat} {pos : Pos}
theorem rest_ind {keep : List (Addr × Obj)} {I : Addr} {vs : List Value} (P : Nat → (Str → Option Value) → List (Addr × Obj) → Prop)
    (turn : ∀ i v m news T t h tk oe oi, vs[i]? = some v → P i m news → IsTup h T #[.int (i : Nat) t, v] → Fr h₀ env.locals h m → oe.cls = .type "enumerate" → oi.cls = .type "list_iterator" → News h₀ env.locals h ((I + 1, oe) :: (I, oi) :: news) →
      wpAny (model prog w) A (assign (.Tuple elts kk pos) env (.ref T)) (fun _ s₂ => wpAny (model prog w) A (execs body env) (UnrPostW h₀ env.locals { s with heap := h, toks := tk } [(I + 1, oe), (I, oi)] (fun m' n' => SubL keep n' ∧ P (i + 1) m' n') Q) E s₂) E { s with heap := h, toks := tk })
    (done : ∀ m news h tk, P vs.length m news → Fr h₀ env.locals h m → News h₀ env.locals h news → Q .next { s with heap := h, toks := tk }) :
    ∀ (rem : List Value) (i : Nat) (m : Str → Option Value) (news : List (Addr × Obj)), vs.drop i = rem → i ≤ vs.length → P i m news → ItemsRest prog w A E h₀ env (.Tuple elts kk pos) body Q s [(I + 1, "enumerate"), (I, "list_iterator")] keep (enumItems i rem) m news := by
  intro rem
  induction rem with
  | nil =>
    intro i m news hd hi hp
    have e : i = vs.length := Nat.le_antisymm hi (List.drop_eq_nil_iff.mp hd)
    subst e
    exact fun h tk F N => done m news h tk hp F N
  | cons v r ih =>
    intro i m news hd hi hp
    have hlt : i < vs.length := by
      rcases Nat.lt_or_ge i vs.length with h | h
      · exact h
      · rw [List.drop_eq_nil_iff.mpr h] at hd; cases hd
    have hv : vs[i]? = some v := by
      have := List.getElem?_drop (xs := vs) (i := i) (j := 0)
      rw [hd] at this
      simpa using this.symm
    have hr : vs.drop (i + 1) = r := by
      rw [← List.drop_drop, hd]; rfl
    refine ItemsRest.pair fun T t h tk ht F => AllObj.cons fun oe he => AllObj.cons fun oi hoi => AllObj.nil fun N => ?_
    refine wpAny_mono (turn i v m news T t h tk oe oi hv hp ht F he hoi N) (fun _ s₂ h₂ => wpAny_mono h₂ (fun f s₃ q => ?_) fun _ _ e => e) fun _ _ e => e
    have up : UnrEndW h₀ env.locals { s with heap := h, toks := tk } [(I + 1, oe), (I, oi)] (fun m' n' => SubL keep n' ∧ P (i + 1) m' n') s₃ → UnrEndW h₀ env.locals { s with heap := h, toks := tk } [(I + 1, oe), (I, oi)] (fun m' n' => SubL keep n' ∧ ItemsRest prog w A E h₀ env (.Tuple elts kk pos) body Q s [(I + 1, "enumerate"), (I, "list_iterator")] keep (enumItems (i + 1) r) m' n') s₃ := by
      rintro ⟨h', tk', m', news', e, F', N', ho, hk, hp'⟩
      exact ⟨h', tk', m', news', e, F', N', ho, hk, ih (i + 1) m' news' hr hlt hp'⟩
    cases f with
    | ret v => exact q
    | brk => exact q
    | next => exact up q
    | cont => exact up q
end
def bodyOf (K : Frag) (f : Addr) : List Stmt := match K.lookup f with
  | some ⟨_, _, .func fd, _⟩ => (match fd.body with | .stmts b => b | _ => [])
  | _ => []
def scopeOf (K : Frag) (f : Addr) : Scope := match K.lookup f with
  | some ⟨_, _, .func fd, _⟩ => fd.scope
  | _ => default
def qualOf (K : Frag) (f : Addr) : Str := match K.lookup f with
  | some ⟨_, _, .func fd, _⟩ => fd.qualname
  | _ => Str.empty
section
variable {K : Frag} {f : Addr} {name qual : Str} {params : Arguments} {body : List Stmt} {scope : Scope} {dV kV doc pm cdv ct oc : Value} {an od : Option Addr} {osl : Array (Option Value)}
theorem bodyOf_eq (ho : K.lookup f = some ⟨oc, od, .func (fnOf name qual params body scope dV kV doc pm an cdv ct), osl⟩) : bodyOf K f = body ∧ scopeOf K f = scope ∧ qualOf K f = qual := by
  unfold bodyOf scopeOf qualOf
  rw [ho]
  exact ⟨rfl, rfl, rfl⟩
end
theorem room_l {R U dp un : Nat} (h : dp + 200 < R) (h' : un + 2000 < U) : dp + 11 < R ∧ un + 64 < U := by omega
theorem room_m {R dp a b : Nat} (h : dp + 200 < R) (ha : a ≤ 5) (hb : b ≤ 5) : dp + (20 + a + b) < R := by omega
theorem room_n {R dp a : Nat} (h : dp + 200 < R) (ha : a ≤ 5) : dp + (20 + a) < R := by omega
theorem room_u {R dp a : Nat} (h : dp + 2000 < R) (ha : a ≤ 5) : dp + 8 * (20 + a) < R := by omega
theorem len_c {a l r n : Nat} (h : a + (l + r + 1) = n) (h5 : n ≤ 5) : l + r ≤ 5 := by omega
theorem len_d {v : Value} {vs ws : List Value} (h : vs.length ≤ 5) (h' : ws.length ≤ 5) : vs.length + (ws ++ [v]).length ≤ 1000 := by simp only [List.length_append, List.length_cons, List.length_nil]; omega
theorem len_e {v : Value} {vs ws : List Value} (h : vs.length ≤ 5) (h' : ws.length ≤ 5) : (vs ++ (ws ++ [v])).length ≤ 11 := by simp only [List.length_append, List.length_cons, List.length_nil]; omega
theorem size_take {t : HT} {ks : List Int} {i : Nat} (p : t.keys.Perm (ks.take i)) : t.size ≤ ks.length := by
  rw [← keys_length, p.length_eq]
  exact List.length_take_le' ..
section
variable {w : World} {mean : ExcName → Option Value} {mg mb : Str → Option Value} {dp un : Nat} {gd : Option (List Code)} {a : Addr} {ccd : Value} {cl : List (Str × Addr)} {outer : List Env} {A₀ : Around} {base h₀ : Heap} {L : Addr} {m : Str → Option Value} {news : List (Addr × Obj)} {s : Shared} {Q : Flow → Shared → Prop} {E : Value → Shared → Prop}
def LoopP (Dk Lo : Addr) (kvs : List Value) (kn : Nat) (ks : List Int) (i : Nat) (m : Str → Option Value) (news : List (Addr × Obj)) : Prop :=
  ∃ v t, m (Str.ofString "keys") = some (.ref Dk) ∧ m (Str.ofString "off") = some (.ref Lo) ∧ m (Str.ofString "top") = some v ∧ (Dk, W.listOf kvs.toArray kn) ∈ news ∧ (Lo, W.listOf #[] 0) ∈ news ∧
    Tree news v t ∧ Good 0 t ∧ t.keys.Perm (ks.take i) ∧ t.vls.Nodup ∧ Dk ∉ t.vls ∧ Lo ∉ t.vls
theorem ints_at {vs : List Value} {ns : List Int} (h : IntsAre vs ns) : ∀ {i : Nat} {v : Value}, vs[i]? = some v → ∃ k t, v = .int k t ∧ ns[i]? = some k := by
  induction h with
  | nil => intro i v e; simp at e
  | cons n t _ ih =>
    intro i v e
    cases i with
    | zero => exact ⟨n, t, by simpa using e.symm, rfl⟩
    | succ i => exact ih (by simpa using e)
theorem law_tail (B : Below A₀ base outer h₀) (F : Fr h₀ L s.heap m) (X : (Mine.hd.heap_39 w.params).In h₀) (N : News h₀ L s.heap news) (T : Top Mine.hd.view_39 (looseW Mine.hd.view_39 [Str.ofString "SnobolError"]) mean mg mb h₀)
    (hd : dp + 200 < recursionLimit) (hu : un + 2000 < cLine) {Dk Lo : Addr} {kvs : List Value} {ks : List Int} {kn : Nat} {tk : Tok}
    (hmk : m (Str.ofString "keys") = some (.ref Dk)) (hmo : m (Str.ofString "off") = some (.ref Lo)) (hmt : m (Str.ofString "top") = some (.str (Str.ofString "") tk))
    (hDk : (Dk, W.listOf kvs.toArray kn) ∈ news) (hLo : (Lo, W.listOf #[] 0) ∈ news) (hI : IntsAre kvs ks) (h5 : ks.length ≤ 5) (hpos : ∀ k ∈ ks, 0 ≤ k) (hne : Dk ≠ Lo)
    (hE : PassesOwn (model PySem.Challenge.rw_xw0301_01.row.prog w) (ktrTop dp un gd (qualOf (Mine.hd.heap_39 w.params) 260) (scopeOf (Mine.hd.heap_39 w.params) 260) L a ccd cl outer) (envX (qualOf (Mine.hd.heap_39 w.params) 260) (scopeOf (Mine.hd.heap_39 w.params) 260) L a ccd cl) E)
    (ret : ∀ h' tk' m', Fr h₀ L h' m' → Q (.ret (.bool true)) { s with heap := h', toks := tk' }) :
    wpAny (model PySem.Challenge.rw_xw0301_01.row.prog w) (ktrTop dp un gd (qualOf (Mine.hd.heap_39 w.params) 260) (scopeOf (Mine.hd.heap_39 w.params) 260) L a ccd cl outer) (execs ((bodyOf (Mine.hd.heap_39 w.params) 260).drop 4) (envX (qualOf (Mine.hd.heap_39 w.params) 260) (scopeOf (Mine.hd.heap_39 w.params) 260) L a ccd cl)) Q E s := by
  revert X; k_fill; intro X
  have Z := bodyOf_eq (K := Mine.hd.heap_39 w.params) (f := 260) (by k_dflt k_is)
  rw [Z.1, Z.2.1, Z.2.2]
  rw [Z.2.1, Z.2.2] at hE
  clear Z
  simp only [List.drop_succ_cons, List.drop_zero]
  k_with_none
  k_with "exec For Tuple Call cons nil" => ((with_reducible show wpAny _ _ (exec (Stmt.For _ _ _ _ _) _) _ _ _); refine stop_at ?_)
  k_with "exec While BoolOp cons nil" => ((with_reducible show wpAny _ _ (exec (Stmt.While _ _ _ _) _) _ _ _); refine stop_at ?_)
  k_with "exec While" => ((with_reducible show wpAny _ _ (exec (Stmt.While _ _ _ _) _) _ _ _); refine stop_at ?_)
  k_with "call ref" => (k_dflt (refine' told_node ?B ?F ?X ?N ?T ?hk ?hd ?hn ?H ?v ?_; (case hn => assumption); (case H => first | exact Fld.key | exact Fld.left | exact Fld.right | exact Fld.rank); (case v => exact rfl); (case B => k_asm); (case F => k_asm); (case X => k_asm); (case N => first | k_asm | exact news_tl (by k_asm) | exact news_tl (news_tl (by k_asm))); (case T => k_asm); (case hk => first | exact rfl | assumption); (case hd => assumption); k_whole; intro h' tk' F' N'; (try k_sweep)))
  k_with "call ref" => ((with_reducible show wpAny _ _ (call (Value.ref 248) [_, _]) _ _ _); refine stop_at ?_)
  k_with "call ref" => ((with_reducible show wpAny _ _ (call (Value.ref 255) [_, _]) _ _ _); refine stop_at ?_)
  k_with "call builtin:isinstance" => (k_dflt (refine' node_notstr ?X ?F ?N ?hn ?_; (case hn => assumption); (case X => k_asm); (case F => k_asm); (case N => k_asm); k_whole))
  k_with "binaryOp Add ref ref" => (k_dflt (refine' my_add ?F ?N ?m1 ?m2 ?hsz ?_; (case F => k_asm); (case N => k_asm); (case m1 => k_mem); (case m2 => k_mem); (case hsz => assumption); k_whole; intro l' h' F' N'; (try k_sweep)))
  k_with "call builtin:len" => (k_dflt (refine' my_len ?N ?m1 ?hsz ?_; (case N => k_asm); (case m1 => k_mem); (case hsz => exact Nat.le_trans (by assumption) (by decide)); k_whole; intro t' tk'))
  k_with "call builtin:sorted" => ((with_reducible show wpAny _ _ (call (Value.builtin _) [Value.ref _]) _ _ _); k_dflt (refine' my_sorted ?F ?N ?m1 ?hI ?h64 ?_; (case F => k_asm); (case N => k_asm); (case m1 => k_mem); (case hI => assumption); (case h64 => first | exact Nat.lt_of_le_of_lt (by assumption) (by decide) | omega); k_whole; intro D' v' n' e' h' F' N' i' p' o'; (try k_sweep)))
  k_with "compareOp NotEq ref ref" => (k_dflt (refine' my_ne ?N ?m1 ?m2 ?hi ?hi' ?hu ?e ?_; (case N => k_asm); (case m1 => k_mem); (case m2 => k_mem); (case hi => assumption); (case hi' => assumption); (case hu => assumption); (case e => exact sorted_same (List.Perm.trans (by assumption) (List.Perm.trans (by assumption) (List.Perm.symm (by assumption)))) (by assumption) (by assumption)); k_whole))
  k_with "compareOp Eq ref ref" => (k_dflt (refine' my_eq ?N ?m1 ?m2 ?hi ?hi' ?hu ?e ?_; (case N => k_asm); (case m1 => k_mem); (case m2 => k_mem); (case hi => assumption); (case hi' => assumption); (case hu => assumption); (case e => exact sorted_same (List.Perm.trans (by assumption) (List.Perm.symm (by assumption))) (by assumption) (by assumption)); k_whole))
  k_with "call builtin:list.append" => (refine stop_at ?_)
  obtain ⟨r11, u64⟩ := room_l hd hu
  have z5 : kvs.length ≤ 5 := by rw [hI.length]; exact h5
  have F := Fr.form3 F hmk hmo hmt
  k_steps
  refine Stop.mk ?_
  (rename Fr _ _ _ _ => F9)
  with_unfolding_all refine' For_turns F9 ?_ (hE := ?hE)
  case hE => exact hE
  k_steps
  (rename Fr _ _ _ _ => F9)
  with_unfolding_all refine' ktu_enum ?k1 ?k2 ?k3 ?k4 ?k5 ?k6 ?k7 ?rest
  case k1 => exact rfl
  case k2 => exact F9
  case k3 => exact N
  case k4 => exact hDk
  case k5 => exact rfl
  case k6 => exact rfl
  case k7 => exact rfl
  intro I hI'
  refine rest_ind (LoopP Dk Lo kvs kn ks) ?turn ?done kvs 0 _ _ rfl (Nat.zero_le _) ?start
  case start => exact ⟨_, .nil, rfl, rfl, rfl, hDk, hLo, .nil _ _, trivial, List.Perm.refl _, List.nodup_nil, List.not_mem_nil, List.not_mem_nil⟩
  case turn =>
    intro i v m1 news1 Tp tt h1 tk1 oe oi hv hP hT F1 hoe hoi N1
    obtain ⟨tv, t, e1, e2, e3, hDk1, hLo1, hTr, hG, hPm, hNd, hDn, hLn⟩ := hP
    obtain ⟨key, tkey, rfl, hkey⟩ := ints_at hI hv
    have F1 := Fr.form3 F1 e1 e2 e3
    k_steps
    refine Stop.mk ?_
    (rename News _ _ _ _ => N2)
    (rename _ < _ ∧ _ < _ ∧ _ < _ ∧ AllLt _ news1 => lt2)
    obtain ⟨-, lt2a, lt2b, lt2c⟩ := lt2
    k_dflt (refine' made_use (made_spec w mean mg mb _ _ _ (Nat.lt_succ_self _)) ?B ?F ?X ?N ?T ?hk ?hd ?R1 ?R2 ?nd ?_; (case B => k_asm); (case F => k_asm); (case X => k_asm); (case N => exact N2); (case T => k_asm); (case hk => exact rfl); (case R1 => exact hTr.mono sub6); (case R2 => exact tree_new))
    case nd =>
      refine (List.perm_append_comm.nodup_iff).mp (List.nodup_cons.mpr ⟨?_, hNd⟩)
      exact vls_lt hTr lt2c
    case hd => exact room_m hd (Nat.le_trans (size_take hPm) h5) (Nat.le_of_ble_eq_true rfl)
    intro r3 news3 h3 tk3 F3 N3 K3 R3
    obtain ⟨t3, R3, G3, P3, D3, dk3, lo3, mk3, ml3, me3, mi3⟩ := turn_facts N2 sub6 hTr hG (hpos key (List.mem_of_getElem? hkey)) hPm hkey hNd hDn hLn lt2c hDk1 hLo1 (.tail _ (.tail _ (.tail _ (.tail _ (.head _))))) (.tail _ (.tail _ (.tail _ (.tail _ (.tail _ (.head _)))))) hoe hoi lt2a lt2b K3 R3
    clear N2 lt2a lt2b lt2c hTr hG hPm hNd hDn hLn hDk1 hLo1
    have z3 : t3.size ≤ 5 := Nat.le_trans (size_take P3) h5
    k_steps
    refine Stop.mk ?_
    k_dflt (refine' keys_use (keys_spec w mean mg mb _) ?B ?F ?X ?N ?T ?hk ?hd ?hu R3 G3 ?hs ?_; (case B => k_asm); (case F => k_asm); (case X => k_asm); (case N => k_asm); (case T => k_asm); (case hk => exact rfl); (case hd => exact room_n hd (by assumption)); (case hu => exact room_u hu (by assumption)); (case hs => exact Nat.le_trans (by assumption) (by decide)))
    intro l4 vs4 n4 news4 h4 tk4 F4 N4 S4 M4 I4
    have R4 := R3.mono S4
    have mk4 := S4 _ mk3
    have ml4 := S4 _ ml3
    have me4 := S4 _ me3
    have mi4 := S4 _ mi3
    clear R3 mk3 ml3 me3 mi3 S4
    have z4 : vs4.length ≤ 5 := by rw [I4.length, keys_length]; exact z3
    k_steps
    (rename Fr _ _ _ _ => F9)
    (rename News _ _ _ _ => N9)
    refine ⟨_, _, _, clean news4, rfl, F9, ?_, ?_, ⟨mem_clean mk4 rfl, trivial⟩, r3, t3, rfl, rfl, rfl, mem_clean mk4 rfl, mem_clean ml4 rfl, R4.clean, G3, P3, D3, dk3, lo3⟩
    · intro p hp
      rcases List.mem_append.mp hp with hp | hp
      · rcases List.mem_cons.mp hp with rfl | hp
        · exact N9 _ (.tail _ (.tail _ (.tail _ me4)))
        · rw [List.mem_singleton.mp hp]
          exact N9 _ (.tail _ (.tail _ (.tail _ mi4)))
      · exact N9 _ (.tail _ (.tail _ (.tail _ (clean_sub hp))))
    · exact clean_off N9 (fun p hp => .tail _ (.tail _ (.tail _ hp))) me4 mi4 hoe hoi
  case done =>
    intro m1 news1 h1 tk1 hP F1 N1
    obtain ⟨tv, t, e1, e2, e3, hDk1, hLo1, hTr, hG, hPm, hNd, hDn, hLn⟩ := hP
    clear F9 F N hDk hLo hmk hmo hmt hI'
    have F1 : Fr h₀ L h1 m1 := F1
    have N1 : News h₀ L h1 news1 := N1
    have hPm : t.keys.Perm ks := by rw [hI.length, List.take_length] at hPm; exact hPm
    try dsimp only
    k_steps
    refine Stop.mk ?_
    with_unfolding_all refine' While_inv2 (WhileP Dk Lo kvs kn ks) (n₀ := t.size) F1 N1 ?hJ ?wturn ?hE
    case hE => exact hE
    case hJ => exact ⟨tv, t, [], [], 0, e1, e2, e3, hDk1, hLo1, .nil, hTr, hG, hPm, .nil, fun _ h => (nomatch h), hNd, hDn, hLn, rfl⟩
    clear F1 N1 hDk1 hLo1 hTr hG hPm hNd hDn hLn e1 e2 e3
    case wturn =>
    intro n m2 news2 h2 tk2 F2 N2 hJ
    obtain ⟨tv, t, offs, ovs, on, e1, e2, e3, hDk1, hLo1, hIo, hTr, hG, hPm, hSo, hLe, hNd, hDn, hLn, hn⟩ := hJ
    have hlen := hPm.length_eq
    rw [List.length_append, keys_length, ← hI.length, ← hIo.length] at hlen
    have z8 : ovs.length ≤ 5 := Nat.le_trans (Nat.le_add_right _ t.size) (hlen ▸ z5)
    cases hTr with
    | nil z tz =>
      have F2 := Fr.form3 F2 e1 e2 e3
      have P0 : offs.Perm ks := by simpa [HT.keys] using hPm
      k_steps
      all_goals exact ret _ _ _ (by k_asm)
    | @node x vl k rk u1 u2 lv rv l r hd1 hl1 hr1 =>
      have hTr' := Tree.node hd1 hl1 hr1
      have F2 := Fr.form3 F2 e1 e2 e3
      simp only [HT.size] at hlen
      have zlr : l.size + r.size ≤ 5 := len_c hlen z5
      k_steps
      refine Stop.mk ?_
      (rename Fr _ _ _ _ => F4)
      (rename News _ _ _ _ => N4)
      k_dflt (refine' my_append F4 N4 hLo1 (Nat.le_trans z8 (by decide)) ?_)
      intro h5 F5 N5
      have R5 := Tree.offl (q := (Lo, W.listOf (ovs ++ [Value.int k u1]).toArray (on + 1))) N4 hTr' hLo1 hIo hLn
      have mk5 := mem_off (q := (Lo, W.listOf (ovs ++ [Value.int k u1]).toArray (on + 1))) hDk1 hne
      have ml5 : (Lo, W.listOf (ovs ++ [Value.int k u1]).toArray (on + 1)) ∈ (Lo, W.listOf (ovs ++ [Value.int k u1]).toArray (on + 1)) :: news2.filter (fun p => p.1 != Lo) := .head _
      clear hTr' hd1 hl1 hr1 hDk1 hLo1 N4 F4 e1 e2 e3
      obtain ⟨G6, P6, S6, L6⟩ := off_step hG hPm hSo hLe
      have I5 := hIo.append (.cons k u1 .nil)
      generalize (Lo, W.listOf (ovs ++ [Value.int k u1]).toArray (on + 1)) :: news2.filter (fun p => p.1 != Lo) = news5 at *
      cases R5 with
      | @node _ _ _ _ u3 u4 lv5 rv5 _ _ hd5 hl5 hr5 =>
      k_steps
      refine Stop.mk ?_
      have D5 : (l.vls ++ r.vls).Nodup := (List.nodup_cons.mp hNd).2
      have dk5 : Dk ∉ l.vls ++ r.vls := fun hm => hDn (.tail _ hm)
      have lo5 : Lo ∉ l.vls ++ r.vls := fun hm => hLn (.tail _ hm)
      k_dflt (refine' made_use (made_spec w mean mg mb _ _ _ (Nat.lt_succ_self _)) ?B ?F ?X ?N ?T ?hk ?hd hl5 hr5 D5 ?_; (case B => k_asm); (case F => k_asm); (case X => k_asm); (case N => k_asm); (case T => k_asm); (case hk => exact rfl); (case hd => exact room_m hd (Nat.le_trans (Nat.le_add_right _ r.size) zlr) (Nat.le_trans (Nat.le_add_left _ l.size) zlr)))
      intro r6 news6 h6 tk6 F6 N6 K6 R6
      have mk6 := K6 _ mk5 dk5
      have ml6 := K6 _ ml5 lo5
      have V := merge_vls _ l r (Nat.le_refl _)
      have D6 := V.nodup_iff.mpr D5
      have dk6 : Dk ∉ (merge l r).vls := fun hm => dk5 (V.mem_iff.mp hm)
      have lo6 : Lo ∉ (merge l r).vls := fun hm => lo5 (V.mem_iff.mp hm)
      have Z6 := merge_size l r
      have hn6 : (merge l r).size < n := by rw [hn, HT.size, Z6]; exact Nat.lt_succ_self _
      have z6 : (merge l r).size ≤ 5 := by rw [Z6]; exact zlr
      clear K6 V D5 dk5 lo5 hd5 hl5 hr5 mk5 ml5 hG hPm hSo hLe hNd hDn hLn hn
      generalize merge l r = t6 at *
      k_steps
      refine Stop.mk ?_
      k_dflt (refine' keys_use (keys_spec w mean mg mb _) ?B ?F ?X ?N ?T ?hk ?hd ?hu R6 G6 ?hs ?_; (case B => k_asm); (case F => k_asm); (case X => k_asm); (case N => k_asm); (case T => k_asm); (case hk => exact rfl); (case hd => exact room_n hd (by assumption)); (case hu => exact room_u hu (by assumption)); (case hs => exact Nat.le_trans (by assumption) (by decide)))
      intro l7 vs7 n7 news7 h7 tk7 F7 N7 S7 M7 I7
      have R7 := R6.mono S7
      have mk7 := S7 _ mk6
      have ml7 := S7 _ ml6
      have I8 := I7.append I5
      have P8 : (t6.keys ++ (offs ++ [k])).Perm ks := List.perm_append_comm.trans P6
      have z7 : vs7.length ≤ 5 := by rw [I7.length, keys_length]; exact z6
      have z9 := len_d (v := Value.int k u1) z7 z8
      have z10 := len_e (v := Value.int k u1) z7 z8
      clear hlen zlr Z6 z6
      clear R6 mk6 ml6 S7
      k_steps
      (rename Fr _ _ _ _ => F9)
      (rename News _ _ _ _ => N9)
      exact ⟨_, _, _, news7, t6.size, rfl, F9, fun p hp => N9 p (.tail _ (.tail _ (.tail _ hp))), hn6, r6, t6, offs ++ [k], ovs ++ [Value.int k u1], on + 1, rfl, rfl, rfl, mk7, ml7, I5, R7, G6, P6, S6, L6, D6, dk6, lo6, rfl⟩
end
end
section
variable {w : World} {mean : ExcName → Option Value} {mg mb : Str → Option Value} {dp un : Nat} {gd : Option (List Code)} {a : Addr} {ccd : Value} {cl : List (Str × Addr)} {outer : List Env} {A₀ : Around} {base h₀ : Heap} {L : Addr} {m : Str → Option Value} {news : List (Addr × Obj)} {s : Shared} {Q : Flow → Shared → Prop} {E : Value → Shared → Prop}
theorem law_tail' {body : List Stmt} {scope : Scope} {qual : Str} (Z : bodyOf (Mine.hd.heap_39 w.params) 260 = body ∧ scopeOf (Mine.hd.heap_39 w.params) 260 = scope ∧ qualOf (Mine.hd.heap_39 w.params) 260 = qual)
    (B : Below A₀ base outer h₀) (F : Fr h₀ L s.heap m) (X : (Mine.hd.heap_39 w.params).In h₀) (N : News h₀ L s.heap news) (T : Top Mine.hd.view_39 (looseW Mine.hd.view_39 [Str.ofString "SnobolError"]) mean mg mb h₀)
    (hd : dp + 200 < recursionLimit) (hu : un + 2000 < cLine) {Dk Lo : Addr} {kvs : List Value} {ks : List Int} {kn : Nat} {tk : Tok}
    (hmk : m (Str.ofString "keys") = some (.ref Dk)) (hmo : m (Str.ofString "off") = some (.ref Lo)) (hmt : m (Str.ofString "top") = some (.str (Str.ofString "") tk))
    (hDk : (Dk, W.listOf kvs.toArray kn) ∈ news) (hLo : (Lo, W.listOf #[] 0) ∈ news) (hI : IntsAre kvs ks) (h5 : ks.length ≤ 5) (hpos : ∀ k ∈ ks, 0 ≤ k) (hne : Dk ≠ Lo)
    (hE : PassesOwn (model PySem.Challenge.rw_xw0301_01.row.prog w) (ktrTop dp un gd qual scope L a ccd cl outer) (envX qual scope L a ccd cl) E)
    (ret : ∀ h' tk' m', Fr h₀ L h' m' → Q (.ret (.bool true)) { s with heap := h', toks := tk' }) :
    wpAny (model PySem.Challenge.rw_xw0301_01.row.prog w) (ktrTop dp un gd qual scope L a ccd cl outer) (execs (body.drop 4) (envX qual scope L a ccd cl)) Q E s := by
  obtain ⟨rfl, rfl, rfl⟩ := Z
  exact law_tail B F X N T hd hu hmk hmo hmt hDk hLo hI h5 hpos hne hE ret
end
theorem pow_bound {k x : Int} (h : k < 0 + ((1 + x.fmod 5 - 0).toNat : Int)) (h5 : x.fmod 5 < 5) : k ≤ 1000000 := by omega
theorem range_len {x : Int} (h5 : x.fmod 5 < 5) : (1 + x.fmod 5 - 0).toNat ≤ 5 := by omega
theorem seven_ne (n : Nat) : (7 : Int) ^ n ≠ 0 := Int.ne_of_gt (Int.pow_pos (by decide))
theorem keys_pos (c : Int) (n : Nat) : ∀ k ∈ (rangeKs 0 n).map (fun k' => if ¬ (7 : Int) ^ k'.toNat = 0 then (c.fdiv (7 ^ k'.toNat)).fmod 7 else k'), 0 ≤ k := by
  intro k hk
  obtain ⟨j, hj, rfl⟩ := List.mem_map.mp hk
  rw [if_pos (seven_ne _)]
  exact Int.fmod_nonneg_of_pos _ (by decide)
set_option maxRecDepth 100000 in
set_option maxHeartbeats 8000000 in
theorem main : PySem.Challenge.rw_xw0301_01.Holds := by
  refine Mine.hd ?_
  k_with_none
  k_with "execs cons" => ((with_reducible show wpAny _ _ (execs (Stmt.For _ _ _ _ _ :: _) _) _ _ _); refine stop_at ?_)
  k_with "binaryOp Pow int int" => (k_dflt (refine' pow_int_small ?zp1 ?zp2 ?zp3 ?_; (case zp1 => assumption); (case zp2 => exact pow_bound (by assumption) (by assumption)); (case zp3 => decide); k_whole))
  w_strict (k_go0; (all_goals try k_fold); k_steps)
  · exact absurd (by assumption) (seven_ne _)
  · refine Stop.mk ?_
    (rename World => w9)
    have Z := bodyOf_eq (K := Mine.hd.heap_39 w9.params) (f := 260) (by k_dflt k_is)
    (rename Fr _ _ _ _ => F9)
    (rename News _ _ _ _ => N9)
    (rename IntsAre _ _ => I9)
    (rename Below _ _ _ _ => B9)
    with_unfolding_all refine' law_tail' Z B9 F9 ?X N9 ?T ?hd ?hu ?hmk ?hmo ?hmt ?hDk ?hLo I9 ?h5 ?hpos ?hne ?hE ?ret
    case X => first | assumption | k_in
    case T => first | assumption | k_asm
    case hd => decide
    case hu => first | decide | exact Nat.le_of_ble_eq_true rfl
    case hmk => with_unfolding_all rfl
    case hmo => with_unfolding_all rfl
    case hmt => with_unfolding_all rfl
    case hDk => k_dflt k_mem
    case hLo => k_dflt k_mem
    case h5 => rw [List.length_map, rangeKs_length]; exact range_len (by assumption)
    case hpos => exact keys_pos _ _
    case hne => k_ne
    case hE => first | passes_own | with_unfolding_all passes_own
    case ret =>
      intro h' tk' m' F'
      k_steps
      all_goals w_report
end Mine
theorem PySem.Challenge.cw_xw0301_01_holds : PySem.Challenge.rw_xw0301_01.Holds := by
  exact Mine.main
