import PyProof.Rows.All
import Wide.All
import OpenK.AllK
import Wide.FinOn
import HandS.ForMost
import KE.KeyNested
import PyProof.DictRoadsH
import HandS.Deep
import KE.DataEq
import KE.KDictKeyed
import PyProof.CollectIter
import PyProof.WalksMore
import HandS.MakeKwOnly
import HandS.Conv
import HandS.More
import KE.KDictDisplayH
import PyProof.ListStr
import HandS.DictComp
import HandS.IsInst
import HandS.FStr
import HandS.Defaults
import HandS.Flow
import HandS.Sort
import HandS.Evl
import HandS.SortRule
import PySem.Challenge.RW_fivefault_k13_whole_goals_have_a_derivat
set_option Elab.async false
section Head
open PySem PySem.W PyProof.Rows
set_option Elab.async false
set_option maxRecDepth 100000
set_option maxHeartbeats 0
open_top hd for PySem.Challenge.rw_fivefault_k13_whole_goals_have_a_derivat
end Head
section T_FM1
set_option autoImplicit false
namespace FF
/-- a term: a letter by its code, or an operator (true: the lower bound) with parts -/
inductive Tm where
  | leaf (c : Nat)
  | node (op : Bool) (ts : List Tm)
noncomputable instance : DecidableEq Tm := fun a b => Classical.propDecidable (a = b)
def opc (op : Bool) : Nat := if op then 38 else 124
def Tm.parts : Tm → List Tm
  | .leaf _ => []
  | .node _ ts => ts
mutual
def Tm.size : Tm → Nat
  | .leaf _ => 1
  | .node _ ts => sizes ts
def sizes : List Tm → Nat
  | [] => 0
  | t :: ts => t.size + sizes ts
end
mutual
def Tm.depth : Tm → Nat
  | .leaf _ => 1
  | .node _ ts => depths ts + 1
def depths : List Tm → Nat
  | [] => 0
  | t :: ts => max t.depth (depths ts)
end
mutual
def Tm.WF : Tm → Prop
  | .leaf c => 97 ≤ c ∧ c < 105
  | .node _ ts => 2 ≤ ts.length ∧ WFs ts
def WFs : List Tm → Prop
  | [] => True
  | t :: ts => t.WF ∧ WFs ts
end
mutual
/-- the term and the subterms of its parts, from the left -/
def Tm.walk : Tm → List Tm
  | .leaf c => [.leaf c]
  | .node op ts => .node op ts :: walks ts
def walks : List Tm → List Tm
  | [] => []
  | t :: ts => t.walk ++ walks ts
end
mutual
/-- a part as it stands in a text -/
def Tm.ptx : Tm → List Nat
  | .leaf c => [c]
  | .node op ts => 40 :: (joinT op ts ++ [41])
def joinT (op : Bool) : List Tm → List Nat
  | [] => []
  | t :: ts => t.ptx ++ tailT op ts
def tailT (op : Bool) : List Tm → List Nat
  | [] => []
  | t :: ts => 32 :: opc op :: 32 :: (t.ptx ++ tailT op ts)
end
/-- the text of a term -/
def Tm.txt : Tm → List Nat
  | .leaf c => [c]
  | .node op ts => joinT op ts
theorem wfs_iff : ∀ ts : List Tm, WFs ts ↔ ∀ t ∈ ts, t.WF
  | [] => by simp [WFs]
  | t :: ts => by simp [WFs, wfs_iff ts]
theorem walks_eq : ∀ ts : List Tm, walks ts = ts.flatMap Tm.walk
  | [] => rfl
  | t :: ts => by simp [walks, walks_eq ts, List.flatMap_cons]
theorem mem_walks {t : Tm} {ts : List Tm} : t ∈ walks ts ↔ ∃ u ∈ ts, t ∈ u.walk := by
  rw [walks_eq]; simp [List.mem_flatMap]
theorem self_walk (t : Tm) : t ∈ t.walk := by cases t <;> simp [Tm.walk]
theorem walk_cons (t : Tm) : t.walk = t :: walks t.parts := by cases t <;> simp [Tm.walk, Tm.parts, walks]
theorem part_walk {t p : Tm} (h : p ∈ t.parts) : p ∈ t.walk := by
  rw [walk_cons]
  exact List.mem_cons_of_mem _ (mem_walks.mpr ⟨p, h, self_walk p⟩)
mutual
theorem walk_trans : ∀ (t u v : Tm), u ∈ t.walk → v ∈ u.walk → v ∈ t.walk
  | .leaf c, u, v, h, k => by
    simp only [Tm.walk, List.mem_singleton] at h
    subst h; exact k
  | .node op ts, u, v, h, k => by
    simp only [Tm.walk, List.mem_cons] at h
    rcases h with rfl | h
    · exact k
    · simp only [Tm.walk, List.mem_cons]
      exact .inr (walks_trans ts u v h k)
theorem walks_trans : ∀ (ts : List Tm) (u v : Tm), u ∈ walks ts → v ∈ u.walk → v ∈ walks ts
  | [], u, v, h, _ => by simp [walks] at h
  | t :: ts, u, v, h, k => by
    simp only [walks, List.mem_append] at h ⊢
    rcases h with h | h
    · exact .inl (walk_trans t u v h k)
    · exact .inr (walks_trans ts u v h k)
end
mutual
theorem walk_wf : ∀ (t u : Tm), t.WF → u ∈ t.walk → u.WF
  | .leaf c, u, w, h => by
    simp only [Tm.walk, List.mem_singleton] at h
    subst h; exact w
  | .node op ts, u, w, h => by
    simp only [Tm.walk, List.mem_cons] at h
    rcases h with rfl | h
    · exact w
    · exact walks_wf ts u w.2 h
theorem walks_wf : ∀ (ts : List Tm) (u : Tm), WFs ts → u ∈ walks ts → u.WF
  | [], u, _, h => by simp [walks] at h
  | t :: ts, u, w, h => by
    simp only [walks, List.mem_append] at h
    simp only [WFs] at w
    rcases h with h | h
    · exact walk_wf t u w.1 h
    · exact walks_wf ts u w.2 h
end
mutual
theorem walk_depth : ∀ (t u : Tm), u ∈ t.walk → u.depth ≤ t.depth
  | .leaf c, u, h => by
    simp only [Tm.walk, List.mem_singleton] at h
    subst h; exact Nat.le_refl _
  | .node op ts, u, h => by
    simp only [Tm.walk, List.mem_cons] at h
    rcases h with rfl | h
    · exact Nat.le_refl _
    · have := walks_depth ts u h
      simp only [Tm.depth]; omega
theorem walks_depth : ∀ (ts : List Tm) (u : Tm), u ∈ walks ts → u.depth ≤ depths ts
  | [], u, h => by simp [walks] at h
  | t :: ts, u, h => by
    simp only [walks, List.mem_append] at h
    simp only [depths]
    rcases h with h | h
    · have := walk_depth t u h; omega
    · have := walks_depth ts u h; omega
end
theorem depths_le {t : Tm} {ts : List Tm} (h : t ∈ ts) : t.depth ≤ depths ts :=
  walks_depth ts t (mem_walks.mpr ⟨t, h, self_walk t⟩)
theorem opc_inj {a b : Bool} (h : opc a = opc b) : a = b := by cases a <;> cases b <;> simp [opc] at h ⊢
mutual
theorem ptx_inj : ∀ (t : Tm), t.WF → ∀ t' : Tm, t'.WF → ∀ r r' : List Nat, t.ptx ++ r = t'.ptx ++ r' → t = t' ∧ r = r'
  | .leaf c, w, .leaf c', w', r, r', h => by
    simp only [Tm.ptx, List.cons_append, List.nil_append, List.cons.injEq] at h
    exact ⟨by rw [h.1], h.2⟩
  | .leaf c, w, .node op' ts', w', r, r', h => by
    simp only [Tm.ptx, List.cons_append, List.nil_append, List.cons.injEq] at h
    simp only [Tm.WF] at w
    omega
  | .node op ts, w, .leaf c', w', r, r', h => by
    simp only [Tm.ptx, List.cons_append, List.nil_append, List.cons.injEq] at h
    simp only [Tm.WF] at w'
    omega
  | .node op ts, w, .node op' ts', w', r, r', h => by
    simp only [Tm.ptx, List.cons_append, List.nil_append, List.cons.injEq, List.append_assoc, true_and] at h
    simp only [Tm.WF] at w w'
    have q := join_inj ts w.2 ts' w'.2 op op' r r' w.1 w'.1 h
    exact ⟨by rw [q.1, q.2.1], q.2.2⟩
theorem join_inj : ∀ (ts : List Tm), WFs ts → ∀ (ts' : List Tm), WFs ts' → ∀ (op op' : Bool) (r r' : List Nat), 2 ≤ ts.length → 2 ≤ ts'.length →
    joinT op ts ++ 41 :: r = joinT op' ts' ++ 41 :: r' → ts = ts' ∧ op = op' ∧ r = r'
  | [], _, _, _, _, _, _, _, l, _, _ => absurd l (by simp)
  | _ :: _, _, [], _, _, _, _, _, _, l, _ => absurd l (by simp)
  | t :: ts, w, t' :: ts', w', op, op', r, r', l, l', h => by
    simp only [joinT, List.append_assoc] at h
    simp only [WFs] at w w'
    have q := ptx_inj t w.1 t' w'.1 _ _ h
    have q2 := tail_inj ts w.2 ts' w'.2 op op' r r' q.2
    refine ⟨by rw [q.1, q2.1], q2.2.2 ?_, q2.2.1⟩
    intro e
    rw [e] at l
    simp at l
theorem tail_inj : ∀ (ts : List Tm), WFs ts → ∀ (ts' : List Tm), WFs ts' → ∀ (op op' : Bool) (r r' : List Nat),
    tailT op ts ++ 41 :: r = tailT op' ts' ++ 41 :: r' → ts = ts' ∧ r = r' ∧ (ts ≠ [] → op = op')
  | [], _, [], _, op, op', r, r', h => by
    simp only [tailT, List.nil_append, List.cons.injEq, true_and] at h
    exact ⟨rfl, h, fun z => (z rfl).elim⟩
  | [], _, t' :: ts', _, op, op', r, r', h => by
    simp only [tailT, List.nil_append, List.cons_append, List.cons.injEq] at h
    omega
  | t :: ts, _, [], _, op, op', r, r', h => by
    simp only [tailT, List.nil_append, List.cons_append, List.cons.injEq] at h
    omega
  | t :: ts, w, t' :: ts', w', op, op', r, r', h => by
    simp only [tailT, List.cons_append, List.cons.injEq, true_and, List.append_assoc] at h
    simp only [WFs] at w w'
    have q := ptx_inj t w.1 t' w'.1 _ _ h.2
    have q2 := tail_inj ts w.2 ts' w'.2 op op' r r' q.2
    exact ⟨by rw [q.1, q2.1], q2.2.1, fun _ => opc_inj h.1⟩
end
theorem ptx_pos (t : Tm) : 1 ≤ t.ptx.length := by cases t <;> simp [Tm.ptx]
theorem join_len {op : Bool} {ts : List Tm} (h : 2 ≤ ts.length) : 2 ≤ (joinT op ts).length := by
  match ts, h with
  | a :: b :: r, _ => simp only [joinT, tailT, List.length_append, List.length_cons]; omega
/-- a term has one text -/
theorem txt_inj {t t' : Tm} (w : t.WF) (w' : t'.WF) (h : t.txt = t'.txt) : t = t' := by
  cases t with
  | leaf c => cases t' with
    | leaf c' => simp only [Tm.txt, List.cons.injEq, and_true] at h; rw [h]
    | node op' ts' =>
      simp only [Tm.WF] at w'
      have l := join_len (op := op') w'.1
      simp only [Tm.txt] at h
      rw [← h] at l; simp at l
  | node op ts => cases t' with
    | leaf c' =>
      simp only [Tm.WF] at w
      have l := join_len (op := op) w.1
      simp only [Tm.txt] at h
      rw [h] at l; simp at l
    | node op' ts' =>
      simp only [Tm.WF] at w w'
      simp only [Tm.txt] at h
      have q := join_inj ts w.2 ts' w'.2 op op' [] [] w.1 w'.1 (by rw [h])
      rw [q.1, q.2.1]
end FF
end T_FM1

section T_FM2
set_option autoImplicit false
namespace FF
/-- texts by code points -/
def ltC : List Nat → List Nat → Bool
  | [], [] => false
  | [], _ :: _ => true
  | _ :: _, [] => false
  | a :: r, b :: t => a < b || (a == b && ltC r t)
theorem ltC_irrefl : ∀ a : List Nat, ltC a a = false
  | [] => rfl
  | a :: r => by simp [ltC, ltC_irrefl r]
theorem ltC_trans : ∀ {a b c : List Nat}, ltC a b = true → ltC b c = true → ltC a c = true
  | [], [], _, h, _ => by simp [ltC] at h
  | [], _ :: _, [], _, k => by simp [ltC] at k
  | [], _ :: _, _ :: _, _, _ => rfl
  | _ :: _, [], _, h, _ => by simp [ltC] at h
  | _ :: _, _ :: _, [], _, k => by simp [ltC] at k
  | a :: r, b :: t, c :: u, h, k => by
    simp only [ltC, Bool.or_eq_true, decide_eq_true_eq, Bool.and_eq_true, beq_iff_eq] at h k ⊢
    rcases h with h | ⟨h1, h2⟩
    · rcases k with k | ⟨k1, k2⟩
      · exact .inl (by omega)
      · exact .inl (by omega)
    · rcases k with k | ⟨k1, k2⟩
      · exact .inl (by omega)
      · exact .inr ⟨by omega, ltC_trans h2 k2⟩
theorem ltC_tri : ∀ {a b : List Nat}, ltC a b = false → ltC b a = false → a = b
  | [], [], _, _ => rfl
  | [], _ :: _, h, _ => by simp [ltC] at h
  | _ :: _, [], _, k => by simp [ltC] at k
  | a :: r, b :: t, h, k => by
    simp only [ltC, Bool.or_eq_false_iff, decide_eq_false_iff_not, Bool.and_eq_false_iff, beq_eq_false_iff_ne] at h k
    have e : a = b := by omega
    subst e
    rw [ltC_tri (a := r) (b := t) (by rcases h.2 with z | z; exact absurd rfl z; exact z) (by rcases k.2 with z | z; exact absurd rfl z; exact z)]
/-- two strictly ascending lists with the same members are one -/
theorem asc_unique {α : Type} {R : α → α → Prop} (ir : ∀ a, ¬ R a a) (tr : ∀ a b c, R a b → R b c → R a c) : ∀ {l m : List α}, l.Pairwise R → m.Pairwise R → (∀ x, x ∈ l ↔ x ∈ m) → l = m
  | [], [], _, _, _ => rfl
  | [], b :: m, _, _, h => by simpa using (h b).mpr
  | a :: l, [], _, _, h => by simpa using (h a).mp
  | a :: l, b :: m, hl, hm, h => by
    rw [List.pairwise_cons] at hl hm
    have e : a = b := by
      rcases List.mem_cons.mp ((h a).mp List.mem_cons_self) with e | ha
      · exact e
      · rcases List.mem_cons.mp ((h b).mpr List.mem_cons_self) with e | hb
        · exact e.symm
        · exact absurd (tr _ _ _ (hl.1 b hb) (hm.1 a ha)) (ir a)
    subst e
    rw [asc_unique ir tr hl.2 hm.2 fun x => ?_]
    constructor
    · intro hx
      rcases List.mem_cons.mp ((h x).mp (List.mem_cons_of_mem _ hx)) with e | q
      · subst e; exact absurd (hl.1 x hx) (ir x)
      · exact q
    · intro hx
      rcases List.mem_cons.mp ((h x).mpr (List.mem_cons_of_mem _ hx)) with e | q
      · subst e; exact absurd (hm.1 x hx) (ir x)
      · exact q
abbrev LtT (a b : Tm) : Prop := ltC a.txt b.txt = true
/-- the vocabulary of some terms: each once, in ascending order of their texts -/
structure IsVoc (ts W : List Tm) : Prop where
  mem : ∀ t, t ∈ W ↔ t ∈ ts
  asc : W.Pairwise LtT
theorem LtT.irrefl (a : Tm) : ¬ LtT a a := by simp [LtT, ltC_irrefl]
theorem voc_unique {ts ts' W W' : List Tm} (h : IsVoc ts W) (h' : IsVoc ts' W') (e : ∀ t, t ∈ ts ↔ t ∈ ts') : W = W' :=
  asc_unique LtT.irrefl (fun _ _ _ => ltC_trans) h.asc h'.asc fun t => (h.mem t).trans ((e t).trans (h'.mem t).symm)
theorem IsVoc.nodup {ts W : List Tm} (h : IsVoc ts W) : W.Nodup := by
  have k : ∀ a b : Tm, LtT a b → a ≠ b := fun a b q e => LtT.irrefl a (by rw [← e] at q; exact q)
  exact h.asc.imp fun {a b} q => k a b q
noncomputable def insV (t : Tm) : List Tm → List Tm
  | [] => [t]
  | u :: W => if ltC t.txt u.txt = true then t :: u :: W else if t = u then u :: W else u :: insV t W
noncomputable def vocab (ts : List Tm) : List Tm := ts.foldr insV []
theorem mem_insV (t x : Tm) : ∀ W : List Tm, x ∈ insV t W ↔ x = t ∨ x ∈ W
  | [] => by simp [insV]
  | u :: W => by
    unfold insV
    split
    · simp
    · split
      · rename_i h; subst h; simp
      · simp [mem_insV t x W]; exact ⟨fun h => by rcases h with h | h | h <;> simp [h], fun h => by rcases h with h | h | h <;> simp [h]⟩
theorem asc_insV (t : Tm) (wt : t.WF) : ∀ W : List Tm, WFs W → W.Pairwise LtT → (insV t W).Pairwise LtT
  | [], _, _ => by simp [insV]
  | u :: W, w, h => by
    simp only [WFs] at w
    rw [List.pairwise_cons] at h
    unfold insV
    split
    · rename_i c
      rw [List.pairwise_cons, List.pairwise_cons]
      refine ⟨fun x hx => ?_, h⟩
      rcases List.mem_cons.mp hx with e | hx
      · subst e; exact c
      · exact ltC_trans c (h.1 x hx)
    · split
      · rw [List.pairwise_cons]; exact h
      · rename_i c d
        rw [List.pairwise_cons]
        refine ⟨fun x hx => ?_, asc_insV t wt W w.2 h.2⟩
        rcases (mem_insV t x W).mp hx with e | hx
        · subst e
          cases q : ltC u.txt x.txt with
          | true => exact q
          | false => exact absurd (txt_inj wt w.1 (ltC_tri (Bool.eq_false_iff.mpr c) q)) d
        · exact h.1 x hx
theorem vocab_is : ∀ ts : List Tm, WFs ts → IsVoc ts (vocab ts)
  | [], _ => ⟨fun _ => Iff.rfl, List.Pairwise.nil⟩
  | t :: ts, w => by
    simp only [WFs] at w
    have ih := vocab_is ts w.2
    have wv : WFs (vocab ts) := (wfs_iff _).mpr fun u hu => (wfs_iff _).mp w.2 u ((ih.mem u).mp hu)
    refine ⟨fun x => ?_, asc_insV t w.1 _ wv ih.asc⟩
    show x ∈ insV t (vocab ts) ↔ _
    rw [mem_insV, ih.mem, List.mem_cons]
/-- a nodup list inside another is no longer -/
theorem nodup_le {α : Type} : ∀ {l m : List α}, l.Nodup → (∀ x ∈ l, x ∈ m) → l.length ≤ m.length
  | [], _, _, _ => Nat.zero_le _
  | a :: l, m, h, k => by
    classical
    rw [List.nodup_cons] at h
    have ha : a ∈ m := k a List.mem_cons_self
    have ih := nodup_le (l := l) (m := m.erase a) h.2 fun x hx => by
      have ne : x ≠ a := fun e => h.1 (e ▸ hx)
      exact (List.mem_erase_of_ne ne).mpr (k x (List.mem_cons_of_mem _ hx))
    rw [List.length_erase_of_mem ha] at ih
    have : 0 < m.length := List.length_pos_of_mem ha
    simp only [List.length_cons]
    omega
theorem vocab_le {ts us : List Tm} (w : WFs ts) (h : ∀ t ∈ ts, t ∈ us) : (vocab ts).length ≤ us.length :=
  nodup_le (vocab_is ts w).nodup fun x hx => h x (((vocab_is ts w).mem x).mp hx)
/-- the words of pairs of terms -/
def pairTs (ps : List (Tm × Tm)) : List Tm := ps.flatMap fun p => p.1.walk ++ p.2.walk
noncomputable def wordsOf (ps : List (Tm × Tm)) : List Tm := vocab (pairTs ps)
def WFp (ps : List (Tm × Tm)) : Prop := ∀ p ∈ ps, p.1.WF ∧ p.2.WF
theorem mem_pairTs {ps : List (Tm × Tm)} {t : Tm} : t ∈ pairTs ps ↔ ∃ p ∈ ps, t ∈ p.1.walk ∨ t ∈ p.2.walk := by
  simp [pairTs, List.mem_flatMap, List.mem_append]
theorem pairTs_wf {ps : List (Tm × Tm)} (w : WFp ps) : WFs (pairTs ps) := (wfs_iff _).mpr fun t ht => by
  obtain ⟨p, hp, h⟩ := mem_pairTs.mp ht
  rcases h with h | h
  · exact walk_wf _ _ (w p hp).1 h
  · exact walk_wf _ _ (w p hp).2 h
theorem words_is {ps : List (Tm × Tm)} (w : WFp ps) : IsVoc (pairTs ps) (wordsOf ps) := vocab_is _ (pairTs_wf w)
theorem mem_words {ps : List (Tm × Tm)} (w : WFp ps) {t : Tm} : t ∈ wordsOf ps ↔ ∃ p ∈ ps, t ∈ p.1.walk ∨ t ∈ p.2.walk :=
  ((words_is w).mem t).trans mem_pairTs
/-- the words are closed under parts -/
theorem words_part {ps : List (Tm × Tm)} (w : WFp ps) {t p : Tm} (h : t ∈ wordsOf ps) (hp : p ∈ t.parts) : p ∈ wordsOf ps := by
  obtain ⟨q, hq, h⟩ := (mem_words w).mp h
  refine (mem_words w).mpr ⟨q, hq, ?_⟩
  rcases h with h | h
  · exact .inl (walk_trans _ _ _ h (part_walk hp))
  · exact .inr (walk_trans _ _ _ h (part_walk hp))
end FF
end T_FM2

section T_FM3
set_option autoImplicit false
namespace FF
abbrev Pr := Nat × Nat
inductive Rsn where
  | same
  | part
  | rule (name : List Nat)
  | chain (a b : Pr)
  | into (ps : List Pr)
  | out (ps : List Pr)
def refs : Rsn → List Pr
  | .chain a b => [a, b]
  | .into ps => ps
  | .out ps => ps
  | _ => []
abbrev CSt := List (Pr × Rsn)
def keys (s : CSt) : List Pr := s.map (·.1)
/-- the words by their numbers: how many, the operator of each, the numbers of its parts; the rules by numbers -/
structure Wd where
  n : Nat
  op : Nat → Option Bool
  inner : Nat → List Nat
  rules : List (List Nat × Nat × Nat)
structure Wd.Ok (W : Wd) : Prop where
  inner : ∀ i < W.n, ∀ p ∈ W.inner i, p < W.n
  letter : ∀ i, W.op i = none → W.inner i = []
  term : ∀ i < W.n, W.op i ≠ none → W.inner i ≠ []
  rules : ∀ r ∈ W.rules, r.2.1 < W.n ∧ r.2.2 < W.n
def note (s : CSt) (p : Pr) (r : Rsn) : CSt := if p ∈ keys s then s else s ++ [(p, r)]
def begin1 (W : Wd) (s : CSt) : CSt := (List.range W.n).foldl (fun s i => note s (i, i) .same) s
def partN (W : Wd) (i : Nat) (s : CSt) (p : Nat) : CSt := if W.op i = some true then note s (i, p) .part else note s (p, i) .part
def begin2 (W : Wd) (s : CSt) : CSt := (List.range W.n).foldl (fun s i => (W.inner i).foldl (partN W i) s) s
def begin3 (W : Wd) (s : CSt) : CSt := W.rules.foldl (fun s r => note s (r.2.1, r.2.2) (.rule r.1)) s
def beginM (W : Wd) : CSt := begin3 W (begin2 W (begin1 W []))
def turnA (q : Pr) (s : CSt) (i : Nat) : CSt := if (q.2, i) ∈ keys s then note s (q.1, i) (.chain q (q.2, i)) else s
def turnB (q : Pr) (s : CSt) (i : Nat) : CSt := if (i, q.1) ∈ keys s then note s (i, q.2) (.chain (i, q.1) q) else s
def turnM (q : Pr) (s : CSt) (i : Nat) : CSt := turnB q (turnA q s i) i
def neededA (W : Wd) (q : Pr) (i : Nat) : List Pr := (W.inner i).map fun p => (q.1, p)
def neededB (W : Wd) (q : Pr) (i : Nat) : List Pr := (W.inner i).map fun p => (p, q.2)
def widenA (W : Wd) (q : Pr) (s : CSt) (i : Nat) : CSt :=
  if W.op i = some true ∧ q.2 ∈ W.inner i then (if ∀ p ∈ neededA W q i, p ∈ keys s then note s (q.1, i) (.into (neededA W q i)) else s) else s
def widenB (W : Wd) (q : Pr) (s : CSt) (i : Nat) : CSt :=
  if W.op i = some false ∧ q.1 ∈ W.inner i then (if ∀ p ∈ neededB W q i, p ∈ keys s then note s (i, q.2) (.out (neededB W q i)) else s) else s
def widenT (W : Wd) (q : Pr) (s : CSt) (i : Nat) : CSt := widenB W q (widenA W q s i) i
def widenM (W : Wd) (q : Pr) (s : CSt) : CSt := (List.range W.n).foldl (widenT W q) s
def chainM (W : Wd) (q : Pr) (s : CSt) : CSt := (List.range W.n).foldl (turnM q) s
def stepC (W : Wd) (q : Pr) (s : CSt) : CSt := widenM W q (chainM W q s)
def finM (W : Wd) : Nat → Nat → CSt → CSt
  | 0, _, s => s
  | f + 1, d, s => match s[d]? with
    | some e => finM W f (d + 1) (stepC W e.1 s)
    | none => s
def closeM (W : Wd) : CSt := finM W (W.n * W.n) 0 (beginM W)

/-- the form of a reason -/
def Fits (W : Wd) (p : Pr) : Rsn → Prop
  | .same => p.1 = p.2
  | .part => (W.op p.1 = some true ∧ p.2 ∈ W.inner p.1) ∨ (W.op p.2 = some false ∧ p.1 ∈ W.inner p.2)
  | .rule nm => (nm, p.1, p.2) ∈ W.rules
  | .chain a b => a.1 = p.1 ∧ a.2 = b.1 ∧ b.2 = p.2
  | .into ps => W.op p.2 = some true ∧ ps = (W.inner p.2).map fun x => (p.1, x)
  | .out ps => W.op p.1 = some false ∧ ps = (W.inner p.1).map fun x => (x, p.2)
def Before (s : CSt) (j : Nat) (q : Pr) : Prop := ∃ i, i < j ∧ (keys s)[i]? = some q
structure Good (W : Wd) (s : CSt) : Prop where
  nodup : (keys s).Nodup
  rng : ∀ p ∈ keys s, p.1 < W.n ∧ p.2 < W.n
  ok : ∀ (j : Nat) (p : Pr) (r : Rsn), s[j]? = some (p, r) → Fits W p r ∧ ∀ q ∈ refs r, Before s j q
section
variable {W : Wd} {s s' : CSt}
theorem keys_append (s t : CSt) : keys (s ++ t) = keys s ++ keys t := by simp [keys]
theorem keys_len (s : CSt) : (keys s).length = s.length := by simp [keys]
theorem note_pre (s : CSt) (p : Pr) (r : Rsn) : s <+: note s p r := by
  unfold note; split
  · exact List.prefix_refl s
  · exact List.prefix_append s _
theorem note_mem (s : CSt) (p : Pr) (r : Rsn) : p ∈ keys (note s p r) := by
  unfold note; split
  · assumption
  · rw [keys_append]; simp [keys]
theorem pre_keys (h : s <+: s') : keys s <+: keys s' := by
  obtain ⟨t, rfl⟩ := h
  exact ⟨keys t, (keys_append s t).symm⟩
theorem pre_mem (h : s <+: s') {p : Pr} (k : p ∈ keys s) : p ∈ keys s' := (pre_keys h).subset k
theorem pre_get (h : s <+: s') {j : Nat} {p : Pr} (k : (keys s)[j]? = some p) : (keys s')[j]? = some p := by
  obtain ⟨t, rfl⟩ := h
  obtain ⟨hj, e⟩ := List.getElem?_eq_some_iff.mp k
  rw [keys_append, List.getElem?_append_left hj]
  exact k
theorem Before.pre (h : s <+: s') {j : Nat} {q : Pr} (b : Before s j q) : Before s' j q := let ⟨i, a, e⟩ := b; ⟨i, a, pre_get h e⟩
theorem Good.note (G : Good W s) {p : Pr} {r : Rsn} (h1 : p.1 < W.n) (h2 : p.2 < W.n) (f : Fits W p r) (k : ∀ q ∈ refs r, q ∈ keys s) : Good W (note s p r) := by
  unfold FF.note
  split
  · exact G
  · rename_i hn
    refine ⟨?_, fun q hq => ?_, fun j q t e => ?_⟩
    · rw [keys_append, List.nodup_append]
      refine ⟨G.nodup, by simp [keys], fun a ha b hb e => ?_⟩
      simp only [keys, List.map_cons, List.map_nil, List.mem_singleton] at hb
      exact hn (by rw [← hb, ← e]; exact ha)
    · rw [keys_append, List.mem_append] at hq
      rcases hq with hq | hq
      · exact G.rng q hq
      · simp only [keys, List.map_cons, List.map_nil, List.mem_singleton] at hq
        subst hq; exact ⟨h1, h2⟩
    · by_cases hj : j < s.length
      · rw [List.getElem?_append_left hj] at e
        obtain ⟨a, b⟩ := G.ok j q t e
        exact ⟨a, fun x hx => (b x hx).pre (List.prefix_append s _)⟩
      · have hj' : s.length ≤ j := by omega
        rw [List.getElem?_append_right hj'] at e
        have j0 : j - s.length = 0 := by
          rcases Nat.eq_zero_or_pos (j - s.length) with z | z
          · exact z
          · rw [List.getElem?_eq_none (by simp; omega)] at e; cases e
        rw [j0] at e
        simp only [List.getElem?_cons_zero, Option.some.injEq, Prod.mk.injEq] at e
        obtain ⟨rfl, rfl⟩ := e
        refine ⟨f, fun x hx => ?_⟩
        obtain ⟨i, hi⟩ := List.mem_iff_getElem?.mp (k x hx)
        obtain ⟨hi2, _⟩ := List.getElem?_eq_some_iff.mp hi
        rw [keys_len] at hi2
        exact ⟨i, by omega, pre_get (List.prefix_append s _) hi⟩
/-- a fold that keeps I and grows -/
theorem foldG {α : Type} {f : CSt → α → CSt} {I : CSt → Prop} : ∀ {l : List α}, (∀ s a, a ∈ l → I s → I (f s a) ∧ s <+: f s a) → ∀ {s : CSt}, I s → I (l.foldl f s) ∧ s <+: l.foldl f s
  | [], _, s, h => ⟨h, List.prefix_refl s⟩
  | a :: l, k, s, h => by
    obtain ⟨a1, a2⟩ := k s a List.mem_cons_self h
    obtain ⟨b1, b2⟩ := foldG (l := l) (fun s x hx => k s x (List.mem_cons_of_mem _ hx)) a1
    exact ⟨b1, a2.trans b2⟩
/-- .. and what each turn brings stands at the end -/
theorem foldR {α : Type} {f : CSt → α → CSt} {I : CSt → Prop} {R : α → CSt → Prop} : ∀ {l : List α}, (∀ s a, a ∈ l → I s → I (f s a) ∧ s <+: f s a) → (∀ a s s', R a s → s <+: s' → R a s') →
    ∀ {s : CSt}, I s → (∀ s₁ a, a ∈ l → I s₁ → s <+: s₁ → R a (f s₁ a)) → ∀ a ∈ l, R a (l.foldl f s)
  | [], _, _, _, _, _, _, h => by cases h
  | b :: l, k, mono, s, h, q, a, ha => by
    obtain ⟨a1, a2⟩ := k s b List.mem_cons_self h
    have k' : ∀ s x, x ∈ l → I s → I (f s x) ∧ s <+: f s x := fun s x hx => k s x (List.mem_cons_of_mem _ hx)
    rcases List.mem_cons.mp ha with rfl | ha
    · exact mono _ _ _ (q s a List.mem_cons_self h (List.prefix_refl s)) (foldG k' a1).2
    · exact foldR k' mono a1 (fun s₁ x hx i p => q s₁ x (List.mem_cons_of_mem _ hx) i (a2.trans p)) a ha
theorem begin1_ok (G : Good W s) : (Good W (begin1 W s) ∧ s <+: begin1 W s) ∧ ∀ i ∈ List.range W.n, (i, i) ∈ keys (begin1 W s) := by
  have k : ∀ s a, a ∈ List.range W.n → Good W s → Good W (note s (a, a) .same) ∧ s <+: note s (a, a) .same := fun s a ha G =>
    ⟨G.note (List.mem_range.mp ha) (List.mem_range.mp ha) rfl (fun _ h => by cases h), note_pre _ _ _⟩
  exact ⟨foldG k G, foldR (R := fun i s => (i, i) ∈ keys s) k (fun _ _ _ h p => pre_mem p h) G fun s₁ a _ _ _ => note_mem _ _ _⟩
theorem partN_ok (O : W.Ok) {i : Nat} (hi : i < W.n) {p : Nat} (hp : p ∈ W.inner i) (G : Good W s) : Good W (partN W i s p) ∧ s <+: partN W i s p := by
  have hpn := O.inner i hi p hp
  unfold partN
  split
  · rename_i c
    exact ⟨G.note hi hpn (.inl ⟨c, hp⟩) (fun _ h => by cases h), note_pre _ _ _⟩
  · rename_i c
    have c' : W.op i = some false := by
      cases e : W.op i with
      | none => rw [O.letter i e] at hp; cases hp
      | some b => cases b with
        | true => exact absurd e c
        | false => rfl
    exact ⟨G.note hpn hi (.inr ⟨c', hp⟩) (fun _ h => by cases h), note_pre _ _ _⟩
def PartIn (W : Wd) (i p : Nat) (s : CSt) : Prop := (W.op i = some true → (i, p) ∈ keys s) ∧ (W.op i = some false → (p, i) ∈ keys s)
theorem PartIn.mono {i p : Nat} (h : PartIn W i p s) (q : s <+: s') : PartIn W i p s' := ⟨fun e => pre_mem q (h.1 e), fun e => pre_mem q (h.2 e)⟩
theorem partN_in (i p : Nat) (s : CSt) : PartIn W i p (partN W i s p) := by
  unfold partN
  refine ⟨fun e => ?_, fun e => ?_⟩
  · rw [if_pos e]; exact note_mem _ _ _
  · rw [if_neg (by rw [e]; decide)]; exact note_mem _ _ _
theorem begin2_ok (O : W.Ok) (G : Good W s) : (Good W (begin2 W s) ∧ s <+: begin2 W s) ∧ ∀ i ∈ List.range W.n, ∀ p ∈ W.inner i, PartIn W i p (begin2 W s) := by
  have k0 : ∀ i, i < W.n → ∀ s a, a ∈ W.inner i → Good W s → Good W (partN W i s a) ∧ s <+: partN W i s a := fun i hi s a ha G => partN_ok O hi ha G
  have k : ∀ s i, i ∈ List.range W.n → Good W s → Good W ((W.inner i).foldl (partN W i) s) ∧ s <+: (W.inner i).foldl (partN W i) s := fun s i hi G => foldG (k0 i (List.mem_range.mp hi)) G
  exact ⟨foldG k G, foldR (R := fun i s => ∀ p ∈ W.inner i, PartIn W i p s) k (fun _ _ _ h p q hq => (h q hq).mono p) G fun s₁ i hi g _ =>
    foldR (R := fun p s => PartIn W i p s) (k0 i (List.mem_range.mp hi)) (fun _ _ _ h q => h.mono q) g fun s₂ p _ _ _ => partN_in i p s₂⟩
theorem begin3_ok (O : W.Ok) (G : Good W s) : (Good W (begin3 W s) ∧ s <+: begin3 W s) ∧ ∀ r ∈ W.rules, (r.2.1, r.2.2) ∈ keys (begin3 W s) := by
  have k : ∀ s r, r ∈ W.rules → Good W s → Good W (note s (r.2.1, r.2.2) (.rule r.1)) ∧ s <+: note s (r.2.1, r.2.2) (.rule r.1) := fun s r hr G =>
    ⟨G.note (O.rules r hr).1 (O.rules r hr).2 hr (fun _ h => by cases h), note_pre _ _ _⟩
  exact ⟨foldG k G, foldR (R := fun (r : List Nat × Nat × Nat) s => (r.2.1, r.2.2) ∈ keys s) k (fun _ _ _ h p => pre_mem p h) G fun s₁ r _ _ _ => note_mem _ _ _⟩
/-- what stands in it from the beginning -/
structure Base (W : Wd) (s : CSt) : Prop where
  refl : ∀ i < W.n, (i, i) ∈ keys s
  part : ∀ i < W.n, ∀ p ∈ W.inner i, PartIn W i p s
  rule : ∀ r ∈ W.rules, (r.2.1, r.2.2) ∈ keys s
theorem Base.mono (B : Base W s) (h : s <+: s') : Base W s' := ⟨fun i hi => pre_mem h (B.refl i hi), fun i hi p hp => (B.part i hi p hp).mono h, fun r hr => pre_mem h (B.rule r hr)⟩
theorem good_nil : Good W [] := ⟨List.nodup_nil, fun _ h => (by cases h), fun j p r e => by simp at e⟩
theorem beginM_ok (O : W.Ok) : Good W (beginM W) ∧ Base W (beginM W) := by
  obtain ⟨⟨g1, p1⟩, r1⟩ := begin1_ok (W := W) good_nil
  obtain ⟨⟨g2, p2⟩, r2⟩ := begin2_ok O g1
  obtain ⟨⟨g3, p3⟩, r3⟩ := begin3_ok O g2
  exact ⟨g3, fun i hi => pre_mem (p2.trans p3) (r1 i (List.mem_range.mpr hi)), fun i hi p hp => (r2 i (List.mem_range.mpr hi) p hp).mono p3, r3⟩
theorem turnA_ok {q : Pr} (hq : q ∈ keys s) (G : Good W s) {i : Nat} (hi : i < W.n) : Good W (turnA q s i) ∧ s <+: turnA q s i := by
  unfold turnA
  split
  · rename_i c
    refine ⟨G.note (G.rng q hq).1 hi ⟨rfl, rfl, rfl⟩ fun x hx => ?_, note_pre _ _ _⟩
    simp only [refs, List.mem_cons, List.not_mem_nil, or_false] at hx
    rcases hx with rfl | rfl <;> assumption
  · exact ⟨G, List.prefix_refl s⟩
theorem turnB_ok {q : Pr} (hq : q ∈ keys s) (G : Good W s) {i : Nat} (hi : i < W.n) : Good W (turnB q s i) ∧ s <+: turnB q s i := by
  unfold turnB
  split
  · rename_i c
    refine ⟨G.note hi (G.rng q hq).2 ⟨rfl, rfl, rfl⟩ fun x hx => ?_, note_pre _ _ _⟩
    simp only [refs, List.mem_cons, List.not_mem_nil, or_false] at hx
    rcases hx with rfl | rfl <;> assumption
  · exact ⟨G, List.prefix_refl s⟩
abbrev GoodQ (W : Wd) (q : Pr) (s : CSt) : Prop := Good W s ∧ q ∈ keys s
theorem turnM_ok {q : Pr} {i : Nat} (hi : i < W.n) (G : GoodQ W q s) : GoodQ W q (turnM q s i) ∧ s <+: turnM q s i := by
  obtain ⟨a1, a2⟩ := turnA_ok G.2 G.1 hi
  have m1 := pre_mem a2 G.2
  obtain ⟨b1, b2⟩ := turnB_ok m1 a1 hi
  exact ⟨⟨b1, pre_mem b2 m1⟩, a2.trans b2⟩
theorem widenA_ok {q : Pr} {i : Nat} (hi : i < W.n) (G : GoodQ W q s) : GoodQ W q (widenA W q s i) ∧ s <+: widenA W q s i := by
  unfold widenA
  split
  · rename_i c
    split
    · rename_i d
      exact ⟨⟨G.1.note (G.1.rng q G.2).1 hi ⟨c.1, rfl⟩ fun x hx => d x hx, pre_mem (note_pre _ _ _) G.2⟩, note_pre _ _ _⟩
    · exact ⟨G, List.prefix_refl s⟩
  · exact ⟨G, List.prefix_refl s⟩
theorem widenB_ok {q : Pr} {i : Nat} (hi : i < W.n) (G : GoodQ W q s) : GoodQ W q (widenB W q s i) ∧ s <+: widenB W q s i := by
  unfold widenB
  split
  · rename_i c
    split
    · rename_i d
      exact ⟨⟨G.1.note hi (G.1.rng q G.2).2 ⟨c.1, rfl⟩ fun x hx => d x hx, pre_mem (note_pre _ _ _) G.2⟩, note_pre _ _ _⟩
    · exact ⟨G, List.prefix_refl s⟩
  · exact ⟨G, List.prefix_refl s⟩
theorem widenT_ok {q : Pr} {i : Nat} (hi : i < W.n) (G : GoodQ W q s) : GoodQ W q (widenT W q s i) ∧ s <+: widenT W q s i := by
  obtain ⟨a1, a2⟩ := widenA_ok hi G
  obtain ⟨b1, b2⟩ := widenB_ok hi a1
  exact ⟨b1, a2.trans b2⟩
theorem chainM_ok {q : Pr} (G : GoodQ W q s) : (GoodQ W q (chainM W q s) ∧ s <+: chainM W q s) ∧ ∀ i < W.n, ((q.2, i) ∈ keys s → (q.1, i) ∈ keys (chainM W q s)) ∧ ((i, q.1) ∈ keys s → (i, q.2) ∈ keys (chainM W q s)) := by
  have k : ∀ s i, i ∈ List.range W.n → GoodQ W q s → GoodQ W q (turnM q s i) ∧ s <+: turnM q s i := fun s i hi G => turnM_ok (List.mem_range.mp hi) G
  refine ⟨foldG k G, fun i hi => ?_⟩
  exact foldR (R := fun i s' => ((q.2, i) ∈ keys s → (q.1, i) ∈ keys s') ∧ ((i, q.1) ∈ keys s → (i, q.2) ∈ keys s')) k (fun _ _ _ h p => ⟨fun z => pre_mem p (h.1 z), fun z => pre_mem p (h.2 z)⟩) G
    (fun s₁ i hi g p => by
      have hi' := List.mem_range.mp hi
      obtain ⟨a1, a2⟩ := turnA_ok g.2 g.1 hi'
      obtain ⟨_, b2⟩ := turnB_ok (pre_mem a2 g.2) a1 hi'
      refine ⟨fun z => pre_mem b2 ?_, fun z => ?_⟩
      · unfold turnA; rw [if_pos (pre_mem p z)]; exact note_mem _ _ _
      · show _ ∈ keys (turnB q (turnA q s₁ i) i)
        unfold turnB; rw [if_pos (pre_mem a2 (pre_mem p z))]; exact note_mem _ _ _) i (List.mem_range.mpr hi)
def WideIn (W : Wd) (q : Pr) (s : CSt) (i : Nat) (s' : CSt) : Prop :=
  (W.op i = some true → q.2 ∈ W.inner i → (∀ p ∈ W.inner i, (q.1, p) ∈ keys s) → (q.1, i) ∈ keys s') ∧ (W.op i = some false → q.1 ∈ W.inner i → (∀ p ∈ W.inner i, (p, q.2) ∈ keys s) → (i, q.2) ∈ keys s')
theorem widenM_ok {q : Pr} (G : GoodQ W q s) : (GoodQ W q (widenM W q s) ∧ s <+: widenM W q s) ∧ ∀ i < W.n, WideIn W q s i (widenM W q s) := by
  have k : ∀ s i, i ∈ List.range W.n → GoodQ W q s → GoodQ W q (widenT W q s i) ∧ s <+: widenT W q s i := fun s i hi G => widenT_ok (List.mem_range.mp hi) G
  refine ⟨foldG k G, fun i hi => ?_⟩
  exact foldR (R := fun i s' => WideIn W q s i s') k (fun _ _ _ h p => ⟨fun a b c => pre_mem p (h.1 a b c), fun a b c => pre_mem p (h.2 a b c)⟩) G
    (fun s₁ i hi g p => by
      have hi' := List.mem_range.mp hi
      obtain ⟨a1, a2⟩ := widenA_ok hi' g
      obtain ⟨_, b2⟩ := widenB_ok hi' a1
      refine ⟨fun a b c => pre_mem b2 ?_, fun a b c => ?_⟩
      · unfold widenA
        rw [if_pos ⟨a, b⟩, if_pos fun x hx => ?_]
        · exact note_mem _ _ _
        · obtain ⟨y, hy, rfl⟩ := List.mem_map.mp hx
          exact pre_mem p (c y hy)
      · show _ ∈ keys (widenB W q (widenA W q s₁ i) i)
        unfold widenB
        rw [if_pos ⟨a, b⟩, if_pos fun x hx => ?_]
        · exact note_mem _ _ _
        · obtain ⟨y, hy, rfl⟩ := List.mem_map.mp hx
          exact pre_mem a2 (pre_mem p (c y hy))) i (List.mem_range.mpr hi)
/-- closed as far as the pairs ahead of d go -/
structure Upto (W : Wd) (s : CSt) (d : Nat) : Prop where
  chain : ∀ (i j a b c : Nat), i < d → j < d → (keys s)[i]? = some (a, b) → (keys s)[j]? = some (b, c) → (a, c) ∈ keys s
  into : ∀ (x i : Nat), i < W.n → W.op i = some true → W.inner i ≠ [] → (∀ p ∈ W.inner i, ∃ j, j < d ∧ (keys s)[j]? = some (x, p)) → (x, i) ∈ keys s
  out : ∀ (x i : Nat), i < W.n → W.op i = some false → W.inner i ≠ [] → (∀ p ∈ W.inner i, ∃ j, j < d ∧ (keys s)[j]? = some (p, x)) → (i, x) ∈ keys s
theorem get_lt {d : Nat} {q : Pr} {i : Nat} {p : Pr} (hd : (keys s)[d]? = some q) (hp : s <+: s') (hi : i < d + 1) (e : (keys s')[i]? = some p) : (keys s)[i]? = some p := by
  obtain ⟨hl, _⟩ := List.getElem?_eq_some_iff.mp hd
  have : (keys s)[i]? = some (keys s)[i] := List.getElem?_eq_getElem (by omega)
  rw [pre_get hp this] at e
  rw [this, e]
theorem stepC_ok {d : Nat} {q : Pr} (G : Good W s) (U : Upto W s d) (hd : (keys s)[d]? = some q) : (Good W (stepC W q s) ∧ s <+: stepC W q s) ∧ Upto W (stepC W q s) (d + 1) := by
  have hq : q ∈ keys s := List.mem_of_getElem? hd
  obtain ⟨⟨g1, p1⟩, r1⟩ := chainM_ok (W := W) ⟨G, hq⟩
  obtain ⟨⟨g2, p2⟩, r2⟩ := widenM_ok g1
  have pp : s <+: stepC W q s := p1.trans p2
  have wide : ∀ i < W.n, WideIn W q s i (stepC W q s) := fun i hi => ⟨fun a b c => (r2 i hi).1 a b fun p hp => pre_mem p1 (c p hp), fun a b c => (r2 i hi).2 a b fun p hp => pre_mem p1 (c p hp)⟩
  refine ⟨⟨g2.1, pp⟩, fun i j a b c hi hj ei ej => ?_, fun x i hi ho hn h => ?_, fun x i hi ho hn h => ?_⟩
  · have ei' := get_lt hd pp hi ei
    have ej' := get_lt hd pp hj ej
    have ha := List.mem_of_getElem? ei'
    have hb := List.mem_of_getElem? ej'
    by_cases z : i = d
    · subst z
      rw [hd] at ei'
      cases ei'
      exact pre_mem p2 ((r1 c (G.rng _ hb).2).1 hb)
    · by_cases y : j = d
      · subst y
        rw [hd] at ej'
        cases ej'
        exact pre_mem p2 ((r1 a (G.rng _ ha).1).2 ha)
      · exact pre_mem pp (U.chain i j a b c (by omega) (by omega) ei' ej')
  · have h' : ∀ p ∈ W.inner i, ∃ j, j < d + 1 ∧ (keys s)[j]? = some (x, p) := fun p hp => let ⟨j, a, e⟩ := h p hp; ⟨j, a, get_lt hd pp a e⟩
    by_cases all : ∀ p ∈ W.inner i, ∃ j, j < d ∧ (keys s)[j]? = some (x, p)
    · exact pre_mem pp (U.into x i hi ho hn all)
    · have ⟨p, hp⟩ := Classical.not_forall.mp all
      have ⟨hp1, hp2⟩ := Classical.not_imp.mp hp
      obtain ⟨j, a, e⟩ := h' p hp1
      have jd : j = d := by
        rcases Nat.lt_or_ge j d with z | z
        · exact absurd ⟨j, z, e⟩ hp2
        · omega
      subst jd
      rw [hd] at e
      cases e
      exact (wide i hi).1 ho hp1 fun y hy => let ⟨_, _, e⟩ := h' y hy; List.mem_of_getElem? e
  · have h' : ∀ p ∈ W.inner i, ∃ j, j < d + 1 ∧ (keys s)[j]? = some (p, x) := fun p hp => let ⟨j, a, e⟩ := h p hp; ⟨j, a, get_lt hd pp a e⟩
    by_cases all : ∀ p ∈ W.inner i, ∃ j, j < d ∧ (keys s)[j]? = some (p, x)
    · exact pre_mem pp (U.out x i hi ho hn all)
    · have ⟨p, hp⟩ := Classical.not_forall.mp all
      have ⟨hp1, hp2⟩ := Classical.not_imp.mp hp
      obtain ⟨j, a, e⟩ := h' p hp1
      have jd : j = d := by
        rcases Nat.lt_or_ge j d with z | z
        · exact absurd ⟨j, z, e⟩ hp2
        · omega
      subst jd
      rw [hd] at e
      cases e
      exact (wide i hi).2 ho hp1 fun y hy => let ⟨_, _, e⟩ := h' y hy; List.mem_of_getElem? e
theorem upto_zero : Upto W s 0 := ⟨fun _ _ _ _ _ h => absurd h (Nat.not_lt_zero _), fun x i hi _ hn h => by
    cases e : W.inner i with
    | nil => exact absurd e hn
    | cons p r => obtain ⟨_, z, _⟩ := h p (by rw [e]; exact List.mem_cons_self); exact absurd z (Nat.not_lt_zero _), fun x i hi _ hn h => by
    cases e : W.inner i with
    | nil => exact absurd e hn
    | cons p r => obtain ⟨_, z, _⟩ := h p (by rw [e]; exact List.mem_cons_self); exact absurd z (Nat.not_lt_zero _)⟩
/-- all pairs below n -/
def square (n : Nat) : List Pr := (List.range n).flatMap fun a => (List.range n).map fun b => (a, b)
theorem mem_square {n : Nat} {p : Pr} : p ∈ square n ↔ p.1 < n ∧ p.2 < n := by
  unfold square
  simp only [List.mem_flatMap, List.mem_map, List.mem_range]
  exact ⟨fun ⟨a, ha, b, hb, e⟩ => by subst e; exact ⟨ha, hb⟩, fun ⟨h1, h2⟩ => ⟨p.1, h1, p.2, h2, rfl⟩⟩
theorem flat_len {α β : Type} (f : α → List β) (k : Nat) : ∀ l : List α, (∀ a ∈ l, (f a).length = k) → (l.flatMap f).length = l.length * k
  | [], _ => by simp
  | a :: l, h => by
    rw [List.flatMap_cons, List.length_append, h a List.mem_cons_self, flat_len f k l fun x hx => h x (List.mem_cons_of_mem _ hx), List.length_cons, Nat.succ_mul]
    omega
theorem square_len (n : Nat) : (square n).length = n * n := by
  unfold square
  rw [flat_len _ n _ fun a _ => by simp, List.length_range]
theorem Good.len (G : Good W s) : s.length ≤ W.n * W.n := by
  rw [← keys_len, ← square_len]
  exact nodup_le G.nodup fun p hp => mem_square.mpr (G.rng p hp)
theorem finM_ok : ∀ (f d : Nat) (s : CSt), Good W s → Upto W s d → Base W s → d ≤ s.length → f + d = W.n * W.n → Good W (finM W f d s) ∧ Upto W (finM W f d s) (finM W f d s).length ∧ Base W (finM W f d s) ∧ s <+: finM W f d s
  | 0, d, s, G, U, B, hd, e => by
    have l := G.len
    have : d = s.length := by omega
    subst this
    exact ⟨G, U, B, List.prefix_refl s⟩
  | f + 1, d, s, G, U, B, hd, e => by
    unfold finM
    cases q : s[d]? with
    | none =>
      have : d = s.length := by have := List.getElem?_eq_none_iff.mp q; omega
      subst this
      exact ⟨G, U, B, List.prefix_refl s⟩
    | some x =>
      have hk : (keys s)[d]? = some x.1 := by unfold keys; rw [List.getElem?_map, q]; rfl
      obtain ⟨⟨g, p⟩, u⟩ := stepC_ok G U hk
      have hl : d + 1 ≤ (stepC W x.1 s).length := by
        have := p.length_le
        obtain ⟨z, _⟩ := List.getElem?_eq_some_iff.mp q
        omega
      obtain ⟨a, b, c, e'⟩ := finM_ok f (d + 1) _ g u (B.mono p) hl (by omega)
      exact ⟨a, b, c, p.trans e'⟩
theorem finM_end {f d : Nat} {s : CSt} (h : s.length ≤ d) : finM W f d s = s := by
  cases f with
  | zero => rfl
  | succ f => unfold finM; rw [List.getElem?_eq_none h]
theorem finM_next {f d : Nat} {s : CSt} {e : Pr × Rsn} (h : s[d]? = some e) : finM W (f + 1) d s = finM W f (d + 1) (stepC W e.1 s) := by
  rw [finM, h]
/-- the closure: what the program reckons -/
structure Closed (W : Wd) (s : CSt) : Prop where
  good : Good W s
  base : Base W s
  chain : ∀ a b c, (a, b) ∈ keys s → (b, c) ∈ keys s → (a, c) ∈ keys s
  into : ∀ x i, i < W.n → W.op i = some true → (∀ p ∈ W.inner i, (x, p) ∈ keys s) → (x, i) ∈ keys s
  out : ∀ x i, i < W.n → W.op i = some false → (∀ p ∈ W.inner i, (p, x) ∈ keys s) → (i, x) ∈ keys s
theorem at_key {p : Pr} (h : p ∈ keys s) : ∃ i, i < s.length ∧ (keys s)[i]? = some p := by
  obtain ⟨i, e⟩ := List.mem_iff_getElem?.mp h
  obtain ⟨l, _⟩ := List.getElem?_eq_some_iff.mp e
  exact ⟨i, by rw [← keys_len]; exact l, e⟩
theorem closeM_ok (O : W.Ok) : Closed W (closeM W) := by
  obtain ⟨g0, b0⟩ := beginM_ok O
  obtain ⟨g, u, b, _⟩ := finM_ok (W := W) (W.n * W.n) 0 (beginM W) g0 upto_zero b0 (Nat.zero_le _) (by omega)
  refine ⟨g, b, fun a b c h k => ?_, fun x i hi ho h => ?_, fun x i hi ho h => ?_⟩
  · obtain ⟨i, hi, ei⟩ := at_key h
    obtain ⟨j, hj, ej⟩ := at_key k
    exact u.chain i j a b c hi hj ei ej
  · exact u.into x i hi ho (O.term i hi (by rw [ho]; simp)) fun p hp => at_key (h p hp)
  · exact u.out x i hi ho (O.term i hi (by rw [ho]; simp)) fun p hp => at_key (h p hp)
end
end FF
end T_FM3

section T_FM4
set_option autoImplicit false
namespace FF
/-- the reason of a pair -/
def rsnOf (s : CSt) (p : Pr) : Option Rsn := (s.find? fun e => decide (e.1 = p)).map (·.2)
theorem rsnOf_get : ∀ {s : CSt}, (keys s).Nodup → ∀ {j : Nat} {p : Pr} {r : Rsn}, s[j]? = some (p, r) → rsnOf s p = some r
  | [], _, j, p, r, e => by simp at e
  | x :: s, h, 0, p, r, e => by
    simp only [List.getElem?_cons_zero, Option.some.injEq] at e
    subst e; simp [rsnOf]
  | x :: s, h, j + 1, p, r, e => by
    simp only [List.getElem?_cons_succ] at e
    have h' : x.1 ∉ keys s ∧ (keys s).Nodup := List.nodup_cons.mp h
    have hp : p ∈ keys s := List.mem_map.mpr ⟨(p, r), List.mem_of_getElem? e, rfl⟩
    have ne : ¬ x.1 = p := fun z => h'.1 (z ▸ hp)
    have ih := rsnOf_get h'.2 e
    unfold rsnOf at ih ⊢
    rw [List.find?_cons_of_neg (by simpa using ne)]
    exact ih
theorem rsnOf_mem {s : CSt} {p : Pr} {r : Rsn} (e : rsnOf s p = some r) : ∃ j : Nat, s[j]? = some (p, r) := by
  unfold rsnOf at e
  obtain ⟨x, hx, rfl⟩ := Option.map_eq_some_iff.mp e
  have h1 := List.mem_of_find?_eq_some hx
  have h2 := List.find?_some hx
  obtain ⟨j, hj⟩ := List.mem_iff_getElem?.mp h1
  have h3 : x.1 = p := of_decide_eq_true h2
  exact ⟨j, by rw [hj, ← h3]⟩
theorem rsnOf_some {s : CSt} {p : Pr} (h : p ∈ keys s) : ∃ r, rsnOf s p = some r := by
  cases e : rsnOf s p with
  | some r => exact ⟨r, rfl⟩
  | none =>
    unfold rsnOf at e
    rw [Option.map_eq_none_iff, List.find?_eq_none] at e
    obtain ⟨x, hx, rfl⟩ := List.mem_map.mp h
    exact absurd (decide_eq_true rfl) (e x hx)
/-- what a goal's derivation needs -/
inductive Reach (s : CSt) (g : Pr) : Pr → Prop
  | refl : Reach s g g
  | step {p q : Pr} {r : Rsn} : Reach s g p → rsnOf s p = some r → q ∈ refs r → Reach s g q
noncomputable def keptP (s : CSt) (g : Pr) (e : Pr × Rsn) : Bool := @decide (Reach s g e.1) (Classical.propDecidable _)
theorem keptP_iff {s : CSt} {g : Pr} {e : Pr × Rsn} : keptP s g e = true ↔ Reach s g e.1 := by
  unfold keptP; exact @decide_eq_true_iff _ (Classical.propDecidable _)
noncomputable def kept (s : CSt) (g : Pr) : CSt := s.filter (keptP s g)
section
variable {W : Wd} {s : CSt} {g : Pr}
theorem Good.reach_mem (G : Good W s) (hg : g ∈ keys s) : ∀ {q : Pr}, Reach s g q → q ∈ keys s := by
  intro q h
  induction h with
  | refl => exact hg
  | step h1 h2 h3 ih =>
    obtain ⟨j, hj⟩ := rsnOf_mem h2
    obtain ⟨i, _, e⟩ := (G.ok j _ _ hj).2 _ h3
    exact List.mem_of_getElem? e
theorem split_at {α : Type} {l : List α} {j : Nat} {y : α} (h : l[j]? = some y) : l = l.take j ++ y :: l.drop (j + 1) := by
  obtain ⟨hj, e⟩ := List.getElem?_eq_some_iff.mp h
  have := List.take_append_drop j l
  rw [List.drop_eq_getElem_cons hj, e] at this
  exact this.symm
theorem kept_nodup (G : Good W s) : (keys (kept s g)).Nodup := by
  have : (keys (kept s g)).Sublist (keys s) := (List.filter_sublist (l := s) (p := keptP s g)).map _
  exact this.nodup G.nodup
theorem Good.kept_before (G : Good W s) {k : Nat} {p q : Pr} {r : Rsn} (e : (kept s g)[k]? = some (p, r)) (hq : q ∈ refs r) : ∃ i, i < k ∧ (keys (kept s g))[i]? = some q := by
  have hm : (p, r) ∈ kept s g := List.mem_of_getElem? e
  obtain ⟨hm1, hm2⟩ := List.mem_filter.mp hm
  have hp : Reach s g p := keptP_iff.mp hm2
  obtain ⟨j, hj⟩ := List.mem_iff_getElem?.mp hm1
  obtain ⟨i, hij, hi⟩ := (G.ok j p r hj).2 q hq
  have hr : Reach s g q := .step hp (rsnOf_get G.nodup hj) hq
  have sp := split_at hj
  have ek : kept s g = (s.take j).filter (keptP s g) ++ (p, r) :: (s.drop (j + 1)).filter (keptP s g) := by
    have z : kept s g = (s.take j ++ (p, r) :: s.drop (j + 1)).filter (keptP s g) := by unfold kept; rw [← sp]
    rw [z, List.filter_append, List.filter_cons_of_pos hm2]
  have nd := kept_nodup (g := g) G
  have k1 : (keys (kept s g))[k]? = some p := by unfold keys; rw [List.getElem?_map, e]; rfl
  have k2 : (keys (kept s g))[((s.take j).filter (keptP s g)).length]? = some p := by
    unfold keys; rw [List.getElem?_map, ek, List.getElem?_append_right (Nat.le_refl _)]; simp
  have kk : k = ((s.take j).filter (keptP s g)).length := (List.getElem?_inj (List.getElem?_eq_some_iff.mp k1).1 nd).mp (k1.trans k2.symm)
  have hqi : ∃ x, s[i]? = some x ∧ x.1 = q := by
    unfold keys at hi
    rw [List.getElem?_map] at hi
    obtain ⟨x, hx, ex⟩ := Option.map_eq_some_iff.mp hi
    exact ⟨x, hx, ex⟩
  obtain ⟨x, hx, ex⟩ := hqi
  have hxt : x ∈ s.take j := List.mem_iff_getElem?.mpr ⟨i, by rw [List.getElem?_take_of_lt hij]; exact hx⟩
  have hxf : x ∈ (s.take j).filter (keptP s g) := List.mem_filter.mpr ⟨hxt, keptP_iff.mpr (by rw [ex]; exact hr)⟩
  obtain ⟨i', hi'⟩ := List.mem_iff_getElem?.mp hxf
  obtain ⟨hl, _⟩ := List.getElem?_eq_some_iff.mp hi'
  refine ⟨i', by omega, ?_⟩
  unfold keys
  rw [List.getElem?_map, ek, List.getElem?_append_left hl, hi']
  simp [ex]
/-- the goal is the last of what is kept -/
theorem Good.kept_last (G : Good W s) (hg : g ∈ keys s) : ∃ l r, kept s g = l ++ [(g, r)] := by
  obtain ⟨x, hx, ex⟩ := List.mem_map.mp hg
  obtain ⟨j, hj⟩ := List.mem_iff_getElem?.mp hx
  have hj' : s[j]? = some (g, x.2) := by rw [hj, ← ex]
  have key : ∀ q, Reach s g q → q = g ∨ Before s j q := by
    intro q h
    induction h with
    | refl => exact .inl rfl
    | @step p q r h1 h2 h3 ih =>
      refine .inr ?_
      obtain ⟨m, hm⟩ := rsnOf_mem h2
      obtain ⟨i, hi, e⟩ := (G.ok m p r hm).2 q h3
      have km : (keys s)[m]? = some p := by unfold keys; rw [List.getElem?_map, hm]; rfl
      rcases ih with rfl | ⟨i2, hi2, e2⟩
      · have kj : (keys s)[j]? = some p := by unfold keys; rw [List.getElem?_map, hj']; rfl
        have : m = j := (List.getElem?_inj (List.getElem?_eq_some_iff.mp km).1 G.nodup).mp (km.trans kj.symm)
        exact ⟨i, by omega, e⟩
      · have : m = i2 := (List.getElem?_inj (List.getElem?_eq_some_iff.mp km).1 G.nodup).mp (km.trans e2.symm)
        exact ⟨i, by omega, e⟩
  have sp := split_at hj'
  have none : (s.drop (j + 1)).filter (keptP s g) = [] := by
    rw [List.filter_eq_nil_iff]
    intro y hy hk
    obtain ⟨i, hi⟩ := List.mem_iff_getElem?.mp hy
    rw [List.getElem?_drop] at hi
    have ki : (keys s)[j + 1 + i]? = some y.1 := by unfold keys; rw [List.getElem?_map, hi]; rfl
    have kj : (keys s)[j]? = some g := by unfold keys; rw [List.getElem?_map, hj']; rfl
    rcases key y.1 (keptP_iff.mp hk) with z | ⟨i2, hi2, e2⟩
    · rw [z] at ki
      have : j + 1 + i = j := (List.getElem?_inj (List.getElem?_eq_some_iff.mp ki).1 G.nodup).mp (ki.trans kj.symm)
      omega
    · have : j + 1 + i = i2 := (List.getElem?_inj (List.getElem?_eq_some_iff.mp ki).1 G.nodup).mp (ki.trans e2.symm)
      omega
  refine ⟨(s.take j).filter (keptP s g), x.2, ?_⟩
  have z : kept s g = (s.take j ++ (g, x.2) :: s.drop (j + 1)).filter (keptP s g) := by unfold kept; rw [← sp]
  rw [z, List.filter_append, List.filter_cons_of_pos (p := keptP s g) (keptP_iff.mpr .refl), none]
end
/-- a reason by the places of steps -/
inductive RsnI where
  | same
  | part
  | rule (name : List Nat)
  | chain (i j : Nat)
  | into (is : List Nat)
  | out (is : List Nat)
def moveR (kp : List Pr) : Rsn → RsnI
  | .same => .same
  | .part => .part
  | .rule nm => .rule nm
  | .chain a b => .chain (kp.idxOf a) (kp.idxOf b)
  | .into ps => .into (ps.map fun p => kp.idxOf p)
  | .out ps => .out (ps.map fun p => kp.idxOf p)
structure Stp where
  l : Tm
  r : Tm
  w : RsnI
abbrev Rl := List Nat × Tm × Tm
noncomputable def ixW (V : List Tm) (t : Tm) : Nat := V.idxOf t
def atW (V : List Tm) (i : Nat) : Tm := V.getD i (.leaf 97)
def Tm.opT : Tm → Option Bool
  | .leaf _ => none
  | .node b _ => some b
noncomputable def wdOf (V : List Tm) (rs : List Rl) : Wd where
  n := V.length
  op := fun i => (V[i]?).bind Tm.opT
  inner := fun i => ((V[i]?).map fun t => t.parts.map (ixW V)).getD []
  rules := rs.map fun r => (r.1, ixW V r.2.1, ixW V r.2.2)
noncomputable def stepsM (V : List Tm) (s : CSt) (g : Pr) : List Stp :=
  (kept s g).map fun e => ⟨atW V e.1.1, atW V e.1.2, moveR (keys (kept s g)) e.2⟩
/-- a step is right -/
def StpOk (rs : List Rl) (S : List Stp) (k : Nat) (x : Stp) : Prop :=
  match x.w with
  | .same => x.l = x.r
  | .part => (∃ ts, x.l = .node true ts ∧ x.r ∈ ts) ∨ ∃ ts, x.r = .node false ts ∧ x.l ∈ ts
  | .rule nm => (nm, x.l, x.r) ∈ rs
  | .chain i j => ∃ a b, i < k ∧ j < k ∧ S[i]? = some a ∧ S[j]? = some b ∧ a.l = x.l ∧ a.r = b.l ∧ b.r = x.r
  | .into is => ∃ ts, x.r = .node true ts ∧ is.length = ts.length ∧ ∀ (m i : Nat) (t : Tm), is[m]? = some i → ts[m]? = some t → i < k ∧ ∃ a, S[i]? = some a ∧ a.l = x.l ∧ a.r = t
  | .out is => ∃ ts, x.l = .node false ts ∧ is.length = ts.length ∧ ∀ (m i : Nat) (t : Tm), is[m]? = some i → ts[m]? = some t → i < k ∧ ∃ a, S[i]? = some a ∧ a.l = t ∧ a.r = x.r
section
variable {V : List Tm} {rs : List Rl}
theorem ixW_lt {t : Tm} (h : t ∈ V) : ixW V t < V.length := List.idxOf_lt_length_of_mem h
theorem ixW_get {t : Tm} (h : t ∈ V) : V[ixW V t]? = some t := by
  unfold ixW
  rw [List.getElem?_eq_getElem (List.idxOf_lt_length_of_mem h)]
  simp
theorem atW_ix {t : Tm} (h : t ∈ V) : atW V (ixW V t) = t := by unfold atW; rw [List.getD_eq_getElem?_getD, ixW_get h]; rfl
theorem ixW_at (nd : V.Nodup) {i : Nat} (h : i < V.length) : ixW V (atW V i) = i := by
  have e : V[i]? = some (atW V i) := by unfold atW; rw [List.getD_eq_getElem?_getD, List.getElem?_eq_getElem h]; rfl
  have m : atW V i ∈ V := List.mem_of_getElem? e
  exact (List.getElem?_inj (ixW_lt m) nd).mp ((ixW_get m).trans e.symm)
theorem atW_get {i : Nat} (h : i < V.length) : V[i]? = some (atW V i) := by unfold atW; rw [List.getD_eq_getElem?_getD, List.getElem?_eq_getElem h]; rfl
theorem atW_mem {i : Nat} (h : i < V.length) : atW V i ∈ V := List.mem_of_getElem? (atW_get h)
theorem ixW_inj {a b : Tm} (ha : a ∈ V) (hb : b ∈ V) (e : ixW V a = ixW V b) : a = b := by rw [← atW_ix ha, e, atW_ix hb]
/-- words: each once, well formed, closed under parts; the rules' terms among them -/
structure Wds (V : List Tm) (rs : List Rl) : Prop where
  nd : V.Nodup
  wf : ∀ t ∈ V, t.WF
  part : ∀ t ∈ V, ∀ p ∈ t.parts, p ∈ V
  rule : ∀ r ∈ rs, r.2.1 ∈ V ∧ r.2.2 ∈ V
theorem wd_op {i : Nat} {t : Tm} (h : V[i]? = some t) : (wdOf V rs).op i = t.opT := by
  show (V[i]?).bind Tm.opT = _
  rw [h]; rfl
theorem wd_inner {i : Nat} {t : Tm} (h : V[i]? = some t) : (wdOf V rs).inner i = t.parts.map (ixW V) := by
  show ((V[i]?).map fun t => t.parts.map (ixW V)).getD [] = _
  rw [h]; rfl
theorem wd_at {i : Nat} {b : Bool} (h : (wdOf V rs).op i = some b) : ∃ ts, V[i]? = some (.node b ts) ∧ (wdOf V rs).inner i = ts.map (ixW V) := by
  have h' : (V[i]?).bind Tm.opT = some b := h
  cases e : V[i]? with
  | none => rw [e] at h'; cases h'
  | some t =>
    rw [e] at h'
    cases t with
    | leaf c => cases h'
    | node b' ts =>
      have : b' = b := Option.some.inj h'
      subst this
      exact ⟨ts, rfl, by rw [wd_inner e]; rfl⟩
theorem Wds.ok (O : Wds V rs) : (wdOf V rs).Ok where
  inner := fun i hi p hp => by
    rw [wd_inner (atW_get hi)] at hp
    obtain ⟨q, hq, rfl⟩ := List.mem_map.mp hp
    exact ixW_lt (O.part _ (atW_mem hi) q hq)
  letter := fun i h => by
    have h' : (V[i]?).bind Tm.opT = none := h
    show ((V[i]?).map fun t => t.parts.map (ixW V)).getD [] = []
    cases e : V[i]? with
    | none => rfl
    | some t =>
      rw [e] at h'
      cases t with
      | leaf c => rfl
      | node b ts => cases h'
  term := fun i hi h => by
    have e := atW_get (V := V) hi
    rw [wd_op e] at h
    rw [wd_inner e]
    have w := O.wf _ (atW_mem hi)
    cases q : atW V i with
    | leaf c => rw [q] at h; exact absurd (rfl : Tm.opT (.leaf c) = none) h
    | node b ts =>
      rw [q] at w
      simp only [Tm.WF] at w
      intro z
      have := congrArg List.length z
      simp only [Tm.parts, List.length_map, List.length_nil] at this
      omega
  rules := fun r hr => by
    obtain ⟨q, hq, rfl⟩ := List.mem_map.mp hr
    exact ⟨ixW_lt (O.rule q hq).1, ixW_lt (O.rule q hq).2⟩
theorem idx_at {kp : List Pr} (nd : kp.Nodup) {i : Nat} {q : Pr} (h : kp[i]? = some q) : kp.idxOf q = i := by
  have m : q ∈ kp := List.mem_of_getElem? h
  have l := List.idxOf_lt_length_of_mem m
  have e : kp[kp.idxOf q]? = some q := by rw [List.getElem?_eq_getElem l]; simp
  exact (List.getElem?_inj l nd).mp (e.trans h.symm)
/-- each step of the derivation is right -/
theorem steps_ok (O : Wds V rs) {s : CSt} (G : Good (wdOf V rs) s) {g : Pr} {k : Nat} {x : Stp} (e : (stepsM V s g)[k]? = some x) : StpOk rs (stepsM V s g) k x ∧ x.l ∈ V ∧ x.r ∈ V := by
  unfold stepsM at e
  rw [List.getElem?_map] at e
  obtain ⟨⟨p, r⟩, hk, rfl⟩ := Option.map_eq_some_iff.mp e
  have hm := (List.mem_filter.mp (List.mem_of_getElem? hk)).1
  obtain ⟨j, hj⟩ := List.mem_iff_getElem?.mp hm
  have hf := (G.ok j p r hj).1
  have hpk : p ∈ keys s := List.mem_map.mpr ⟨_, hm, rfl⟩
  obtain ⟨l1, l2⟩ := G.rng p hpk
  have bef := fun q (hq : q ∈ refs r) => G.kept_before hk hq
  have nd := kept_nodup (g := g) G
  have at_ : ∀ (i : Nat) (q : Pr), (keys (kept s g))[i]? = some q → ∃ a, (stepsM V s g)[i]? = some a ∧ a.l = atW V q.1 ∧ a.r = atW V q.2 := fun i q hq => by
    unfold keys at hq
    rw [List.getElem?_map] at hq
    obtain ⟨y, hy, ey⟩ := Option.map_eq_some_iff.mp hq
    refine ⟨⟨atW V y.1.1, atW V y.1.2, moveR (keys (kept s g)) y.2⟩, ?_, by rw [ey], by rw [ey]⟩
    unfold stepsM
    rw [List.getElem?_map, hy]; rfl
  refine ⟨?_, atW_mem l1, atW_mem l2⟩
  cases r with
  | same =>
    have hf' : p.1 = p.2 := hf
    show atW V p.1 = atW V p.2
    rw [hf']
  | part =>
    rcases hf with ⟨h1, h2⟩ | ⟨h1, h2⟩
    · obtain ⟨ts, e1, e2⟩ := wd_at h1
      rw [e2] at h2
      obtain ⟨t, ht, et⟩ := List.mem_map.mp h2
      have hl : atW V p.1 = .node true ts := by have := atW_get (V := V) l1; rw [e1] at this; exact (Option.some.inj this).symm
      have tm : t ∈ V := O.part _ (atW_mem l1) t (by rw [hl]; exact ht)
      refine .inl ⟨ts, hl, ?_⟩
      show atW V p.2 ∈ ts
      rw [← et, atW_ix tm]; exact ht
    · obtain ⟨ts, e1, e2⟩ := wd_at h1
      rw [e2] at h2
      obtain ⟨t, ht, et⟩ := List.mem_map.mp h2
      have hl : atW V p.2 = .node false ts := by have := atW_get (V := V) l2; rw [e1] at this; exact (Option.some.inj this).symm
      have tm : t ∈ V := O.part _ (atW_mem l2) t (by rw [hl]; exact ht)
      refine .inr ⟨ts, hl, ?_⟩
      show atW V p.1 ∈ ts
      rw [← et, atW_ix tm]; exact ht
  | rule nm =>
    have hf' : (nm, p.1, p.2) ∈ (wdOf V rs).rules := hf
    obtain ⟨⟨n', a, b⟩, hq, eq⟩ := List.mem_map.mp hf'
    simp only [Prod.mk.injEq] at eq
    obtain ⟨e1, e2, e3⟩ := eq
    obtain ⟨m1, m2⟩ := O.rule _ hq
    show (nm, atW V p.1, atW V p.2) ∈ rs
    rw [← e1, ← e2, ← e3, atW_ix m1, atW_ix m2]
    exact hq
  | chain a b =>
    obtain ⟨h1, h2, h3⟩ := hf
    obtain ⟨i, hi, ei⟩ := bef a (by simp [refs])
    obtain ⟨m, hm', em⟩ := bef b (by simp [refs])
    obtain ⟨x1, g1, g2, g3⟩ := at_ i a ei
    obtain ⟨x2, k1, k2, k3⟩ := at_ m b em
    refine ⟨x1, x2, ?_, ?_, ?_, ?_, ?_, ?_, ?_⟩
    · show (keys (kept s g)).idxOf a < k
      rw [idx_at nd ei]; exact hi
    · show (keys (kept s g)).idxOf b < k
      rw [idx_at nd em]; exact hm'
    · rw [idx_at nd ei]; exact g1
    · rw [idx_at nd em]; exact k1
    · rw [g2, h1]
    · rw [g3, k2, h2]
    · rw [k3, h3]
  | into ps =>
    obtain ⟨h1, h2⟩ := hf
    obtain ⟨ts, e1, e2⟩ := wd_at h1
    have hl : atW V p.2 = .node true ts := by have := atW_get (V := V) l2; rw [e1] at this; exact (Option.some.inj this).symm
    refine ⟨ts, hl, by rw [h2, e2]; simp, fun m i t hi ht => ?_⟩
    rw [List.getElem?_map] at hi
    obtain ⟨q, hq, eq⟩ := Option.map_eq_some_iff.mp hi
    have hq' := hq
    rw [h2, e2, List.map_map, List.getElem?_map, ht] at hq'
    have eq' : (p.1, ixW V t) = q := Option.some.inj hq'
    obtain ⟨i', hi', ei'⟩ := bef q (List.mem_of_getElem? hq)
    rw [idx_at nd ei'] at eq
    subst eq
    obtain ⟨x1, g1, g2, g3⟩ := at_ i' q ei'
    have tm : t ∈ V := O.part _ (atW_mem l2) t (by rw [hl]; exact List.mem_of_getElem? ht)
    refine ⟨hi', x1, g1, ?_, ?_⟩
    · rw [g2, ← eq']
    · rw [g3, ← eq', atW_ix tm]
  | out ps =>
    obtain ⟨h1, h2⟩ := hf
    obtain ⟨ts, e1, e2⟩ := wd_at h1
    have hl : atW V p.1 = .node false ts := by have := atW_get (V := V) l1; rw [e1] at this; exact (Option.some.inj this).symm
    refine ⟨ts, hl, by rw [h2, e2]; simp, fun m i t hi ht => ?_⟩
    rw [List.getElem?_map] at hi
    obtain ⟨q, hq, eq⟩ := Option.map_eq_some_iff.mp hi
    have hq' := hq
    rw [h2, e2, List.map_map, List.getElem?_map, ht] at hq'
    have eq' : (ixW V t, p.2) = q := Option.some.inj hq'
    obtain ⟨i', hi', ei'⟩ := bef q (List.mem_of_getElem? hq)
    rw [idx_at nd ei'] at eq
    subst eq
    obtain ⟨x1, g1, g2, g3⟩ := at_ i' q ei'
    have tm : t ∈ V := O.part _ (atW_mem l1) t (by rw [hl]; exact List.mem_of_getElem? ht)
    refine ⟨hi', x1, g1, ?_, ?_⟩
    · rw [g2, ← eq', atW_ix tm]
    · rw [g3, ← eq']
/-- the last step is the goal's -/
theorem steps_last {s : CSt} (G : Good (wdOf V rs) s) {a b : Tm} (ha : a ∈ V) (hb : b ∈ V) (hg : (ixW V a, ixW V b) ∈ keys s) : ∃ l w, stepsM V s (ixW V a, ixW V b) = l ++ [⟨a, b, w⟩] := by
  obtain ⟨l, r, e⟩ := G.kept_last hg
  refine ⟨l.map fun e => ⟨atW V e.1.1, atW V e.1.2, moveR (keys (kept s (ixW V a, ixW V b))) e.2⟩, moveR (keys (kept s (ixW V a, ixW V b))) r, ?_⟩
  have z : stepsM V s (ixW V a, ixW V b) = (l ++ [((ixW V a, ixW V b), r)]).map fun e => ⟨atW V e.1.1, atW V e.1.2, moveR (keys (kept s (ixW V a, ixW V b))) e.2⟩ := by unfold stepsM; rw [← e]
  rw [z, List.map_append]
  simp only [List.map_cons, List.map_nil, atW_ix ha, atW_ix hb]
/-- the table: all pairs that stand in the closure, by words -/
structure TabOk (rs : List Rl) (V : List Tm) (R : Tm → Tm → Prop) : Prop where
  refl : ∀ t ∈ V, R t t
  chain : ∀ a b c, R a b → R b c → R a c
  rule : ∀ r ∈ rs, R r.2.1 r.2.2
  lowP : ∀ ts, .node true ts ∈ V → ∀ p ∈ ts, R (.node true ts) p
  low : ∀ ts, .node true ts ∈ V → ∀ x ∈ V, (∀ p ∈ ts, R x p) → R x (.node true ts)
  upP : ∀ ts, .node false ts ∈ V → ∀ p ∈ ts, R p (.node false ts)
  up : ∀ ts, .node false ts ∈ V → ∀ x ∈ V, (∀ p ∈ ts, R p x) → R (.node false ts) x
def RelC (V : List Tm) (s : CSt) (a b : Tm) : Prop := a ∈ V ∧ b ∈ V ∧ (ixW V a, ixW V b) ∈ keys s
theorem table_ok (O : Wds V rs) {s : CSt} (C : Closed (wdOf V rs) s) : TabOk rs V (RelC V s) where
  refl := fun t h => ⟨h, h, C.base.refl _ (ixW_lt h)⟩
  chain := fun a b c h k => ⟨h.1, k.2.1, C.chain _ _ _ h.2.2 k.2.2⟩
  rule := fun r hr => ⟨(O.rule r hr).1, (O.rule r hr).2, C.base.rule (r.1, ixW V r.2.1, ixW V r.2.2) (List.mem_map.mpr ⟨r, hr, rfl⟩)⟩
  lowP := fun ts h p hp => by
    have hpV := O.part _ h p hp
    refine ⟨h, hpV, ?_⟩
    have e := ixW_get h
    have q := C.base.part (ixW V (.node true ts)) (ixW_lt h) (ixW V p) (by rw [wd_inner e]; exact List.mem_map.mpr ⟨p, hp, rfl⟩)
    exact q.1 (by rw [wd_op e]; rfl)
  low := fun ts h x hx k => by
    refine ⟨hx, h, ?_⟩
    have e := ixW_get h
    refine C.into _ _ (ixW_lt h) (by rw [wd_op e]; rfl) fun p hp => ?_
    rw [wd_inner e] at hp
    obtain ⟨t, ht, rfl⟩ := List.mem_map.mp hp
    exact (k t ht).2.2
  upP := fun ts h p hp => by
    have hpV := O.part _ h p hp
    refine ⟨hpV, h, ?_⟩
    have e := ixW_get h
    have q := C.base.part (ixW V (.node false ts)) (ixW_lt h) (ixW V p) (by rw [wd_inner e]; exact List.mem_map.mpr ⟨p, hp, rfl⟩)
    exact q.2 (by rw [wd_op e]; rfl)
  up := fun ts h x hx k => by
    refine ⟨h, hx, ?_⟩
    have e := ixW_get h
    refine C.out _ _ (ixW_lt h) (by rw [wd_op e]; rfl) fun p hp => ?_
    rw [wd_inner e] at hp
    obtain ⟨t, ht, rfl⟩ := List.mem_map.mp hp
    exact (k t ht).2.2
/-- the table's pairs from the closure's, in any order -/
theorem mem_table (O : Wds V rs) {s : CSt} (G : Good (wdOf V rs) s) {ps : List Pr} (hp : ps.Perm (keys s)) {a b : Tm} : (a, b) ∈ ps.map (fun p => (atW V p.1, atW V p.2)) ↔ RelC V s a b := by
  constructor
  · intro h
    obtain ⟨p, hq, e⟩ := List.mem_map.mp h
    simp only [Prod.mk.injEq] at e
    obtain ⟨rfl, rfl⟩ := e
    have hk := hp.mem_iff.mp hq
    obtain ⟨l1, l2⟩ := G.rng p hk
    refine ⟨atW_mem l1, atW_mem l2, ?_⟩
    rw [ixW_at O.nd l1, ixW_at O.nd l2]
    exact hk
  · rintro ⟨ha, hb, h⟩
    exact List.mem_map.mpr ⟨_, hp.mem_iff.mpr h, by simp [atW_ix ha, atW_ix hb]⟩
theorem table_nodup (O : Wds V rs) {s : CSt} (G : Good (wdOf V rs) s) {ps : List Pr} (hp : ps.Perm (keys s)) : (ps.map fun p => (atW V p.1, atW V p.2)).Nodup := by
  have nd : ps.Nodup := hp.nodup_iff.mpr G.nodup
  have rg : ∀ p ∈ ps, p.1 < V.length ∧ p.2 < V.length := fun p h => G.rng p (hp.mem_iff.mp h)
  clear hp
  induction ps with
  | nil => exact List.nodup_nil
  | cons p ps ih =>
    rw [List.nodup_cons] at nd
    rw [List.map_cons, List.nodup_cons]
    refine ⟨fun h => ?_, ih nd.2 fun q hq => rg q (List.mem_cons_of_mem _ hq)⟩
    obtain ⟨q, hq, e⟩ := List.mem_map.mp h
    simp only [Prod.mk.injEq] at e
    obtain ⟨l1, l2⟩ := rg p List.mem_cons_self
    obtain ⟨k1, k2⟩ := rg q (List.mem_cons_of_mem _ hq)
    have e1 : q.1 = p.1 := by rw [← ixW_at O.nd l1, ← ixW_at O.nd k1, e.1]
    have e2 : q.2 = p.2 := by rw [← ixW_at O.nd l2, ← ixW_at O.nd k2, e.2]
    have : q = p := Prod.ext e1 e2
    exact nd.1 (this ▸ hq)
end
end FF
end T_FM4

section T_WN1
set_option Elab.async false
set_option linter.all false
set_option maxRecDepth 100000
/-! Dicts whose keys are texts and nested tuples beside one another: keys as values. -/
namespace FW
open PySem PySem.SeqAt
variable {prog : Program} {w : World} {A : Around} {E : Value → Shared → Prop} {s : Shared}
abbrev NK := NestedKey × Value × Value
def entN (w : World) (x : NK) : DictEntry := ⟨x.1.hash w, x.2.1, x.2.2⟩
/-- the keys stand as they are told -/
def NKeys (h : Heap) (xs : List NK) : Prop := ∀ x ∈ xs, NestedIs h x.1 x.2.1 ∧ x.1.depth ≤ 8
def DictN (w : World) (h : Heap) (d : Addr) (xs : List NK) : Prop :=
  ∃ o es ep, h.get? d = some o ∧ o.ExactDict ∧ o.data = .dict es ep ∧ es.toList = xs.map (entN w) ∧ (xs.map (·.1)).Nodup
theorem entN_at {es : Array DictEntry} {xs : List NK} (he : es.toList = xs.map (entN w)) (j : Nat) : es[j]? = (xs[j]?).map (entN w) := by
  rw [← Array.getElem?_toList, he, List.getElem?_map]
theorem entN_size {es : Array DictEntry} {xs : List NK} (he : es.toList = xs.map (entN w)) : es.size = xs.length := by
  rw [← Array.length_toList, he, List.length_map]
theorem idxN {xs : List NK} (hn : (xs.map (·.1)).Nodup) {i j : Nat} {k : NestedKey} {p q : Value × Value} (hi : xs[i]? = some (k, p)) (hj : xs[j]? = some (k, q)) : i = j := by
  have hi' : (xs.map (·.1))[i]? = some k := by rw [List.getElem?_map, hi]; rfl
  have hj' : (xs.map (·.1))[j]? = some k := by rw [List.getElem?_map, hj]; rfl
  exact (List.getElem?_inj (List.getElem?_eq_some_iff.mp hi').1 hn).mp (hi'.trans hj'.symm)
theorem eqN {a b : Value} {x y : NestedKey} {Q : Bool → Shared → Prop} (hu : A.units + 8 < cLine) (hx : NestedIs s.heap x a) (hy : NestedIs s.heap y b) (h8 : x.depth ≤ 8) (h : Q (decide (x = y)) s) : wpAny (model prog w) A (PySem.eqBool a b) Q E s :=
  eqAt_key x y A s _ _ hx hy (by omega) _ _ _ _ (by rw [← NestedKey.decide_eq]; exact h)
/-- the places where a key of this hash may stand -/
def spots (w : World) (es : Array DictEntry) (k : NestedKey) : List Nat := placesWithHash es.size (fun i => es[i]?.map (·.hash)) (k.hash w)
theorem mem_spots {es : Array DictEntry} {k : NestedKey} {i : Nat} : i ∈ spots w es k ↔ i < es.size ∧ es[i]?.map (·.hash) = some (k.hash w) := by
  simp [spots, placesWithHash, List.mem_filter, List.mem_range]
/-- among the places gone through the key stands nowhere, or at the one that was met -/
def Met (xs : List NK) (k : NestedKey) (gone : List Nat) : Option Nat → Prop
  | none => ∀ j ∈ gone, ∀ p, xs[j]? ≠ some (k, p)
  | some j => ∃ p, xs[j]? = some (k, p)
theorem Met.skip {xs : List NK} {k k' : NestedKey} {gone : List Nat} {hit : Option Nat} {x : Nat} {q : Value × Value} (h : Met xs k gone hit) (e : xs[x]? = some (k', q)) (ne : ¬ k' = k) : Met xs k (gone ++ [x]) hit := by
  cases hit with
  | some j => exact h
  | none =>
    intro j hj p hp
    rcases List.mem_append.mp hj with hj | hj
    · exact h j hj p hp
    · have hx : j = x := by simpa using hj
      rw [hx, e] at hp
      exact ne (congrArg Prod.fst (Option.some.inj hp))
theorem quietN {key : Value} {k : NestedKey} {stored : List Value} {Q : Bool → Shared → Prop} (hkey : NestedIs s.heap k key) (h8 : k.depth ≤ 8)
    (hst : ∀ v ∈ stored, QuietAt prog w 8 s v) (h : Q false s) : wpAny (model prog w) A (tableMayTell key stored) Q E s := by
  have go : ∀ (l : List Value) (f : Value → Option Bool × Unit → Sem (ForInStep (Option Bool × Unit))) (Q' : Option Bool × Unit → Shared → Prop), (∀ v ∈ l, QuietAt prog w 8 s v) →
      (∀ v ∈ l, ∀ Q'', Q'' (.yield (none, ())) s → wpAny (model prog w) A (f v (none, ())) Q'' E s) → Q' (none, ()) s → wpAny (model prog w) A (forIn l ((none, ()) : Option Bool × Unit) f) Q' E s := by
    intro l
    induction l with
    | nil => intro f Q' _ _ hq; exact wpAny_pure hq
    | cons v r ih =>
      intro f Q' hl hf hq
      rw [List.forIn_cons]
      exact wpAny_bind (hf v List.mem_cons_self _ (ih f Q' (fun u hu => hl u (List.mem_cons_of_mem _ hu)) (fun u hu => hf u (List.mem_cons_of_mem _ hu)) hq))
  unfold tableMayTell
  by_cases he : stored.isEmpty = true
  · rw [if_pos he]
    exact wpAny_pure h
  · rw [if_neg he]
    refine wpAny_bind (quiet_key k _ 8 s hkey h8 A E _ ?_)
    rw [if_neg (by decide)]
    refine wpAny_bind (go stored _ _ hst (fun v hv Q'' hq => ?_) (wpAny_pure h))
    refine wpAny_bind (hst v hv A E _ ?_)
    rw [if_neg (by decide)]
    exact wpAny_pure hq
/-- the search among the places of one hash -/
theorem scanN {xs : List NK} {k : NestedKey} {es : Array DictEntry} (hn : (xs.map (·.1)).Nodup) (hent : ∀ x ∈ spots w es k, ∃ q, xs[x]? = some q) {f : Nat → Option (Option Nat) × Option Nat → Sem (ForInStep (Option (Option Nat) × Option Nat))}
    (turn : ∀ x ∈ spots w es k, ∀ (hit : Option Nat) (q : NK) (Q'' : ForInStep (Option (Option Nat) × Option Nat) → Shared → Prop), xs[x]? = some q → (q.1 ≠ k → Q'' (.yield (none, hit)) s) →
      (q.1 = k → hit = none → Q'' (.done (some (some x), hit)) s ∧ Q'' (.yield (none, some x)) s) → (q.1 = k → hit = none) → wpAny (model prog w) A (f x (none, hit)) Q'' E s)
    {Q' : Option (Option Nat) × Option Nat → Shared → Prop} (hd : ∀ j p h, xs[j]? = some (k, p) → Q' (some (some j), h) s) (hy : ∀ hit, Met xs k (spots w es k) hit → Q' (none, hit) s) :
    wpAny (model prog w) A (forIn (spots w es k) ((none, none) : Option (Option Nat) × Option Nat) f) Q' E s := by
  have nd : (spots w es k).Nodup := (List.nodup_range (n := es.size)).sublist List.filter_sublist
  refine wpAny_forIn_list _ (fun rest r s' => s' = s ∧ ((∃ j p h, r = (some (some j), h) ∧ rest = [] ∧ xs[j]? = some (k, p)) ∨ ∃ gone hit, r = (none, hit) ∧ spots w es k = gone ++ rest ∧ Met xs k gone hit ∧ ∀ j, hit = some j → j ∈ gone)) _ ?_ ?_ _ _ ⟨rfl, .inr ⟨[], none, rfl, rfl, ⟨fun j h => (by cases h), fun j h => (by cases h)⟩⟩⟩
  · rintro x rest r s' ⟨rfl, h | ⟨gone, hit, rfl, hp, hm, hg⟩⟩
    · obtain ⟨_, _, _, _, z, _⟩ := h
      cases z
    · have hx : x ∈ spots w es k := by rw [hp]; simp
      obtain ⟨q, hq⟩ := hent x hx
      have uniq : q.1 = k → hit = none := by
        intro hk
        cases hit with
        | none => rfl
        | some j =>
          obtain ⟨p, hj⟩ := hm
          have : j = x := idxN hn hj (show xs[x]? = some (k, q.2) by rw [hq, ← hk])
          subst this
          have h1 := hg j rfl
          rw [hp, List.nodup_append] at nd
          exact absurd rfl (nd.2.2 j h1 j List.mem_cons_self)
      refine turn x hx hit q _ hq (fun ne => ?_) (fun hk h0 => ⟨?_, ?_⟩) uniq
      · exact ⟨rfl, .inr ⟨gone ++ [x], hit, rfl, by rw [hp]; simp, hm.skip (k' := q.1) (q := q.2) hq ne, fun j hj => List.mem_append_left _ (hg j hj)⟩⟩
      · exact hd x q.2 hit (by rw [hq, ← hk])
      · exact ⟨rfl, .inr ⟨gone ++ [x], some x, rfl, by rw [hp]; simp, ⟨q.2, by rw [hq, ← hk]⟩, fun j hj => by cases hj; simp⟩⟩
  · rintro r s' ⟨rfl, ⟨j, p, h, rfl, _, hj⟩ | ⟨gone, hit, rfl, hp, hm, _⟩⟩
    · exact hd j p h hj
    · rw [List.append_nil] at hp
      exact hy hit (by rw [hp]; exact hm)
theorem findN {d : Addr} {key : Value} {o : Obj} {es ep} {xs : List NK} {k : NestedKey} {Q : Option Nat → Shared → Prop} (hu : A.units + 8 < cLine) (hkey : NestedIs s.heap k key) (h8 : k.depth ≤ 8) (hK : (∃ x, k = .text x) ∨ ∃ ks, k = .tup ks)
    (ho : s.heap.get? d = some o) (hd : o.data = .dict es ep) (he : es.toList = xs.map (entN w)) (his : NKeys s.heap xs) (hn : (xs.map (·.1)).Nodup)
    (hnone : (∀ (j : Nat) (p : Value × Value), xs[j]? ≠ some (k, p)) → Q none s) (hsome : ∀ (j : Nat) (p : Value × Value), xs[j]? = some (k, p) → Q (some j) s) :
    wpAny (model prog w) A (dictFind d key (k.hash w)) Q E s := by
  have hsz : es.size = xs.length := entN_size he
  -- an entry and what it is of
  have ent : ∀ i (hi : i < es.size), ∃ (k' : NestedKey) (b v : Value), xs[i]? = some (k', b, v) ∧ es[i]? = some ⟨k'.hash w, b, v⟩ ∧ NestedIs s.heap k' b ∧ k'.depth ≤ 8 := by
    intro i hi
    have hx : xs[i]? = some xs[i] := List.getElem?_eq_getElem (by omega)
    obtain ⟨h1, h2⟩ := his _ (List.mem_of_getElem? hx)
    exact ⟨xs[i].1, xs[i].2.1, xs[i].2.2, hx, by rw [entN_at he i, hx]; rfl, h1, h2⟩
  have fin : ∀ hit, Met xs k (spots w es k) hit → Q hit s := by
    intro hit hm
    cases hit with
    | some j => obtain ⟨p, hp⟩ := hm; exact hsome j p hp
    | none =>
      refine hnone fun j p hj => ?_
      have hjl : j < es.size := by rw [hsz]; exact (List.getElem?_eq_some_iff.mp hj).1
      refine hm j (mem_spots.mpr ⟨hjl, ?_⟩) p hj
      rw [entN_at he j, hj]; rfl
  have quiet : ∀ v ∈ (spots w es k).filterMap (fun i => es[i]?.map (·.key)), QuietAt prog w 8 s v := by
    intro v hv
    obtain ⟨i, hi, e⟩ := List.mem_filterMap.mp hv
    obtain ⟨k', b, v', _, e2, h1, h2⟩ := ent i (mem_spots.mp hi).1
    rw [e2] at e
    have : b = v := Option.some.inj e
    subst this
    exact quiet_key k' b 8 s h1 h2
  have scan : ∀ {f : Nat → Option (Option Nat) × Option Nat → Sem (ForInStep (Option (Option Nat) × Option Nat))} {Q' : Option (Option Nat) × Option Nat → Shared → Prop},
      (∀ x ∈ spots w es k, ∀ (hit : Option Nat) (k' : NestedKey) (b v : Value) (Q'' : ForInStep (Option (Option Nat) × Option Nat) → Shared → Prop), es[x]? = some ⟨k'.hash w, b, v⟩ → (k'.hash w == k.hash w) = true → NestedIs s.heap k' b → k'.depth ≤ 8 →
        (k' ≠ k → Q'' (.yield (none, hit)) s) → (k' = k → hit = none → Q'' (.done (some (some x), hit)) s ∧ Q'' (.yield (none, some x)) s) → (k' = k → hit = none) → wpAny (model prog w) A (f x (none, hit)) Q'' E s) →
      (∀ j h, Q (some j) s → Q' (some (some j), h) s) → (∀ hit, Q hit s → Q' (none, hit) s) → wpAny (model prog w) A (forIn (spots w es k) ((none, none) : Option (Option Nat) × Option Nat) f) Q' E s := by
    intro f Q' ht h1 h2
    refine scanN hn (fun x hx => let ⟨k', b, v, e1, _⟩ := ent x (mem_spots.mp hx).1; ⟨_, e1⟩) (fun x hx hit q Q'' hq a1 a2 a3 => ?_) (fun j p h hj => h1 j h (hsome j p hj)) (fun hit hm => h2 hit (fin hit hm))
    obtain ⟨k', b, v, e1, e2, q1, q2⟩ := ent x (mem_spots.mp hx).1
    rw [hq] at e1
    have eq := Option.some.inj e1
    subst eq
    have e3 := (mem_spots.mp hx).2
    rw [e2] at e3
    exact ht x hx hit k' b v Q'' e2 (by simpa using Option.some.inj e3) q1 q2 a1 a2 a3
  -- by value: the first that is the key
  have plain : wpAny (model prog w) A (dictWalkPlain d key (k.hash w) es (spots w es k)) Q E s := by
    refine wpAny_bind ?_
    refine wpAny_forIn_list _ (fun rest r s' => s' = s ∧ r = (none, ()) ∧ ∃ gone, spots w es k = gone ++ rest ∧ Met xs k gone none) _ ?_ ?_ _ _ ⟨rfl, rfl, [], rfl, fun _ h => nomatch h⟩
    · rintro x rest r s' ⟨rfl, rfl, gone, hp, hm⟩
      have hx : x ∈ spots w es k := by rw [hp]; simp
      obtain ⟨k', b, v, e1, e2, h1, h2⟩ := ent x (mem_spots.mp hx).1
      have hh : (k'.hash w == k.hash w) = true := by
        have e3 := (mem_spots.mp hx).2
        rw [e2] at e3
        simpa using Option.some.inj e3
      simp only [e2, hh, if_true]
      refine wpAny_bind (wpAny_dictEpoch ho hd (wpAny_bind (eqN hu h1 hkey h2 (wpAny_bind (wpAny_dictEpoch ho hd ?_)))))
      rw [if_neg (by simp)]
      by_cases hkk : k' = k
      · rw [decide_eq_true hkk]
        exact wpAny_bind (wpAny_rule (wpAny_pure (wpAny_pure (hsome x _ (by rw [e1, hkk])))))
      · rw [decide_eq_false hkk]
        exact wpAny_bind (wpAny_rule (wpAny_pure ⟨rfl, rfl, gone ++ [x], by rw [hp]; simp, hm.skip e1 hkk⟩))
    · rintro r s' ⟨rfl, rfl, gone, hp, hm⟩
      rw [List.append_nil] at hp
      exact wpAny_pure (fin none (by rw [hp]; exact hm))
  cases hkey with
  | none => rcases hK with ⟨_, e⟩ | ⟨_, e⟩ <;> cases e
  | bool _ => rcases hK with ⟨_, e⟩ | ⟨_, e⟩ <;> cases e
  | int _ _ => rcases hK with ⟨_, e⟩ | ⟨_, e⟩ <;> cases e
  | text x t =>
    have hkey : NestedIs s.heap (.text x) (.str x t) := .text x t
    unfold dictFind
    try with_reducible refine wpAny_holding ?_
    refine wpAny_bind (wpAny_dictEntries ho hd ?_)
    show wpAny _ _ (if (es.all fun e => isExactStrKey e.key) = true then _ else _) _ _ _
    by_cases c1 : (es.all fun e => isExactStrKey e.key) = true
    · rw [if_pos c1]
      unfold foundByValue
      have same : ∀ i (hi : i < es.size), ∀ k' q, xs[i]? = some (k', q) → (es[i].key.isStr x = true ↔ k' = .text x) := by
        intro i hi k' q hq
        obtain ⟨k2, b, v, e1, e2, h1, h2⟩ := ent i hi
        rw [hq] at e1
        have ek : k' = k2 := congrArg Prod.fst (Option.some.inj e1)
        rw [Array.getElem?_eq_getElem hi] at e2
        rw [Option.some.inj e2, ek]
        show b.isStr x = true ↔ _
        cases h1 with
        | text z t' => simp [Value.isStr]
        | none => simp [Value.isStr]
        | int => simp [Value.isStr]
        | bool => simp [Value.isStr]
        | tup => simp [Value.isStr]
      cases hf : es.findIdx? (fun e => e.key.isStr x) with
      | none =>
        refine wpAny_pure (hnone fun j p hj => ?_)
        have hje : j < es.size := by rw [hsz]; exact (List.getElem?_eq_some_iff.mp hj).1
        have h1 := (same j hje _ p hj).mpr rfl
        rw [Array.findIdx?_eq_none_iff.mp hf _ (Array.getElem_mem hje)] at h1
        cases h1
      | some i =>
        obtain ⟨hlt, hi, _⟩ := Array.findIdx?_eq_some_iff_getElem.mp hf
        obtain ⟨k', b, v, e1, e2, h1, h2⟩ := ent i hlt
        have hkk : k' = .text x := (same i hlt k' _ e1).mp hi
        simp only [e2]
        refine wpAny_bind (wpAny_dictEpoch ho hd (wpAny_bind (eqN hu h1 hkey h2 (wpAny_bind (wpAny_dictEpoch ho hd ?_)))))
        rw [if_neg (by simp), decide_eq_true hkk]
        exact wpAny_bind (wpAny_rule (wpAny_pure (hsome i _ (by rw [e1, hkk]))))
    · rw [if_neg c1]
      show wpAny _ _ (if ((Value.str x t :: (spots w es (.text x)).filterMap fun i => es[i]?.map (·.key)).all carriedByValue) = true then _ else _) _ _ _
      by_cases c2 : ((Value.str x t :: (spots w es (.text x)).filterMap fun i => es[i]?.map (·.key)).all carriedByValue) = true
      · rw [if_pos c2]
        exact plain
      · rw [if_neg c2]
        show wpAny _ _ (if (((spots w es (.text x)).filterMap fun i => es[i]?.map (·.key)) == [Value.str x t]) = true then _ else _) _ _ _
        have go : wpAny (model prog w) A (if (((spots w es (.text x)).filterMap fun i => es[i]?.map (·.key)) == [Value.str x t]) = true then pure false else tableMayTell (Value.str x t) ((spots w es (.text x)).filterMap fun i => es[i]?.map (·.key))) (fun b s' => b = false ∧ s' = s) E s := by
          split
          · exact wpAny_pure ⟨rfl, rfl⟩
          · exact quietN hkey h8 quiet ⟨rfl, rfl⟩
        by_cases hone : (((spots w es (.text x)).filterMap fun i => es[i]?.map (·.key)) == [Value.str x t]) = true
        all_goals
          first | rw [if_pos hone] at go ⊢ | rw [if_neg hone] at go ⊢
          refine wpAny_bind (wpAny_mono go (fun b s' hb => ?_) fun _ _ z => z)
          obtain ⟨rfl, rfl⟩ := hb
          show wpAny _ _ (if (false && _) = true then _ else _) _ _ _
          rw [if_neg (by simp)]
          refine wpAny_bind (scan (fun y hy hit k' b v Q'' e2 hh q1 q2 a1 a2 a3 => ?_) (fun j h hq => wpAny_pure hq) (fun hit hq => wpAny_pure hq))
          simp only [e2, hh, if_true]
          refine wpAny_bind (wpAny_dictEpoch ho hd (wpAny_bind (eqN hu q1 hkey q2 (wpAny_bind (wpAny_dictEpoch ho hd ?_)))))
          rw [if_neg (by simp)]
          by_cases hkk : k' = (.text x)
          · have h0 := a3 hkk
            obtain ⟨b1, b2⟩ := a2 hkk h0
            subst h0
            rw [decide_eq_true hkk, if_pos rfl]
            show wpAny _ _ (if (Option.isSome none) = true then _ else _) _ _ _
            rw [if_neg (by simp)]
            refine wpAny_bind (wpAny_rule ?_)
            split
            · exact wpAny_pure b1
            · exact wpAny_pure b2
          · rw [decide_eq_false hkk, if_neg (by simp)]
            refine wpAny_bind (wpAny_rule ?_)
            show wpAny _ _ (if (false && _) = true then _ else _) _ _ _
            rw [if_neg (by simp)]
            exact wpAny_pure (a1 hkk)
  | @tup a o' vs n ks h1 h2 h3 h4 =>
    have hkey : NestedIs s.heap (.tup ks) (.ref a) := .tup h1 h2 h3 h4
    unfold dictFind
    try with_reducible refine wpAny_holding ?_
    refine wpAny_bind (wpAny_dictEntries ho hd ?_)
    show wpAny _ _ (if ((Value.ref a :: (spots w es (.tup ks)).filterMap fun i => es[i]?.map (·.key)).all carriedByValue) = true then _ else _) _ _ _
    rw [if_neg (by simp [carriedByValue])]
    show wpAny _ _ (if (es.any fun e => e.key == Value.ref a && e.hash != (NestedKey.tup ks).hash w) = true then _ else _) _ _ _
    rw [if_neg (fun hc => by
      obtain ⟨i, hi, hc⟩ := Array.any_eq_true.mp hc
      obtain ⟨k', b, v, e1, e2, q1, q2⟩ := ent i hi
      rw [Array.getElem?_eq_getElem hi] at e2
      rw [Option.some.inj e2] at hc
      simp only [Bool.and_eq_true, beq_iff_eq, bne_iff_ne, ne_eq] at hc
      rw [hc.1] at q1
      exact hc.2 (by rw [NestedIs.inj _ _ _ q1 hkey]))]
    show wpAny _ _ (if (((spots w es (.tup ks)).filterMap fun i => es[i]?.map (·.key)) == [Value.ref a]) = true then _ else _) _ _ _
    have go : wpAny (model prog w) A (if (((spots w es (.tup ks)).filterMap fun i => es[i]?.map (·.key)) == [Value.ref a]) = true then pure false else tableMayTell (Value.ref a) ((spots w es (.tup ks)).filterMap fun i => es[i]?.map (·.key))) (fun b s' => b = false ∧ s' = s) E s := by
      split
      · exact wpAny_pure ⟨rfl, rfl⟩
      · exact quietN hkey h8 quiet ⟨rfl, rfl⟩
    by_cases hone : (((spots w es (.tup ks)).filterMap fun i => es[i]?.map (·.key)) == [Value.ref a]) = true
    all_goals
      first | rw [if_pos hone] at go ⊢ | rw [if_neg hone] at go ⊢
      refine wpAny_bind (wpAny_mono go (fun b s' hb => ?_) fun _ _ z => z)
      obtain ⟨rfl, rfl⟩ := hb
      show wpAny _ _ (if (false && _) = true then _ else _) _ _ _
      rw [if_neg (by simp)]
      refine wpAny_bind (scan (fun y hy hit k' b v Q'' e2 hh q1 q2 a1 a2 a3 => ?_) (fun j h hq => wpAny_pure hq) (fun hit hq => wpAny_pure hq))
      simp only [e2, hh, if_true]
      refine wpAny_bind (wpAny_dictEpoch ho hd (wpAny_bind (eqN hu q1 hkey q2 (wpAny_bind (wpAny_dictEpoch ho hd ?_)))))
      rw [if_neg (by simp)]
      by_cases hkk : k' = (.tup ks)
      · have h0 := a3 hkk
        obtain ⟨b1, b2⟩ := a2 hkk h0
        subst h0
        rw [decide_eq_true hkk, if_pos rfl]
        show wpAny _ _ (if (Option.isSome none) = true then _ else _) _ _ _
        rw [if_neg (by simp)]
        refine wpAny_bind (wpAny_rule ?_)
        split
        · exact wpAny_pure b1
        · exact wpAny_pure b2
      · rw [decide_eq_false hkk, if_neg (by simp)]
        refine wpAny_bind (wpAny_rule ?_)
        show wpAny _ _ (if (false && _) = true then _ else _) _ _ _
        rw [if_neg (by simp)]
        exact wpAny_pure (a1 hkk)
/-- a key of a dict: a text or a tuple, not too deep -/
structure KeyOk (k : NestedKey) : Prop where
  d8 : k.depth ≤ 8
  kd : (∃ x, k = .text x) ∨ ∃ ks, k = .tup ks
def lookN (xs : List NK) (k : NestedKey) : Option (Value × Value) := (xs.find? fun x => decide (x.1 = k)).map (·.2)
theorem lookN_at {xs : List NK} (hn : (xs.map (·.1)).Nodup) {k : NestedKey} {j : Nat} {p : Value × Value} (h : xs[j]? = some (k, p)) : lookN xs k = some p := by
  unfold lookN
  cases e : xs.find? fun x => decide (x.1 = k) with
  | none =>
    have := List.find?_eq_none.mp e (k, p) (List.mem_of_getElem? h)
    exact absurd (decide_eq_true rfl) this
  | some y =>
    obtain ⟨i, hi⟩ := List.mem_iff_getElem?.mp (List.mem_of_find?_eq_some e)
    have hy : y.1 = k := of_decide_eq_true (List.find?_some (p := fun x : NK => decide (x.1 = k)) e)
    have hi' : xs[i]? = some (k, y.2) := by rw [hi, ← hy]
    have ij := idxN hn hi' h
    subst ij
    rw [hi'] at h
    have := Option.some.inj h
    exact congrArg some (congrArg Prod.snd this)
theorem lookN_none {xs : List NK} {k : NestedKey} (h : ∀ (j : Nat) (p : Value × Value), xs[j]? ≠ some (k, p)) : lookN xs k = none := by
  unfold lookN
  rw [Option.map_eq_none_iff, List.find?_eq_none]
  intro x hx hk
  obtain ⟨j, hj⟩ := List.mem_iff_getElem?.mp hx
  exact h j x.2 (by rw [hj, ← of_decide_eq_true hk])
theorem DictN.typeIs {d : Addr} {xs : List NK} (h : DictN w s.heap d xs) : s.TypeIs (.ref d) "dict" := let ⟨o, _, _, ho, hc, _⟩ := h; ⟨o, ho, hc.1⟩
variable {d : Addr} {key : Value} {k : NestedKey} {xs : List NK}
theorem dictGetN {Q : Option Value → Shared → Prop} (hu : A.units + 8 < cLine) (hkey : NestedIs s.heap k key) (kok : KeyOk k) (hm : DictN w s.heap d xs) (hks : NKeys s.heap xs)
    (h : ∀ tk, Q ((lookN xs k).map (·.2)) { s with toks := tk }) : wpAny (model prog w) A (dictGet d key) Q E s := by
  obtain ⟨o, es, ep, ho, _, hd, he, hn⟩ := hm
  unfold dictGet
  try with_reducible refine wpAny_holding ?_
  have hdep := kok.d8
  refine wpAny_bind (pyHash_key k key A s _ hkey (by omega) ?_)
  refine wpAny_bind (findN (s := { s with toks := s.toks + k.draws }) hu hkey kok.d8 kok.kd ho hd he hks hn (fun hno => ?_) fun j p hj => ?_)
  · have := h (s.toks + k.draws)
    rw [lookN_none hno] at this
    exact wpAny_pure this
  · have := h (s.toks + k.draws)
    rw [lookN_at hn hj] at this
    refine wpAny_bind (wpAny_dictEntries (s := { s with toks := s.toks + k.draws }) ho hd ?_)
    rw [entN_at he j, hj]
    exact wpAny_pure this
/-- d[k], there -/
theorem getItemN {Q : Value → Shared → Prop} {v : Value} (hu : A.units + 9 < cLine) (hkey : NestedIs s.heap k key) (kok : KeyOk k) (hm : DictN w s.heap d xs) (hks : NKeys s.heap xs) (hv : (lookN xs k).map (·.2) = some v)
    (h : ∀ tk, Q v { s with toks := tk }) : wpAny (model prog w) A (getItem (.ref d) key) Q E s := by
  have ht : s.TypeIs (.ref d) "dict" := hm.typeIs
  unfold getItem
  try with_reducible refine wpAny_holding ?_
  refine wpAny_bind (wpAny_sequenceKey ht (by decide) ?_)
  refine wpAny_bind (wpAny_callSpecial?_slot (name := Str.ofString "__getitem__") ht slot_dict_getitem (wpAny_call_entry slot_dict_getitem ht entry_dict_getitem ?_ (args_dict_getitem _ _)))
  show wpAny _ _ (dictGet d key >>= _) _ _ _
  refine wpAny_bind (dictGetN (A := A.in1) (by show A.units + 1 + 8 < cLine; omega) hkey kok hm hks fun tk => ?_)
  rw [hv]
  exact wpAny_pure ⟨v, rfl, wpAny_pure (h tk)⟩
/-- k in d -/
theorem inN {Q : Value → Shared → Prop} (hu : A.units + 9 < cLine) (hkey : NestedIs s.heap k key) (kok : KeyOk k) (hm : DictN w s.heap d xs) (hks : NKeys s.heap xs) (hs : (d == sysModules) = false)
    (h : ∀ tk, Q (.bool (lookN xs k).isSome) { s with toks := tk }) : wpAny (model prog w) A (compareOp .In key (.ref d)) Q E s := by
  have ht : s.TypeIs (.ref d) "dict" := hm.typeIs
  show wpAny _ _ (contains (.ref d) key >>= fun b => pure (.bool b)) Q E s
  refine wpAny_bind (wpAny_contains_slot ht F.slot_dict_contains ?_)
  refine call_meetsIn F.slot_dict_contains ht F.entry_dict_contains (F.args_dict_contains_2 _ _) (S := fun A' R s' => A' = A ∧ s' = s ∧ ∀ tk, R (.ok (.ret (.bool (lookN xs k).isSome))) { s with toks := tk }) (.of_wp fun A' R s' hS => ?_) ⟨rfl, rfl, fun tk => wpAny_truthy_bool (wpAny_pure (h tk))⟩
  obtain ⟨rfl, rfl, hq⟩ := hS
  show wpAny _ _ (dictGet d key >>= _) _ _ _
  refine wpAny_bind (dictGetN (A := A'.in1) (by show A'.units + 1 + 8 < cLine; omega) hkey kok hm hks fun tk => ?_)
  have hq' := hq tk
  cases e : lookN xs k with
  | some p =>
    rw [e] at hq'
    exact wpAny_pure ⟨_, rfl, hq'⟩
  | none =>
    rw [e] at hq'
    exact wpAny_bind (wpAny_pendingKey_other hs (wpAny_pure ⟨_, rfl, hq'⟩))
/-- a new key, by a comprehension -/
theorem dictSetN {Q : Unit → Shared → Prop} {v : Value} (hu : A.units + 8 < cLine) (hkey : NestedIs s.heap k key) (kok : KeyOk k) (hm : DictN w s.heap d xs) (hks : NKeys s.heap xs) (hno : k ∉ xs.map (·.1)) (hsz : xs.length ≤ sizeLine)
    (h : ∀ h' tk, DictN w h' d (xs ++ [(k, key, v)]) → Heap.SameBut d s.heap h' → Q () { s with heap := h', toks := tk }) : wpAny (model prog w) A (dictSet d key v) Q E s := by
  obtain ⟨o, es, ep, ho, hc, hd, he, hn⟩ := hm
  have hdep := kok.d8
  unfold dictSet
  try with_reducible refine wpAny_holding ?_
  refine wpAny_bind (pyHash_key k key A s _ hkey (by omega) ?_)
  unfold dictSetHashed
  try with_reducible refine wpAny_holding ?_
  refine wpAny_bind (findN (s := { s with toks := s.toks + k.draws }) hu hkey kok.d8 kok.kd ho hd he hks hn (fun _ => ?_) fun j p hj => ?_)
  · refine wpAny_bind (wpAny_rule (wpAny_updateDictKeys (hz := by rw [entN_size he]; exact hsz) (s := { s with toks := s.toks + k.draws }) ho hd (h _ _ ⟨_, _, ep + 1, Heap.get?_update_self _ ho (Obj.isFreed_of_dict (Obj.data_mapDictKeys hd _)), hc.mapDictKeys _, Obj.data_mapDictKeys hd _, ?_, ?_⟩ (Heap.SameBut.update ..))))
    · simp [he, entN]
    · rw [List.map_append, List.nodup_append]
      refine ⟨hn, by simp, fun a ha b hb e => hno ?_⟩
      have hb' : b = k := by simpa using hb
      rw [← hb', ← e]
      exact ha
  · exact absurd (List.mem_map.mpr ⟨_, List.mem_of_getElem? hj, rfl⟩) hno
end FW
end T_WN1

section T_WN2
set_option Elab.async false
set_option linter.all false
set_option maxRecDepth 100000
/-! Data: what a value stands for; terms, pairs, rules, steps. -/
namespace FW
open PySem L2 FF
/-! ### tuples stay -/
def TS (H H' : Hp) : Prop := ∀ a xs, Rd H a (.tup xs) → Rd H' a (.tup xs)
theorem TS.refl (H : Hp) : TS H H := fun _ _ h => h
theorem TS.trans {H H1 H2 : Hp} (a : TS H H1) (b : TS H1 H2) : TS H H2 := fun p xs h => b p xs (a p xs h)
theorem TS.same {H H' : Hp} (h : Same H H') : TS H H' := fun a xs q => by
  rcases q with q | ⟨o, q⟩
  · exact .inl (h _ _ q)
  · exact .inr ⟨o, h _ _ q⟩
/-- what is written here is no tuple -/
def NoTup : HO → Prop
  | .tup _ => False
  | .frz _ _ => False
  | _ => True
theorem TS.upd {H : Hp} {a : Addr} {o u : HO} (h : H a = some u) (n : NoTup u) : TS H (upd H a o) := fun b xs q => by
  have ne : b ≠ a := by
    rintro rfl
    rcases q with q | ⟨o', q⟩
    · rw [h] at q; cases q; exact n
    · rw [h] at q; cases q; exact n
  rcases q with q | ⟨o', q⟩
  · exact .inl (by rw [upd_ne ne]; exact q)
  · exact .inr ⟨o', by rw [upd_ne ne]; exact q⟩
theorem same_upd {H : Hp} {p : Addr} {o : HO} (h : H p = none) : Same H (upd H p o) := fun b x e => by
  rw [upd_ne (ne_of_none e h)]; exact e
theorem TS.new {H : Hp} {a : Addr} {o : HO} (h : H a = none) : TS H (L2.upd H a o) := TS.same (same_upd h)
theorem SqT.ts {K : PySem.W.Frag} {H H' : Hp} {a : Addr} {xs : List V} (t : TS H H') (h : SqT K H a xs) : SqT K H' a xs := by
  rcases h with h | h
  · exact .inl (t _ _ h)
  · exact .inr h
theorem SqT.same {K : PySem.W.Frag} {H H' : Hp} {a : Addr} {xs : List V} (t : Same H H') (h : SqT K H a xs) : SqT K H' a xs := SqT.ts (TS.same t) h
/-! ### data without lists, bools, dicts -/
mutual
def flat : PyData → Bool
  | .none => true
  | .int _ => true
  | .str _ => true
  | .tuple ds => flats ds
  | _ => false
def flats : List PyData → Bool
  | [] => true
  | d :: ds => flat d && flats ds
end
theorem flats_iff : ∀ ds : List PyData, flats ds = true ↔ ∀ d ∈ ds, flat d = true
  | [] => by simp [flats]
  | d :: ds => by simp [flats, flats_iff ds]
theorem flats_map {α : Type} {f : α → PyData} (h : ∀ a, flat (f a) = true) (l : List α) : flats (l.map f) = true := (flats_iff _).mpr fun d hd => by
  obtain ⟨a, _, rfl⟩ := List.mem_map.mp hd
  exact h a
variable {K : PySem.W.Frag} {H H' : Hp}
mutual
theorem Dp.ts (t : TS H H') : ∀ (d : PyData) (v : V), flat d = true → Dp K H v d → Dp K H' v d
  | .none, _, _, h => by cases h; exact .non
  | .bool _, _, f, _ => by simp [flat] at f
  | .int _, _, _, h => by cases h; exact .int _
  | .str _, _, _, h => by cases h; exact .str _
  | .list _, _, f, _ => by simp [flat] at f
  | .dict _, _, f, _ => by simp [flat] at f
  | .tuple ds, _, f, h => by
    simp only [flat] at f
    cases h with
    | tup hs ha => exact .tup (SqT.ts t hs) (DpAll.ts t ds _ f ha)
theorem DpAll.ts (t : TS H H') : ∀ (ds : List PyData) (vs : List V), flats ds = true → DpAll K H vs ds → DpAll K H' vs ds
  | [], _, _, h => by cases h; exact .nil
  | d :: ds, _, f, h => by
    simp only [flats, Bool.and_eq_true] at f
    cases h with
    | cons h1 h2 => exact .cons (Dp.ts t d _ f.1 h1) (DpAll.ts t ds _ f.2 h2)
end
mutual
theorem Dp.same (t : Same H H') : ∀ (d : PyData) (v : V), Dp K H v d → Dp K H' v d
  | .none, _, h => by cases h; exact .non
  | .bool _, _, h => by cases h; exact .bl _
  | .int _, _, h => by cases h; exact .int _
  | .str _, _, h => by cases h; exact .str _
  | .dict _, _, h => by cases h
  | .list ds, _, h => by
    cases h with
    | lst hs ha => exact .lst (t.seq hs) (DpAll.same t ds _ ha)
  | .tuple ds, _, h => by
    cases h with
    | tup hs ha => exact .tup (SqT.same t hs) (DpAll.same t ds _ ha)
theorem DpAll.same (t : Same H H') : ∀ (ds : List PyData) (vs : List V), DpAll K H vs ds → DpAll K H' vs ds
  | [], _, h => by cases h; exact .nil
  | d :: ds, _, h => by
    cases h with
    | cons h1 h2 => exact .cons (Dp.same t d _ h1) (DpAll.same t ds _ h2)
end
theorem DpAll.length : ∀ {vs : List V} {ds : List PyData}, DpAll K H vs ds → vs.length = ds.length
  | _, _, .nil => rfl
  | _, _, .cons _ h => by simp [DpAll.length h]
theorem DpAll.get : ∀ {vs : List V} {ds : List PyData} {i : Nat} {d : PyData}, DpAll K H vs ds → ds[i]? = some d → ∃ v, vs[i]? = some v ∧ Dp K H v d
  | _, _, _, _, .nil, e => by simp at e
  | _, _, 0, _, .cons h _, e => by
    simp only [List.getElem?_cons_zero, Option.some.injEq] at e
    subst e; exact ⟨_, rfl, h⟩
  | _, _, i + 1, _, .cons _ h, e => by
    simp only [List.getElem?_cons_succ] at e ⊢
    exact DpAll.get h e
theorem DpAll.at : ∀ {vs : List V} {ds : List PyData} {i : Nat} {v : V}, DpAll K H vs ds → vs[i]? = some v → ∃ d, ds[i]? = some d ∧ Dp K H v d
  | _, _, _, _, .nil, e => by simp at e
  | _, _, 0, _, .cons h _, e => by
    simp only [List.getElem?_cons_zero, Option.some.injEq] at e
    subst e; exact ⟨_, rfl, h⟩
  | _, _, i + 1, _, .cons _ h, e => by
    simp only [List.getElem?_cons_succ] at e ⊢
    exact DpAll.at h e
theorem DpAll.append : ∀ {vs ws : List V} {ds es : List PyData}, DpAll K H vs ds → DpAll K H ws es → DpAll K H (vs ++ ws) (ds ++ es)
  | _, _, _, _, .nil, k => k
  | _, _, _, _, .cons h t, k => .cons h (DpAll.append t k)
theorem DpAll.snoc {vs : List V} {ds : List PyData} {v : V} {d : PyData} (h : DpAll K H vs ds) (k : Dp K H v d) : DpAll K H (vs ++ [v]) (ds ++ [d]) := DpAll.append h (.cons k .nil)
theorem DpAll.drop : ∀ {vs : List V} {ds : List PyData} (n : Nat), DpAll K H vs ds → DpAll K H (vs.drop n) (ds.drop n)
  | _, _, 0, h => h
  | _, _, _ + 1, .nil => .nil
  | _, _, n + 1, .cons _ h => DpAll.drop n h
theorem DpAll.take : ∀ {vs : List V} {ds : List PyData} (n : Nat), DpAll K H vs ds → DpAll K H (vs.take n) (ds.take n)
  | _, _, 0, _ => .nil
  | _, _, _ + 1, .nil => .nil
  | _, _, n + 1, .cons h k => .cons h (DpAll.take n k)
theorem DpAll.strs {ls : List Str} : DpAll K H (ls.map V.str) (ls.map PyData.str) := by
  induction ls with
  | nil => exact .nil
  | cons a l ih => exact .cons (.str a) ih
theorem DpAll.ints {ls : List Int} : DpAll K H (ls.map V.int) (ls.map PyData.int) := by
  induction ls with
  | nil => exact .nil
  | cons a l ih => exact .cons (.int a) ih
/-- a new tuple -/
theorem Dp.mk {p : Addr} {vs : List V} {ds : List PyData} (np : H p = none) (h : DpAll K H vs ds) : Dp K (upd H p (.tup vs)) (.ref p) (.tuple ds) :=
  .tup (SqT.of upd_same) (DpAll.same (same_upd np) _ _ h)
theorem Dp.mkL {p : Addr} {vs : List V} {ds : List PyData} (np : H p = none) (h : DpAll K H vs ds) : Dp K (upd H p (.lst vs)) (.ref p) (.list ds) :=
  .lst (SqL.of upd_same) (DpAll.same (same_upd np) _ _ h)
/-! ### == of such data -/
mutual
theorem eqv_self : ∀ d : PyData, flat d = true → PyData.eqv d d = true
  | .none, _ => by simp [PyData.eqv]
  | .bool _, f => by simp [flat] at f
  | .int _, _ => by simp [PyData.eqv]
  | .str _, _ => by simp [PyData.eqv]
  | .list _, f => by simp [flat] at f
  | .dict _, f => by simp [flat] at f
  | .tuple ds, f => by
    simp only [flat] at f
    simp only [PyData.eqv]
    exact eqvs_self ds f
theorem eqvs_self : ∀ ds : List PyData, flats ds = true → PyData.eqvAll ds ds = true
  | [], _ => by simp [PyData.eqvAll]
  | d :: ds, f => by
    simp only [flats, Bool.and_eq_true] at f
    simp only [PyData.eqvAll, eqv_self d f.1, eqvs_self ds f.2, Bool.and_self]
end
mutual
theorem eqv_eq : ∀ d e : PyData, flat d = true → flat e = true → PyData.eqv d e = true → d = e
  | .none, .none, _, _, _ => rfl
  | .int a, .int b, _, _, h => by
    have : a = b := by simpa [PyData.eqv] using h
    rw [this]
  | .str a, .str b, _, _, h => by
    have : a = b := by simpa [PyData.eqv] using h
    rw [this]
  | .tuple ds, .tuple es, f, g, h => by
    simp only [flat] at f g
    simp only [PyData.eqv] at h
    rw [eqvs_eq ds es f g h]
  | .none, .int _, _, _, h => by simp [PyData.eqv] at h
  | .none, .str _, _, _, h => by simp [PyData.eqv] at h
  | .none, .tuple _, _, _, h => by simp [PyData.eqv] at h
  | .int _, .none, _, _, h => by simp [PyData.eqv] at h
  | .int _, .str _, _, _, h => by simp [PyData.eqv] at h
  | .int _, .tuple _, _, _, h => by simp [PyData.eqv] at h
  | .str _, .none, _, _, h => by simp [PyData.eqv] at h
  | .str _, .int _, _, _, h => by simp [PyData.eqv] at h
  | .str _, .tuple _, _, _, h => by simp [PyData.eqv] at h
  | .tuple _, .none, _, _, h => by simp [PyData.eqv] at h
  | .tuple _, .int _, _, _, h => by simp [PyData.eqv] at h
  | .tuple _, .str _, _, _, h => by simp [PyData.eqv] at h
  | .bool _, _, f, _, _ => by simp [flat] at f
  | .list _, _, f, _, _ => by simp [flat] at f
  | .dict _, _, f, _, _ => by simp [flat] at f
  | _, .bool _, _, g, _ => by simp [flat] at g
  | _, .list _, _, g, _ => by simp [flat] at g
  | _, .dict _, _, g, _ => by simp [flat] at g
theorem eqvs_eq : ∀ ds es : List PyData, flats ds = true → flats es = true → PyData.eqvAll ds es = true → ds = es
  | [], [], _, _, _ => rfl
  | d :: ds, e :: es, f, g, h => by
    simp only [flats, Bool.and_eq_true] at f g
    simp only [PyData.eqvAll, Bool.and_eq_true] at h
    rw [eqv_eq d e f.1 g.1 h.1, eqvs_eq ds es f.2 g.2 h.2]
  | [], _ :: _, _, _, h => by simp [PyData.eqvAll] at h
  | _ :: _, [], _, _, h => by simp [PyData.eqvAll] at h
end
theorem eqv_ne {d e : PyData} (f : flat d = true) (g : flat e = true) (h : d ≠ e) : PyData.eqv d e = false := by
  cases q : PyData.eqv d e with
  | false => rfl
  | true => exact absurd (eqv_eq d e f g q) h
theorem eqv_dec {d e : PyData} (f : flat d = true) (g : flat e = true) : PyData.eqv d e = @decide (d = e) (Classical.propDecidable _) := by
  by_cases h : d = e
  · subst h
    rw [eqv_self d f]
    exact (@decide_eq_true _ (Classical.propDecidable _) rfl).symm
  · rw [eqv_ne f g h]
    exact (@decide_eq_false _ (Classical.propDecidable _) h).symm
mutual
theorem flat_plain : ∀ d : PyData, flat d = true → d.plain = true
  | .none, _ => by simp [PyData.plain]
  | .bool _, f => by simp [flat] at f
  | .int _, _ => by simp [PyData.plain]
  | .str _, _ => by simp [PyData.plain]
  | .list _, f => by simp [flat] at f
  | .dict _, f => by simp [flat] at f
  | .tuple ds, f => by
    simp only [flat] at f
    simp only [PyData.plain]
    exact flats_plain ds f
theorem flats_plain : ∀ ds : List PyData, flats ds = true → PyData.plainAll ds = true
  | [], _ => by simp [PyData.plainAll]
  | d :: ds, f => by
    simp only [flats, Bool.and_eq_true] at f
    simp only [PyData.plainAll, flat_plain d f.1, flats_plain ds f.2, Bool.and_self]
end
/-- plain, and not too deep to be compared -/
structure Sh (d : PyData) : Prop where
  pl : d.plain = true
  dp : d.depth ≤ 60
theorem sh_flat {d : PyData} (f : flat d = true) (h : d.depth ≤ 60) : Sh d := ⟨flat_plain d f, h⟩
theorem sh_list {ds : List PyData} (f : flats ds = true) (h : PyData.depthAll ds ≤ 59) : Sh (.list ds) :=
  ⟨by simp only [PyData.plain]; exact flats_plain ds f, by simp only [PyData.depth]; omega⟩
theorem sh_tup {ds : List PyData} (f : flats ds = true) (h : PyData.depthAll ds ≤ 59) : Sh (.tuple ds) :=
  ⟨by simp only [PyData.plain]; exact flats_plain ds f, by simp only [PyData.depth]; omega⟩
theorem depthAll_le {n : Nat} : ∀ {ds : List PyData}, (∀ d ∈ ds, d.depth ≤ n) → PyData.depthAll ds ≤ n
  | [], _ => by simp [PyData.depthAll]
  | d :: ds, h => by
    have h1 := h d List.mem_cons_self
    have h2 := depthAll_le (ds := ds) fun e he => h e (List.mem_cons_of_mem _ he)
    simp only [PyData.depthAll]; omega
/-! ### keys -/
section
variable {X : Cx} {pins : List (Addr × Obj)} {σ : St} {s : Shared}
mutual
theorem nestedOf (I : Inv X pins σ H s) : ∀ (k : NestedKey) (v : V) (u : Value), Dp X.K H v k.data → RelV v u → NestedIs s.heap k u
  | .none, _, _, h, r => by
    simp only [NestedKey.data] at h
    cases h; cases r; exact .none
  | .num i, _, _, h, r => by
    simp only [NestedKey.data] at h
    cases h; obtain ⟨t, rfl⟩ := r; exact .int i t
  | .text x, _, _, h, r => by
    simp only [NestedKey.data] at h
    cases h; obtain ⟨t, rfl⟩ := r; exact .text x t
  | .tup ks, _, _, h, r => by
    simp only [NestedKey.data] at h
    cases h with
    | tup hs ha =>
      cases r
      obtain ⟨its, rv, ⟨o, ho, hc, n, hd⟩, _⟩ := I.tuple hs
      exact .tup ho hc hd (by simpa using nestedsOf I ks _ _ ha rv)
theorem nestedsOf (I : Inv X pins σ H s) : ∀ (ks : List NestedKey) (vs : List V) (us : List Value), DpAll X.K H vs (NestedKey.datas ks) → Vals vs us → NestedAll s.heap ks us
  | [], _, _, h, r => by
    simp only [NestedKey.datas] at h
    cases h; cases r; exact .nil
  | k :: ks, _, _, h, r => by
    simp only [NestedKey.datas] at h
    cases h with
    | cons h1 h2 =>
      cases r with
      | cons r1 r2 => exact .cons (nestedOf I k _ _ h1 r1) (nestedsOf I ks _ _ h2 r2)
end
end
/-! ### terms -/
def strC (l : List Nat) : Str := ⟨l.toArray⟩
theorem strC_inj {a b : List Nat} (h : strC a = strC b) : a = b := by
  have : a.toArray = b.toArray := congrArg Str.cps h
  simpa using congrArg Array.toList this
def opS (b : Bool) : Str := strC [opc b]
theorem opS_and : opS true = ("&" : Str) := by decide +kernel
theorem opS_or : opS false = ("|" : Str) := by decide +kernel
theorem opS_ne : ¬ (("&" : Str) = "|") := by decide +kernel
mutual
def tkey : Tm → NestedKey
  | .leaf c => .text (strC [c])
  | .node op ts => .tup (.text (opS op) :: tkeys ts)
def tkeys : List Tm → List NestedKey
  | [] => []
  | t :: ts => tkey t :: tkeys ts
end
def tD (t : Tm) : PyData := (tkey t).data
def tDs (ts : List Tm) : List PyData := ts.map tD
theorem tkeys_map : ∀ ts : List Tm, tkeys ts = ts.map tkey
  | [] => rfl
  | t :: ts => by simp [tkeys, tkeys_map ts]
theorem datas_map : ∀ ks : List NestedKey, NestedKey.datas ks = ks.map NestedKey.data
  | [] => rfl
  | k :: ks => by simp [NestedKey.datas, datas_map ks]
theorem tD_leaf (c : Nat) : tD (.leaf c) = .str (strC [c]) := by simp [tD, tkey, NestedKey.data]
theorem tD_node (op : Bool) (ts : List Tm) : tD (.node op ts) = .tuple (.str (opS op) :: tDs ts) := by
  simp [tD, tkey, NestedKey.data, NestedKey.datas, tkeys_map, datas_map, tDs, Function.comp_def]
mutual
theorem flat_key : ∀ k : NestedKey, flat k.data = true
  | .none => by simp [NestedKey.data, flat]
  | .num _ => by simp [NestedKey.data, flat]
  | .text _ => by simp [NestedKey.data, flat]
  | .tup ks => by simp only [NestedKey.data, flat]; exact flat_keys ks
theorem flat_keys : ∀ ks : List NestedKey, flats (NestedKey.datas ks) = true
  | [] => by simp [NestedKey.datas, flats]
  | k :: ks => by simp only [NestedKey.datas, flats, flat_key k, flat_keys ks, Bool.and_self]
end
theorem flat_tD (t : Tm) : flat (tD t) = true := flat_key _
theorem flats_tDs (ts : List Tm) : flats (tDs ts) = true := flats_map flat_tD ts
mutual
theorem tkey_depth : ∀ t : Tm, (tkey t).depth ≤ t.depth
  | .leaf c => by simp [tkey, NestedKey.depth]
  | .node op ts => by
    have := tkeys_depth ts
    simp only [tkey, NestedKey.depth, NestedKey.depthAll, Tm.depth]; omega
theorem tkeys_depth : ∀ ts : List Tm, NestedKey.depthAll (tkeys ts) ≤ depths ts
  | [] => by simp [tkeys, NestedKey.depthAll]
  | t :: ts => by
    have h1 := tkey_depth t
    have h2 := tkeys_depth ts
    simp only [tkeys, NestedKey.depthAll, depths]; omega
end
mutual
theorem key_depth : ∀ k : NestedKey, k.data.depth = k.depth
  | .none => by simp [NestedKey.data, PyData.depth, NestedKey.depth]
  | .num _ => by simp [NestedKey.data, PyData.depth, NestedKey.depth]
  | .text _ => by simp [NestedKey.data, PyData.depth, NestedKey.depth]
  | .tup ks => by simp only [NestedKey.data, PyData.depth, NestedKey.depth, keys_depth ks]
theorem keys_depth : ∀ ks : List NestedKey, PyData.depthAll (NestedKey.datas ks) = NestedKey.depthAll ks
  | [] => by simp [NestedKey.datas, PyData.depthAll, NestedKey.depthAll]
  | k :: ks => by simp only [NestedKey.datas, PyData.depthAll, NestedKey.depthAll, key_depth k, keys_depth ks]
end
theorem tD_depth (t : Tm) : (tD t).depth ≤ t.depth := by unfold tD; rw [key_depth]; exact tkey_depth t
theorem sh_tD {t : Tm} (h : t.depth ≤ 20) : Sh (tD t) := sh_flat (flat_tD t) (by have := tD_depth t; omega)
mutual
theorem tkey_inj : ∀ t u : Tm, tkey t = tkey u → t = u
  | .leaf a, .leaf b, h => by
    simp only [tkey, NestedKey.text.injEq] at h
    have := strC_inj h
    simp only [List.cons.injEq, and_true] at this
    rw [this]
  | .leaf a, .node _ _, h => by simp [tkey] at h
  | .node _ _, .leaf b, h => by simp [tkey] at h
  | .node o ts, .node p us, h => by
    simp only [tkey, NestedKey.tup.injEq, List.cons.injEq, NestedKey.text.injEq] at h
    have e := strC_inj h.1
    simp only [List.cons.injEq, and_true] at e
    rw [opc_inj e, tkeys_inj ts us h.2]
theorem tkeys_inj : ∀ ts us : List Tm, tkeys ts = tkeys us → ts = us
  | [], [], _ => rfl
  | t :: ts, u :: us, h => by
    simp only [tkeys, List.cons.injEq] at h
    rw [tkey_inj t u h.1, tkeys_inj ts us h.2]
  | [], _ :: _, h => by simp [tkeys] at h
  | _ :: _, [], h => by simp [tkeys] at h
end
mutual
theorem key_inj : ∀ a b : NestedKey, a.data = b.data → a = b
  | .none, b, h => by cases b <;> simp [NestedKey.data] at h ⊢
  | .num i, b, h => by cases b <;> simp [NestedKey.data] at h ⊢; exact h
  | .text x, b, h => by cases b <;> simp [NestedKey.data] at h ⊢; exact h
  | .tup ks, .tup ls, h => by
    simp only [NestedKey.data, PyData.tuple.injEq] at h
    rw [keys_inj ks ls h]
  | .tup ks, .none, h => by simp [NestedKey.data] at h
  | .tup ks, .num _, h => by simp [NestedKey.data] at h
  | .tup ks, .text _, h => by simp [NestedKey.data] at h
theorem keys_inj : ∀ a b : List NestedKey, NestedKey.datas a = NestedKey.datas b → a = b
  | [], [], _ => rfl
  | a :: as, b :: bs, h => by
    simp only [NestedKey.datas, List.cons.injEq] at h
    rw [key_inj a b h.1, keys_inj as bs h.2]
  | [], _ :: _, h => by simp [NestedKey.datas] at h
  | _ :: _, [], h => by simp [NestedKey.datas] at h
end
theorem tD_inj {t u : Tm} (h : tD t = tD u) : t = u := tkey_inj t u (key_inj _ _ h)
theorem tDs_inj {ts us : List Tm} (h : tDs ts = tDs us) : ts = us := by
  unfold tDs at h
  induction ts generalizing us with
  | nil => cases us with
    | nil => rfl
    | cons u us => simp at h
  | cons t ts ih => cases us with
    | nil => simp at h
    | cons u us =>
      simp only [List.map_cons, List.cons.injEq] at h
      rw [tD_inj h.1, ih h.2]
/-- a term stands at v -/
abbrev TmAt (K : PySem.W.Frag) (H : Hp) (v : V) (t : Tm) : Prop := Dp K H v (tD t)
theorem TmAt.ts {v : V} {t : Tm} (h : TmAt K H v t) (q : TS H H') : TmAt K H' v t := Dp.ts q _ _ (flat_tD t) h
theorem TmAt.cases {v : V} {t : Tm} (h : TmAt K H v t) : (∃ c, t = .leaf c ∧ v = .str (strC [c])) ∨ ∃ op ts p vs, t = .node op ts ∧ v = .ref p ∧ SqT K H p (.str (opS op) :: vs) ∧ DpAll K H vs (tDs ts) := by
  cases t with
  | leaf c =>
    unfold TmAt at h
    rw [tD_leaf] at h
    cases h
    exact .inl ⟨c, rfl, rfl⟩
  | node op ts =>
    unfold TmAt at h
    rw [tD_node] at h
    cases h with
    | tup hs ha =>
      cases ha with
      | cons h1 h2 =>
        cases h1
        exact .inr ⟨op, ts, _, _, rfl, rfl, hs, h2⟩
/-- a pair of terms, a rule -/
def prD2 (p : Tm × Tm) : PyData := .tuple [tD p.1, tD p.2]
def rlD (r : Rl) : PyData := .tuple [.str (strC r.1), tD r.2.1, tD r.2.2]
def pkey (p : Tm × Tm) : NestedKey := .tup [tkey p.1, tkey p.2]
theorem pkey_data (p : Tm × Tm) : (pkey p).data = prD2 p := by simp [pkey, prD2, NestedKey.data, NestedKey.datas, tD]
theorem pkey_inj {p q : Tm × Tm} (h : pkey p = pkey q) : p = q := by
  simp only [pkey, NestedKey.tup.injEq, List.cons.injEq, and_true] at h
  exact Prod.ext (tkey_inj _ _ h.1) (tkey_inj _ _ h.2)
theorem flat_prD2 (p : Tm × Tm) : flat (prD2 p) = true := by simp [prD2, flat, flats, flat_tD]
theorem flat_rlD (r : Rl) : flat (rlD r) = true := by simp [rlD, flat, flats, flat_tD]
theorem prD2_inj {p q : Tm × Tm} (h : prD2 p = prD2 q) : p = q := by
  simp only [prD2, PyData.tuple.injEq, List.cons.injEq, and_true] at h
  exact Prod.ext (tD_inj h.1) (tD_inj h.2)
theorem rlD_inj {p q : Rl} (h : rlD p = rlD q) : p = q := by
  simp only [rlD, PyData.tuple.injEq, List.cons.injEq, and_true, PyData.str.injEq] at h
  exact Prod.ext (strC_inj h.1) (Prod.ext (tD_inj h.2.1) (tD_inj h.2.2))
/-! ### comparing such data -/
section
variable {X : Cx}
def rEqP (K : PySem.W.Frag) : R2 := fun x y H Q => ∃ d e, Dp K H x d ∧ Dp K H y e ∧ Sh d ∧ Sh e ∧ Q (.bl (PyData.eqv d e)) H
def rNeP (K : PySem.W.Frag) : R2 := fun x y H Q => ∃ d e, Dp K H x d ∧ Dp K H y e ∧ Sh d ∧ Sh e ∧ Q (.bl (!PyData.eqv d e)) H
def rInP (K : PySem.W.Frag) : R2 := fun x y H Q => ∃ d ds, Dp K H x d ∧ (Dp K H y (.list ds) ∨ Dp K H y (.tuple ds)) ∧ Sh d ∧ PyData.plainAll ds = true ∧ Q (.bl (ds.any fun z => PyData.eqv z d)) H
def rNotInP (K : PySem.W.Frag) : R2 := fun x y H Q => ∃ d ds, Dp K H x d ∧ (Dp K H y (.list ds) ∨ Dp K H y (.tuple ds)) ∧ Sh d ∧ PyData.plainAll ds = true ∧ Q (.bl (!ds.any fun z => PyData.eqv z d)) H
theorem op_eqP (hu : X.A.units + 64 < cLine) : OpR X (compareOp .Eq) (rEqP X.K) := by
  intro pins s σ H x y v u Q I rx ry ⟨d, e, hd, he, sd, se, q⟩
  obtain ⟨as, r1⟩ := Dp.reads I d x v hd rx
  obtain ⟨bs, r2⟩ := Dp.reads I e y u he ry
  exact SeqAt.eq_plain r1 r2 sd.pl se.pl (by have := sd.dp; omega) ⟨.bl _, H, I, rfl, q⟩
theorem op_neP (hu : X.A.units + 64 < cLine) : OpR X (compareOp .NotEq) (rNeP X.K) := by
  intro pins s σ H x y v u Q I rx ry ⟨d, e, hd, he, sd, se, q⟩
  obtain ⟨as, r1⟩ := Dp.reads I d x v hd rx
  obtain ⟨bs, r2⟩ := Dp.reads I e y u he ry
  exact SeqAt.ne_plain r1 r2 sd.pl se.pl (by have := sd.dp; omega) ⟨.bl _, H, I, rfl, q⟩
theorem op_inP (hu : X.A.units + 64 < cLine) : OpR X (compareOp .In) (rInP X.K) := by
  intro pins s σ H x y v u Q I rx ry ⟨d, ds, hd, he, sd, sp, q⟩
  obtain ⟨as, r1⟩ := Dp.reads I d x v hd rx
  have hu' : X.A.units + 1 + min (PyData.depthAll ds) d.depth < cLine := by have := sd.dp; omega
  rcases he with he | he
  · obtain ⟨bs, r2⟩ := Dp.reads I (.list ds) y u he ry
    exact SeqAt.in_list_data r2 r1 sp sd.pl hu' ⟨.bl _, H, I, rfl, q⟩
  · obtain ⟨bs, r2⟩ := Dp.reads I (.tuple ds) y u he ry
    exact SeqAt.in_tuple_data r2 r1 sp sd.pl hu' ⟨.bl _, H, I, rfl, q⟩
theorem op_notInP (hu : X.A.units + 64 < cLine) : OpR X (compareOp .NotIn) (rNotInP X.K) := by
  intro pins s σ H x y v u Q I rx ry ⟨d, ds, hd, he, sd, sp, q⟩
  obtain ⟨as, r1⟩ := Dp.reads I d x v hd rx
  have hu' : X.A.units + 1 + min (PyData.depthAll ds) d.depth < cLine := by have := sd.dp; omega
  rcases he with he | he
  · obtain ⟨bs, r2⟩ := Dp.reads I (.list ds) y u he ry
    exact SeqAt.notIn_list_data r2 r1 sp sd.pl hu' ⟨.bl _, H, I, rfl, q⟩
  · obtain ⟨bs, r2⟩ := Dp.reads I (.tuple ds) y u he ry
    exact SeqAt.notIn_tuple_data r2 r1 sp sd.pl hu' ⟨.bl _, H, I, rfl, q⟩
end
theorem any_eqv {ds : List PyData} {d : PyData} (f : flats ds = true) (g : flat d = true) : (ds.any fun z => PyData.eqv z d) = true ↔ d ∈ ds := by
  rw [List.any_eq_true]
  constructor
  · rintro ⟨x, hx, h⟩
    rw [← eqv_eq x d ((flats_iff ds).mp f x hx) g h]; exact hx
  · intro h; exact ⟨d, h, eqv_self d g⟩
end FW
end T_WN2

section T_WN3
set_option Elab.async false
set_option linter.all false
set_option maxRecDepth 100000
/-! Dicts with nested keys over the layer: read, asked, walked. -/
namespace FW
open PySem L2 FF
abbrev NV := NestedKey × V × V
abbrev NRel (kvs : List NV) (xs : List NK) : Prop := Paired (fun (p : NV) (q : NK) => p.1 = q.1 ∧ RelV p.2.1 q.2.1 ∧ RelV p.2.2 q.2.2) kvs xs
/-- a dict with nested keys: each key, the value that it is, and what it leads to -/
def dN (w : World) (d : Addr) (kvs : List NV) : HO := .ext fun h => (d == sysModules) = false ∧ kvs.length ≤ sizeLine ∧ (kvs.map (·.1)).Nodup ∧ ∃ xs, NRel kvs xs ∧ DictN w h d xs
/-- the keys stand -/
def NAt (K : PySem.W.Frag) (H : Hp) (kvs : List NV) : Prop := ∀ p ∈ kvs, Dp K H p.2.1 p.1.data ∧ KeyOk p.1
def valN (kvs : List NV) (k : NestedKey) : Option V := (kvs.find? fun p => decide (p.1 = k)).map (·.2.2)
theorem NAt.ts {K : PySem.W.Frag} {H H' : Hp} {kvs : List NV} (h : NAt K H kvs) (t : TS H H') : NAt K H' kvs := fun p hp => ⟨Dp.ts t _ _ (flat_key _) (h p hp).1, (h p hp).2⟩
theorem valN_some {kvs : List NV} {k : NestedKey} {v : V} (h : valN kvs k = some v) : ∃ p ∈ kvs, p.1 = k ∧ p.2.2 = v := by
  unfold valN at h
  obtain ⟨p, hp, rfl⟩ := Option.map_eq_some_iff.mp h
  exact ⟨p, List.mem_of_find?_eq_some hp, of_decide_eq_true (List.find?_some (p := fun p : NV => decide (p.1 = k)) hp), rfl⟩
theorem valN_isSome {kvs : List NV} {k : NestedKey} : (valN kvs k).isSome = true ↔ k ∈ kvs.map (·.1) := by
  unfold valN
  rw [Option.isSome_map, List.find?_isSome]
  constructor
  · rintro ⟨p, hp, e⟩
    exact List.mem_map.mpr ⟨p, hp, of_decide_eq_true e⟩
  · intro h
    obtain ⟨p, hp, rfl⟩ := List.mem_map.mp h
    exact ⟨p, hp, decide_eq_true rfl⟩
theorem valN_at {kvs : List NV} (hn : (kvs.map (·.1)).Nodup) {p : NV} (h : p ∈ kvs) : valN kvs p.1 = some p.2.2 := by
  have hs : (valN kvs p.1).isSome = true := valN_isSome.mpr (List.mem_map.mpr ⟨p, h, rfl⟩)
  obtain ⟨v, hv⟩ := Option.isSome_iff_exists.mp hs
  obtain ⟨q, hq, e1, e2⟩ := valN_some hv
  obtain ⟨i, hi⟩ := List.mem_iff_getElem?.mp h
  obtain ⟨j, hj⟩ := List.mem_iff_getElem?.mp hq
  have ei : (kvs.map (·.1))[i]? = some p.1 := by rw [List.getElem?_map, hi]; rfl
  have ej : (kvs.map (·.1))[j]? = some p.1 := by rw [List.getElem?_map, hj]; simp [e1]
  have ij : i = j := (List.getElem?_inj (List.getElem?_eq_some_iff.mp ei).1 hn).mp (ei.trans ej.symm)
  rw [ij, hj] at hi
  have := Option.some.inj hi
  rw [hv, ← e2, this]
theorem NRel.look {kvs : List NV} {xs : List NK} (r : NRel kvs xs) (k : NestedKey) : RelO (valN kvs k) ((lookN xs k).map (·.2)) := by
  unfold NRel at r
  induction r with
  | nil => exact True.intro
  | @cons p q ps qs h t ih =>
    obtain ⟨h1, h2, h3⟩ := h
    unfold valN lookN at ih ⊢
    by_cases e : p.1 = k
    · rw [List.find?_cons_of_pos (by simpa using e), List.find?_cons_of_pos (by simpa [← h1] using e)]
      exact h3
    · rw [List.find?_cons_of_neg (by simpa using e), List.find?_cons_of_neg (by simpa [← h1] using e)]
      exact ih
theorem NRel.keys {kvs : List NV} {xs : List NK} (r : NRel kvs xs) : kvs.map (·.1) = xs.map (·.1) := by
  unfold NRel at r
  induction r with
  | nil => rfl
  | cons h t ih => rw [List.map_cons, List.map_cons, ih, h.1]
theorem rdN {P : Program} {w : World} {H : Hp} {h : Heap} {d : Addr} {kvs : List NV} (ok : HOk P w H h) (e : Rd H d (dN w d kvs)) : (d == sysModules) = false ∧ kvs.length ≤ sizeLine ∧ (kvs.map (·.1)).Nodup ∧ ∃ xs, NRel kvs xs ∧ DictN w h d xs :=
  (show ObjOk P w H h d (dN w d kvs) from e.ok ok).1
section
variable {X : Cx} {pins : List (Addr × Obj)} {σ : St} {H : Hp} {s : Shared}
theorem nkeys (I : Inv X pins σ H s) {kvs : List NV} {xs : List NK} (r : NRel kvs xs) (h : NAt X.K H kvs) : NKeys s.heap xs := by
  unfold NRel at r
  induction r with
  | nil => intro x hx; cases hx
  | @cons p q ps qs hpq t ih =>
    intro x hx
    rcases List.mem_cons.mp hx with rfl | hx
    · obtain ⟨h1, h2⟩ := h p List.mem_cons_self
      rw [← hpq.1]
      exact ⟨nestedOf I _ _ _ h1 hpq.2.1, h2.d8⟩
    · exact ih (fun p hp => h p (List.mem_cons_of_mem _ hp)) x hx
/-- d[k] -/
def rIxN (K : PySem.W.Frag) (w : World) : R2 := fun x y H Q => ∃ d kvs k v, x = .ref d ∧ Rd H d (dN w d kvs) ∧ NAt K H kvs ∧ Dp K H y k.data ∧ KeyOk k ∧ valN kvs k = some v ∧ Q v H
theorem pe_nget {o i : Expr} {td ty : TE} {pos : Pos} (hu : X.A.units + 64 < cLine) (ho : PE X o td) (hi : PE X i ty) (hs : NoSl i := by exact fun _ _ => rfl) : PE X (.Subscript o i pos) (tOp (rIxN X.K X.w) td ty) := by
  refine ⟨fun pins s σ H Q I h => ?_⟩
  refine subD_of PySem.F.slot_dict_getitem.lookup hs (thn (ho.run pins s σ H _ I h) fun u s1 ⟨x, H1, I1, rx, q1⟩ => thn (hi.run pins s1 σ H1 _ I1 q1) fun iv s2 ⟨y, H2, I2, ry, d, kvs, k, v, ex, hd, hk, hy, ok, hv, q2⟩ => ?_)
  subst ex
  obtain rfl : u = Value.ref d := rx
  obtain ⟨_, _, _, xs, rel, dn⟩ := rdN I2.hok hd
  have rl := rel.look k
  rw [hv] at rl
  obtain ⟨v', hv', rv⟩ := RelO.some_of rl
  exact ⟨dn.typeIs, getItemN (by omega) (nestedOf I2 _ _ _ hy ry) ok dn (nkeys I2 rel hk) hv' fun tk => ⟨v, H2, I2.tok _, rv, q2⟩⟩
/-- k in d -/
def rInN (K : PySem.W.Frag) (w : World) : R2 := fun y x H Q => ∃ d kvs k, x = .ref d ∧ Rd H d (dN w d kvs) ∧ NAt K H kvs ∧ Dp K H y k.data ∧ KeyOk k ∧ Q (.bl (valN kvs k).isSome) H
theorem op_inN (hu : X.A.units + 64 < cLine) : OpR X (compareOp .In) (rInN X.K X.w) := by
  intro pins s σ H y x v u Q I ry rx ⟨d, kvs, k, ex, hd, hk, hy, ok, q⟩
  subst ex
  obtain rfl : u = Value.ref d := rx
  obtain ⟨hs, _, _, xs, rel, dn⟩ := rdN I.hok hd
  have rl := (rel.look k).isSome_eq
  rw [Option.isSome_map] at rl
  refine inN (by omega) (nestedOf I _ _ _ hy ry) ok dn (nkeys I rel hk) hs fun tk => ?_
  rw [← rl]
  exact ⟨.bl _, H, I.tok _, rfl, q⟩
/-- len(d) -/
theorem call_lenN : CallR X (.builtin "len") (fun xs H Q => ∃ d kvs, xs = [V.ref d] ∧ Rd H d (dN X.w d kvs) ∧ Q (.int kvs.length) H) := by
  intro pins s σ H xs us Q I r ⟨d, kvs, ex, hd, q⟩
  subst ex
  obtain ⟨u, rfl, ru⟩ := vals1 r
  cases ru
  obtain ⟨hs, hl, _, xs, rel, dn⟩ := rdN I.hok hd
  have hT : s.TypeIs (.ref d) "dict" := dn.typeIs
  obtain ⟨o, es, ep, ho, hx, hdt, he, _⟩ := dn
  have hsz : es.size = kvs.length := by rw [entN_size he]; exact (Paired.length rel).symm
  have e16 := sizeLine_eq
  refine PyProof.Rows.call_len_slot (n := (kvs.length : Int)) hT PySem.F.slot_dict_len (fun Q' hq => ?_) (by omega) (by omega) ⟨.int kvs.length, H, I.tok _, ⟨_, rfl⟩, q⟩
  refine call_len_raw hs ⟨o, ho, hx, hdt⟩ ?_
  rw [hsz]
  exact hq
/-- the keys of the locked dict, in their order -/
def ItN (w : World) (d : Addr) (o : Obj) (kvs : List NV) : It :=
  ⟨fun i H => H d = some (.frz o (dN w d kvs)) ∧ i < kvs.length, fun i H x H' => H' = H ∧ ∃ k v, kvs[i]? = some (k, x, v), fun i H => H d = some (.frz o (dN w d kvs)) ∧ kvs.length ≤ i⟩
theorem frzN {d : Addr} {o : Obj} {kvs : List NV} (I : Inv X pins σ H s) (h : H d = some (.frz o (dN X.w d kvs))) :
    (d == sysModules) = false ∧ s.heap.get? d = some o ∧ o.ExactDict ∧ ∃ (es : Array DictEntry) (ep : Nat), o.data = .dict es ep ∧ es.size = kvs.length ∧
      ∀ (i : Nat) (p : NV), kvs[i]? = some p → ∃ en : DictEntry, es[i]? = some en ∧ RelV p.2.1 en.key := by
  obtain ⟨hd, q⟩ := (show ObjOk X.prog X.w H s.heap d (.frz o (dN X.w d kvs)) from I.hok d _ h)
  obtain ⟨hs, _, _, xs, rel, o', es, ep, ho, hx, hdt, he, _⟩ := q.1
  rw [hd] at ho
  cases ho
  refine ⟨hs, hd, hx, es, ep, hdt, by rw [entN_size he]; exact (Paired.length rel).symm, fun i p e => ?_⟩
  obtain ⟨y, hy, e1, e2, _⟩ := paired_get rel e
  exact ⟨entN X.w y, by rw [entN_at he i, hy]; rfl, e2⟩
theorem turnN {P : Program} {w : World} {K : PySem.W.Frag} {tg : Expr} {d : Addr} {o : Obj} {es : Array DictEntry} {ep : Nat} {kvs : List NV} (it : Addr) (hod : o.data = .dict es ep) :
    Turn P w K tg (ItN w d o kvs) [it] it (fun i h => h.IsKeyIter it d i kvs.length ep) := by
  have one : ∀ b, b ∈ [it] → b = it := fun b h => by simpa using h
  refine ⟨List.mem_cons_self, fun i h st b hb => ?_, fun i h h' st k => st.at fun oi e => k it List.mem_cons_self oi e, ?_, ?_, ?_⟩
  · rw [one b hb]
    obtain ⟨oi, e, _, dd⟩ := st
    exact ⟨oi, e, fun v z => by rw [dd] at z; cases z⟩
  · intro X hP hw hK hc i pins s σ H E I hf st ⟨hd, hi⟩
    subst hP hw hK
    obtain ⟨f0, f1, f2, f3, f4, f5⟩ := hf it List.mem_cons_self
    obtain ⟨_, hgd, _, es', ep', hdt, hsz, ent⟩ := frzN I hd
    obtain ⟨rfl, rfl⟩ := dict_ep hod hdt
    obtain ⟨en, hen, hr⟩ := ent i kvs[i] (List.getElem?_eq_getElem hi)
    refine next_key_item st hgd hdt hsz hen fun h' st' sb => ?_
    have I1 : Inv X pins σ H { s with heap := h' } := I.turned (t' := s.toks) (fun b ob hb e => (sb.2 b hb).trans e) f0 f1 f3 f4 f5
    obtain ⟨oi, e, c, dd⟩ := id st'
    refine ⟨en.key, rfl, go_of (s := { s with heap := h' }) e c dd (by decide) ?_⟩
    exact ⟨kvs[i].2.1, H, I1, hr, ⟨rfl, kvs[i].1, kvs[i].2.2, List.getElem?_eq_getElem hi⟩, st', fun b hb => (hf b hb).1⟩
  · intro X hP hw hK hc i pins s σ H E I hf st ⟨hd, hi⟩
    subst hP hw hK
    obtain ⟨f0, f1, f2, f3, f4, f5⟩ := hf it List.mem_cons_self
    obtain ⟨_, hgd, _, es', ep', hdt, hsz, _⟩ := frzN I hd
    obtain ⟨rfl, rfl⟩ := dict_ep hod hdt
    exact next_key_end (I.ok.hd hc) st hgd hdt hsz hi fun h' eb => ⟨rfl, I.turned (t' := s.toks) (fun b ob hb e => eb b ob hb e) f0 f1 f3 f4 f5⟩
  · intro A i s Q E st h
    exact wpAny_pyIter_keyiter st h
def iN (w : World) (td : TE) : TI := fun σ H R => td σ H fun x H1 => ∃ d o kvs, x = .ref d ∧ H1 d = some (.frz o (dN w d kvs)) ∧ R (ItN w d o kvs) H1
theorem pi_N {tg e : Expr} {td : TE} (he : PE X e td) : PI X tg e (iN X.w td) := by
  refine ⟨fun pins s σ H R I h => ?_⟩
  refine thn (he.run pins s σ H _ I h) fun u s1 ⟨x, H1, I1, rx, d, o, kvs, ex, hd, q⟩ => ?_
  subst ex
  obtain rfl : u = Value.ref d := rx
  obtain ⟨hs, hgd, hx, es, ep, hdt, hsz, _⟩ := frzN I1 hd
  refine iter_keys hs hgd hx hdt (pi_one (tk := s1.toks) I1 _ (turnN _ hdt) ⟨_, Heap.get?_push_size _ rfl, rfl, ?_⟩ q)
  rw [hsz] <;> rfl
end
end FW
end T_WN3

section T_WN4
set_option Elab.async false
set_option linter.all false
set_option maxRecDepth 100000
/-! Targets: several names from a list; a name and a starred name from a tuple. -/
namespace FW
open PySem L2 FF PyProof.Rows
section
variable {prog : Program} {w : World} {A : Around} {E : Value → Shared → Prop} {I : Addr} {fp wr : List Addr} {n : Nat} {P : Nat → Value → Prop} {St : Nat → Heap → Prop}
/-- k items of what is walked -/
theorem drawW (W : Walks prog w A I fp wr n P St) : ∀ (k i : Nat) (s : Shared) (Q : List Value → Shared → Prop), St i s.heap → i + k ≤ n →
    (∀ h' tk (xs : List Value), xs.length = k → (∀ j v, xs[j]? = some v → P (i + j) v) → St (i + k) h' → (∀ b o, b ∉ wr → s.heap.get? b = some o → h'.get? b = some o) → Q xs { s with heap := h', toks := tk }) →
    wpAny (model prog w) A (draw (.ref I) k) Q E s
  | 0, i, s, Q, st, _, hQ => wpAny_pure (hQ s.heap s.toks [] rfl (fun j v h => by simp at h) st fun _ _ _ e => e)
  | k + 1, i, s, Q, st, hk, hQ => by
    show wpAny _ _ (pyNext (.ref I) >>= _) _ _ _
    refine wpAny_bind (W.item i s _ E (by omega) st fun v h1 t1 hv st1 k1 => ?_)
    refine wpAny_bind (wpAny_holding (drawW W k (i + 1) _ _ st1 (by omega) fun h2 t2 xs hl hx st2 k2 => wpAny_pure ?_))
    refine hQ h2 t2 (v :: xs) (by simp [hl]) (fun j u e => ?_) (by rw [show i + (k + 1) = i + 1 + k by omega]; exact st2) fun b o hb e => k2 b o hb (k1 b o hb e)
    cases j with
    | zero =>
      simp only [List.getElem?_cons_zero, Option.some.injEq] at e
      subst e; exact hv
    | succ j =>
      simp only [List.getElem?_cons_succ] at e
      rw [show i + (j + 1) = i + 1 + j by omega]
      exact hx j u e
/-- the walk from its second item on -/
theorem walksTail {G : Array GenState → Array GenState → Prop} {St : Nat → Shared → Prop} (W : WalksS prog w A I fp wr G (n + 1) P St) : WalksS prog w A I fp wr G n (fun i => P (i + 1)) (fun i => St (i + 1)) where
  sub := W.sub
  grefl := W.grefl
  gtrans := W.gtrans
  frame := fun i => W.frame (i + 1)
  item := fun i s Q E hi st hQ => W.item (i + 1) s Q E (by omega) st hQ
  done := W.done
  self := fun i => W.self (i + 1)
end
theorem list_of_at {xs ys : List Value} (hl : xs.length = ys.length) (h : ∀ (j : Nat) (v : Value), xs[j]? = some v → ys[j]? = some v) : xs = ys := by
  refine List.ext_getElem? fun j => ?_
  cases e : xs[j]? with
  | some v => exact (h j v e).symm
  | none =>
    have := List.getElem?_eq_none_iff.mp e
    exact (List.getElem?_eq_none (by omega)).symm
section
variable {X : Cx} {pos : Pos}
/-- (a, b, ..) = a list of that length -/
def gLst (K : PySem.W.Frag) (n : Nat) (t : TGs) : TG := fun v σ H Q => ∃ a xs, v = .ref a ∧ SqL K H a xs ∧ xs.length = n ∧ t xs σ H Q
theorem pg_lst {es : List Expr} {k : Nat} {t : TGs} {n : Nat} (hc : X.calm = true) (h : PGs X es t)
    (hn : (assignEach es X.env).length = n := by rfl) (hst : (assignEach es X.env).findIdx? (·.1) = none := by rfl) : PG X (.Tuple es k pos) (gLst X.K n t) := by
  refine ⟨fun pins s σ H v u Q I r ⟨a, xs, e1, hq, hl, hw⟩ => ?_⟩
  subst e1
  cases r
  obtain ⟨its, rv, pl, hz⟩ := I.list hq
  have hL : s.heap.IsList a its.toArray := pl.isList
  have hlen := rv.length
  rw [assign_Tuple]
  refine wpAny_bind (wpAny_standAt ?_)
  unfold unpack
  rw [hn, hst]
  refine wpAny_bind (wpAny_holding ?_)
  have ha : a < s.heap.objs.size := by obtain ⟨o, e, _⟩ := hL; exact Heap.lt_size e
  have ne : a ≠ s.heap.objs.size := Nat.ne_of_lt ha
  have Wk := Walks.list (prog := X.prog) (w := X.w) (A := X.A) (I.ok.hd hc) s.heap.objs.size a ne its.toArray
  unfold unpackItems
  refine wpAny_bind ?_
  unfold notIterableAtAll
  refine wpAny_bind (wpAny_specialOf hL.typeIs slot_list_iter.lookup (wpAny_pure ?_))
  rw [if_neg (by decide)]
  refine wpAny_bind (wpAny_holding (wpAny_pyIter_list hL ?_))
  have h0 : (s.heap.push { cls := .type "list_iterator", data := .fields #[.ref a, .int 0 0] }).IsListIter s.heap.objs.size a 0 := ⟨_, Heap.get?_push_size _ rfl, rfl, rfl⟩
  refine wpAny_bind (wpAny_holding (drawW Wk n 0 _ _ ⟨h0, hL.push _⟩ (by simp; omega) fun h1 t1 ys hyl hy st1 k1 => ?_))
  have eys : ys = its := list_of_at (by omega) fun j v e => by
    have := hy j v e
    simpa using this
  subst eys
  rw [if_neg (by omega)]
  refine wpAny_bind (wpAny_holding (Wk.done _ _ _ (by rw [show ys.toArray.size = 0 + n by simp; omega]; exact st1) fun h2 t2 k2 => ?_))
  rw [if_neg (by decide)]
  refine wpAny_pure ?_
  have I1 : Inv X pins σ H { s with heap := h2, toks := t2 } := I.kept fun b o e => by
    have hb : b ∉ [s.heap.objs.size] := by
      intro z
      have : b = s.heap.objs.size := by simpa using z
      have hlt := Heap.lt_size e
      rw [this] at hlt
      exact Nat.lt_irrefl _ hlt
    exact k2 b o hb (k1 b o hb (Heap.get?_push_of_some _ e))
  exact h.run pins _ σ H xs ys Q I1 rv hw
/-- a, *b = a tuple: b is a new list of what is behind the first -/
def gStar (K : PySem.W.Frag) (ga gb : TG) : TG := fun v σ H Q => ∃ p x xs, v = .ref p ∧ SqT K H p (x :: xs) ∧ ∀ q, H q = none → ga x σ (upd H q (.lst xs)) fun σ' H' => gb (.ref q) σ' H' Q
theorem pg_star {a b : Expr} {k : Nat} {ga gb : TG} {pb : Pos} (hc : X.calm = true) (ha : PG X a ga) (hb : PG X b gb)
    (hn : assignEach [a, .Starred b pb] X.env = [(false, assign a X.env), (true, assign b X.env)] := by rfl) : PG X (.Tuple [a, .Starred b pb] k pos) (gStar X.K ga gb) := by
  refine ⟨fun pins s σ H v u Q I r ⟨p, x, xs, e1, hq, hw⟩ => ?_⟩
  subst e1
  cases r
  obtain ⟨its, rv, ht, hz⟩ := I.tuple hq
  have hlen := rv.length
  simp only [List.length_cons] at hlen
  have hh := I.ok.hd hc
  rw [assign_Tuple]
  refine wpAny_bind (wpAny_standAt ?_)
  unfold unpack
  rw [hn]
  refine wpAny_bind (wpAny_holding ?_)
  have hp : p < s.heap.objs.size := ht.lt
  have ne : p ≠ s.heap.objs.size := Nat.ne_of_lt hp
  have Wk := Walks.tuple (prog := X.prog) (w := X.w) (A := X.A) hh s.heap.objs.size p ne its.toArray
  have Wk1 := Walks.tuple (prog := X.prog) (w := X.w) (A := X.A.in1) hh s.heap.objs.size p ne its.toArray
  unfold unpackItems
  refine wpAny_bind ?_
  unfold notIterableAtAll
  refine wpAny_bind (wpAny_specialOf ht.typeIs slot_tuple_iter.lookup (wpAny_pure ?_))
  rw [if_neg (by decide)]
  refine wpAny_bind (wpAny_holding (iter_tuple ht ?_))
  show wpAny _ _ (holding _ (draw (.ref s.heap.objs.size) 1) >>= _) _ _ _
  have h0 : (s.heap.push { cls := .type "tuple_iterator", data := .fields #[.ref p, .int 0 0] }).IsTupleIter s.heap.objs.size p 0 := ⟨_, Heap.get?_push_size _ rfl, rfl, rfl⟩
  refine wpAny_bind (wpAny_holding (drawW Wk 1 0 _ _ ⟨h0, ht.push _⟩ (by simp; omega) fun h1 t1 ys hyl hy st1 k1 => ?_))
  rw [if_neg (by omega)]
  have esz : its.toArray.size = xs.length + 1 := by simp; omega
  have WS := Wk1.toS
  rw [esz] at WS
  refine wpAny_bind (wpAny_holding (wpAny_collect_iter (T := "tuple_iterator") (n := xs.length) (.inr (.inr (.inr rfl))) (walksTail WS) (fun i s' st => st.1.typeIs) st1 (fun b hb => ?_) (by simp) (fun s2 acc mv hacc => ?_) (by simp only [List.length_cons] at hz; omega)))
  · have hI : s.heap.objs.size < h1.objs.size := by
      obtain ⟨o, e, _⟩ := st1.1
      exact Heap.lt_size e
    have hP : p < h1.objs.size := by
      obtain ⟨o, e, _⟩ := st1.2
      exact Heap.lt_size e
    rcases List.mem_cons.mp hb with rfl | hb
    · exact hI
    · have : b = p := by simpa using hb
      rw [this]; exact hP
  -- the items
  obtain ⟨v0, eys⟩ : ∃ v0, ys = [v0] := by
    match ys, hyl with
    | [v0], _ => exact ⟨v0, rfl⟩
  subst eys
  cases rv with
  | @cons _ u0 _ us r0 rs =>
    have e0 : v0 = u0 := by
      have := hy 0 v0 rfl
      simpa using this.symm
    subst e0
    have eacc : acc.toList = us := list_of_at (by rw [Array.length_toList, hacc.1]; exact rs.length) fun j v e => by
      have := hacc.2 j v (by rw [← Array.getElem?_toList]; exact e)
      simpa using this
    have k2 : ∀ b o, s.heap.get? b = some o → s2.heap.get? b = some o := fun b o e => by
      have hb : b ∉ [s.heap.objs.size] := by
        intro z
        have : b = s.heap.objs.size := by simpa using z
        have hlt := Heap.lt_size e
        rw [this] at hlt
        exact Nat.lt_irrefl _ hlt
      exact mv.heap b o hb (k1 b o hb (Heap.get?_push_of_some _ e))
    obtain ⟨hp2, g2, d2, tk2, os2⟩ := s2
    have hos : os2 = s.os := mv.os
    have hg : g2 = s.gens := mv.gens
    have hd : d2 = s.drawn := mv.drawn
    subst hos hg hd
    rw [eacc]
    show wpAny _ _ (if us.length < 0 then _ else _) _ _ _
    rw [if_neg (by omega)]
    have I1 : Inv X pins σ H { s with heap := hp2, toks := tk2 } := I.kept k2
    refine wpAny_bind (wpAny_newObj_type ?_ (by
      have h1 := rs.length
      have h2 : xs.length + 1 ≤ sizeLine := hz
      show (us.take (us.length - 0)).toArray.size ≤ sizeLine
      simp only [Nat.sub_zero, List.take_length, List.size_toArray]
      omega))
    have nq : H hp2.objs.size = none := I1.hok.fresh (Nat.le_refl _)
    have I2 : Inv X pins σ (upd H hp2.objs.size (.lst xs)) { s with heap := hp2.push { cls := .type "list", data := .seq (us.take (us.length - 0)).toArray }, toks := tk2 } :=
      I1.laid (fun b o e => Heap.get?_push_of_some _ e) (Nat.le_refl _) ⟨by simp only [List.length_cons] at hz; omega, us, 0, rs, by
        rw [Heap.get?_push_size _ rfl]; simp⟩
    refine wpAny_pure ?_
    have edrop : us.drop (us.length - 0) = [] := by simp
    show wpAny _ _ (assignInOrder [assign a X.env, assign b X.env] ([v0] ++ [Value.ref hp2.objs.size] ++ us.drop (us.length - 0))) _ _ _
    rw [edrop]
    refine assignInOrder_cons (thn (ha.run pins _ σ _ x v0 _ I2 r0 (hw _ nq)) fun _ s3 ⟨σ3, H3, I3, q3⟩ => ?_)
    refine assignInOrder_cons (thn (hb.run pins s3 σ3 H3 (.ref hp2.objs.size) _ _ I3 rfl q3) fun _ s4 q4 => ?_)
    exact assignInOrder_nil q4
end
end FW
end T_WN4

section T_WN5
set_option Elab.async false
set_option linter.all false
set_option maxRecDepth 100000
/-! Calls by keywords alone; list(text); {pair: x}; dict(list of pairs) with nested keys. -/
namespace FW
open PySem L2 FF PyProof.Rows
section
variable {X : Cx} {CX : CXT} {k : Nat} {f : Addr} {fd : FuncData} {ps ks : List Str} {sp : Sp} {E : XK} {x : Str} {p pos : Pos} {kws : List Keyword} {tk : TA} {g : List Value → List Value → List Value} {gV : List V → List V → List V}
/-- f(k = v, ..) -/
theorem pe_callK0 (F : FnOk X.prog X.w X.K X.mg X.base CX k f fd ps sp) (hr : Room k X.A) (hg : Gl X x) (hm : X.mg x = some (.ref f)) (hk : PySem.W.keepIn X.K (.ref f) = true) (hb : KBinds X.K fd ps ks g gV) (hx : Passes CX X E) (hkw : PK X kws tk)
    (hall : (backToKw pos (keywordEach kws X.env)).all (·.1.isSome) = true := by rfl) (hks : (backToKw pos (keywordEach kws X.env)).filterMap (·.1) = ks := by rfl) (hdb : (x == ("__debug__" : Str)) = false := by decide)
    (hpl : ((backTo pos (starEach [] X.env)).any (·.1) || (backToKw pos (keywordEach kws X.env)).any (·.1.isNone)) = false := by rfl) :
    PE X (.Call (.Name x p) [] kws pos) (tCallK sp gV E tNil tk) := by
  refine ⟨fun pins s σ H Q I h => wpAny_Call_Name_kw (ld_glob I hg hm (PySem.W.callWith_KW0 (h₀ := X.base) I.ok.mod.kin hk hall ?_ hpl) hdb)⟩
  refine thn (hkw.run pos pins s σ H _ I h) fun ws s2 ⟨zs, H2, I2, rz, q2⟩ => ⟨I2.kIn, ?_⟩
  rw [hks]
  exact run_fnk (us := []) (vs := []) F hr hb hx I2 .nil rz q2
/-- list(text) -/
theorem call_list_txt (hc : X.calm = true) : CallR X (.type "list") (fun xs H Q => ∃ z : Str, xs = [V.str z] ∧ z.length ≤ sizeLine ∧ ∀ l, H l = none → Q (.ref l) (upd H l (.lst (z.cps.toList.map fun c => V.str ⟨#[c]⟩)))) := by
  intro pins s σ H xs us Q I r ⟨z, ex, hz, q⟩
  subst ex
  obtain ⟨u, rfl, ru⟩ := vals1 r
  obtain ⟨t, rfl⟩ := ru
  refine PySem.call_list_str (hn := hz) (I.ok.hd hc) z t fun h' tk acc' c' kp hS hacc => ?_
  have hr : Vals (z.cps.toList.map fun c => V.str ⟨#[c]⟩) acc'.toList := by
    have e1 : acc'.toList.length = z.cps.toList.length := by rw [Array.length_toList, hacc.1, Array.length_toList]
    have all : ∀ (cs : List Nat) (vs : List Value), vs.length = cs.length → (∀ (j : Nat) (v : Value) (c : Nat), vs[j]? = some v → cs[j]? = some c → ∃ t, v = .str ⟨#[c]⟩ t) → Vals (cs.map fun c => V.str ⟨#[c]⟩) vs := by
      intro cs
      induction cs with
      | nil => intro vs hl _; cases vs with
        | nil => exact .nil
        | cons _ _ => simp at hl
      | cons c cs ih => intro vs hl h; cases vs with
        | nil => simp at hl
        | cons v vs => exact .cons (h 0 v c rfl rfl) (ih vs (by simpa using hl) fun j u d e1 e2 => h (j + 1) u d (by simpa using e1) (by simpa using e2))
    refine all _ _ e1 fun j v c h1 h2 => ?_
    have := hacc.2 j v (by rw [← Array.getElem?_toList]; exact h1)
    obtain ⟨c', t', h3, h4⟩ := this
    rw [← Array.getElem?_toList, h2] at h3
    cases h3
    exact ⟨t', h4⟩
  have hl : (z.cps.toList.map fun c => V.str ⟨#[c]⟩).length ≤ sizeLine := by rw [List.length_map, Array.length_toList]; exact hz
  have nl : H s.heap.objs.size = none := I.hok.fresh (Nat.le_refl _)
  refine ⟨.ref s.heap.objs.size, _, I.laid (t' := tk) kp (Nat.le_refl _) (o := .lst _) ⟨hl, acc'.toList, c', hr, ?_⟩, rfl, q _ nl⟩
  rw [hS]
/-- {a: b}, a a tuple of ints and texts -/
def tDispT (ta tb : TE) : TE := fun σ H Q => ∀ p, H p = none → ta σ (upd H p (.dT [])) fun x H1 => tb σ H1 fun y H2 => H2 p = some (.dT []) ∧ ∃ (k : List Key) (q : Addr), x = .ref q ∧ H2 q = some (.tup (k.map kV)) ∧ Q (.ref p) (upd H2 p (.dT [(k, y)]))
theorem pe_dispT {a b : Expr} {ta tb : TE} (hu : X.A.units + 1 < cLine) (ha : PE X a ta) (hb : PE X b tb) : PE X (.Dict [some a] [b] pos) (tDispT ta tb) := by
  refine ⟨fun pins s σ H Q I h => ?_⟩
  have np : H s.heap.objs.size = none := I.hok.fresh (Nat.le_refl _)
  have nm : (s.heap.objs.size == sysModules) = false := beq_eq_false_iff_ne.mpr (Nat.ne_of_gt I.big)
  have hne : Heap.DictOfH (tupleKind (mixKind X.prog X.w)) (s.heap.push { cls := .type "dict", data := .dict #[] }) s.heap.objs.size [] := Heap.DictOfH.new s.heap
  have I0 : Inv X pins σ (upd H s.heap.objs.size (.dT [])) { s with heap := s.heap.push { cls := .type "dict", data := .dict #[] } } := by
    refine I.laid (t' := s.toks) (fun b o e => Heap.get?_push_of_some _ e) (Nat.le_refl _) ⟨Nat.zero_le _, nm, [], .nil, ?_⟩
    obtain ⟨o, es, ep, h1, h2, h3, h4, _, h6⟩ := hne
    exact ⟨o, es, ep, h1, h2, h3, h4, h6⟩
  rw [arm_eval_Dict, show (evalEachOpt [some a] X.env).zip ((evalEach [b] X.env).map fun v => do let x ← v; standAt pos; pure x) = ([(eval a X.env, (do let x ← eval b X.env; standAt pos; pure x))] : List (Sem Value × Sem Value)).map fun p => (some p.1, p.2) from rfl,
    dictDisplay_pairs _ (by simp) (by simp)]
  refine wpAny_bind (wpAny_standAt (wpAny_bind (wpAny_subDictH (knd := tupleKind (mixKind X.prog X.w)) (Q := fun d s' => wpAny (model X.prog X.w) X.A (pure (Value.ref d)) (EP X pins σ Q) X.xe s') (show X.A.units < cLine by omega) (by simp) ?_)))
  refine evalPairs_cons ?_
  refine thn (ha.run pins _ σ _ _ I0 (h _ np)) fun kv s1 ⟨x, H1, I1, rx, q1⟩ => ?_
  refine wpAny_bind (thn (hb.run pins s1 σ H1 _ I1 q1) fun vv s2 ⟨y, H2, I2, ry, hp, k, q, ex, hq, q2⟩ => wpAny_bind (wpAny_standAt (wpAny_pure (evalPairs_nil ?_))))
  subst ex
  obtain rfl : kv = Value.ref q := rx
  obtain ⟨_, _, xs, rel, dd⟩ := dt_of I2.hok hp
  have exs : xs = [] := by cases rel; rfl
  subst exs
  refine ⟨[(k, q, vv)], ⟨rfl, rfl, key_of I2.hok hq, trivial⟩, dd, fun h' tk hd' sb => wpAny_pure ⟨.ref s.heap.objs.size, _, ?_, rfl, q2⟩⟩
  have nqp : q ≠ s.heap.objs.size := ne_of hq hp (by intro z; cases z)
  obtain ⟨o, es, ep, h1, h2, h3, h4, _, h6⟩ := hd'
  refine d_write (t' := tk) I2 (by rw [hp]; exact True.intro) sb ⟨o, h1⟩ ⟨by rw [sizeLine_eq]; simp, nm, [(k, q, vv)], .cons ⟨rfl, by rw [upd_ne nqp]; exact hq, ry⟩ .nil, o, es, ep, h1, h2, h3, h4, ?_⟩
  exact h6
/-- dict(list of pairs), the keys nested tuples, all different -/
theorem call_dictN (hc : X.calm = true) (hu : X.A.units + 64 < cLine) : CallR X (.type "dict") (fun xs H Q => ∃ (a : Addr) (ts : List Addr) (kvs : List NV), xs = [V.ref a] ∧ SqL X.K H a (ts.map V.ref) ∧
    Paired (fun t (kv : NV) => SqT X.K H t [kv.2.1, kv.2.2] ∧ ∃ b, kv.2.1 = V.ref b) ts kvs ∧ NAt X.K H kvs ∧ (kvs.map (·.1)).Nodup ∧ ∀ p, H p = none → Q (.ref p) (upd H p (dN X.w p kvs))) := by
  intro pins s σ H xs us Q I r ⟨a, ts, kvs, ex, hq, hp, hk, hn, q⟩
  subst ex
  obtain ⟨u, rfl, ru⟩ := vals1 r
  cases ru
  obtain ⟨its, rv, pl, hz⟩ := I.list hq
  have ei := refs_at rv
  subst ei
  rw [List.length_map] at hz
  -- the pairs as they stand
  have get : ∀ {ts : List Addr} {kvs : List NV}, Paired (fun t (kv : NV) => SqT X.K H t [kv.2.1, kv.2.2] ∧ ∃ b, kv.2.1 = V.ref b) ts kvs → ∃ prs : List (NestedKey × Addr × Value), prs.length = ts.length ∧ NRel kvs (prs.map fun x => (x.1, Value.ref x.2.1, x.2.2)) ∧
      ∀ (j : Nat) (y : NestedKey × Addr × Value), prs[j]? = some y → ∃ t, ts[j]? = some t ∧ s.heap.IsTuple t #[Value.ref y.2.1, y.2.2] := by
    intro ts kvs h
    induction h with
    | nil => exact ⟨[], rfl, .nil, fun j y e => by simp at e⟩
    | @cons t kv ts kvs h t' ih =>
      obtain ⟨prs, h1, h2, h3⟩ := ih
      obtain ⟨⟨ht, b, hb⟩⟩ := (⟨h⟩ : Nonempty _)
      obtain ⟨its, rv, it, _⟩ := I.tuple ht
      obtain ⟨u, y, e, r1, r2⟩ := vals2 rv
      subst e
      have eu : u = Value.ref b := by rw [hb] at r1; exact r1
      subst eu
      refine ⟨(kv.1, b, y) :: prs, by simp [h1], .cons ⟨rfl, r1, r2⟩ h2, fun j z e => ?_⟩
      cases j with
      | zero =>
        have e' : (kv.1, b, y) = z := Option.some.inj e
        subst e'
        obtain ⟨o, ho, hc, n, hd⟩ := it
        exact ⟨t, rfl, o, ho, hc, n, by simpa using hd⟩
      | succ j => exact h3 j z (by simpa using e)
  obtain ⟨prs, hl, rel, hpr⟩ := get hp
  have hks := nkeys I rel hk
  have ekeys : prs.map (·.1) = kvs.map (·.1) := by rw [rel.keys, List.map_map]; rfl
  have his : ∀ x ∈ prs, (nestedKind X.prog X.w).is s.heap x.1 x.2.1 := fun x hx => hks (x.1, Value.ref x.2.1, x.2.2) (List.mem_map.mpr ⟨x, hx, rfl⟩)
  have estore : ∀ (ps acc : List (NestedKey × Addr × Value)), ((acc ++ ps).map (·.1)).Nodup → storedAllH acc ps = acc ++ ps := by
    intro ps
    induction ps with
    | nil => intro acc _; simp [storedAllH]
    | cons x ps ih =>
      intro acc hnd
      have hx : atKey acc x.1 = none := by
        refine atKey_none_of_get fun j p e => ?_
        rw [List.map_append, List.nodup_append] at hnd
        exact hnd.2.2 x.1 (List.mem_map.mpr ⟨_, List.mem_of_getElem? e, rfl⟩) x.1 (by simp) rfl
      show storedAllH (storedH acc x.1 x.2.1 x.2.2) ps = _
      rw [storedH_new hx, ih _ (by simpa using hnd)]
      simp
  refine call_dict_pairsH (knd := nestedKind X.prog X.w) (ps := prs) (PairArg.list a (ts.map Value.ref).toArray (fun j => ts.getD j 0) (prs.map fun x => (Value.ref x.2.1, x.2.2))) (I.ok.hd hc) (by show X.A.units + 1 + 1 + 8 < cLine; omega) ⟨?_, by simp [hl], fun j key v e => ?_⟩
    ⟨by simp, fun i key v e => ?_⟩ (fun h' hkp x hx => ?_) (by simp [hl]; omega) fun h' tk hd' kp => ?_
  · obtain ⟨o, n, ho, h1, h2, h3⟩ := pl
    exact ⟨o, n, ho, h1, h2, h3⟩
  · rw [List.getElem?_map] at e
    obtain ⟨y, hy, ey⟩ := Option.map_eq_some_iff.mp e
    obtain ⟨t, ht, it⟩ := hpr j y hy
    simp only [Prod.mk.injEq] at ey
    obtain ⟨rfl, rfl⟩ := ey
    refine ⟨by simp [ht], ?_⟩
    have et : ts.getD j 0 = t := by rw [List.getD_eq_getElem?_getD, ht]; rfl
    show PairAt s.heap (ts.getD j 0) _ _
    rw [et]
    exact .inl it
  · have e' : (prs.map fun x => (Value.ref x.2.1, x.2.2))[i]? = some (key, v) := e
    rw [List.getElem?_map] at e'
    obtain ⟨y, hy, ey⟩ := Option.map_eq_some_iff.mp e'
    simp only [Prod.mk.injEq] at ey
    obtain ⟨rfl, rfl⟩ := ey
    exact ⟨y.1, y.2.1, hy, rfl⟩
  · exact nestedKind_stays.stays (fun b o vs n ho _ => hkp b o (Nat.ne_of_lt (Heap.lt_size ho)) (fun z => nomatch z) ho) (his x hx)
  · have np : H s.heap.objs.size = none := I.hok.fresh (Nat.le_refl _)
    have nm : (s.heap.objs.size == sysModules) = false := beq_eq_false_iff_ne.mpr (Nat.ne_of_gt I.big)
    rw [estore prs [] (by simpa [ekeys] using hn), List.nil_append] at hd'
    obtain ⟨o, es, ep, h1, h2, h3, h4, _, h6⟩ := hd'
    have hkl : kvs.length ≤ sizeLine := by rw [Paired.length rel, List.length_map, hl]; exact hz
    refine ⟨.ref s.heap.objs.size, upd H s.heap.objs.size (dN X.w s.heap.objs.size kvs), I.laid (t' := tk) (fun b o e => kp b o (fun z => nomatch z) e) (Nat.le_refl _) ?_, rfl, q _ np⟩
    refine ⟨⟨nm, hkl, hn, _, rel, o, es, ep, h1, h2, h3, ?_, ?_⟩, ⟨o, h1⟩, fun g1 g2 hg hs => ?_⟩
    · rw [h4, List.map_map]; rfl
    · rw [List.map_map]; exact h6
    · obtain ⟨a1, a2, a3, xs, a4, o', es', ep', b1, b2⟩ := hg
      exact ⟨a1, a2, a3, xs, a4, o', es', ep', hs _ b1, b2⟩
end
end FW
end T_WN5

section T_WN6
set_option Elab.async false
set_option linter.all false
set_option maxRecDepth 100000
/-! Dict comprehensions, whatever the store is, of one clause and of two. -/
namespace FW
open PySem L2 FF PyProof.Rows
/-- the slots that a know are known to b -/
def Wk (a b : L2.St) : Prop := a.length = b.length ∧ ∀ (j : Nat) (v : V), a[j]? = some (some v) → b[j]? = some (some v)
theorem Wk.refl (a : L2.St) : Wk a a := ⟨rfl, fun _ _ h => h⟩
theorem Wk.trans {a b c : L2.St} (h : Wk a b) (k : Wk b c) : Wk a c := ⟨h.1.trans k.1, fun j v e => k.2 j v (h.2 j v e)⟩
theorem Wk.wipe (σ : L2.St) (vs : List Nat) : Wk (wipe σ vs) σ := ⟨wipe_length σ vs, fun _ _ e => (wipe_some e).1⟩
theorem Wk.of {a b : L2.St} {vs : List Nat} (h : L2.wipe b vs = L2.wipe a vs) : Wk (L2.wipe a vs) b := by rw [← h]; exact Wk.wipe b vs
theorem Wk.inner {a b : L2.St} {vs us : List Nat} (h : L2.wipe b vs = L2.wipe a vs) (hu : ∀ i ∈ us, i ∈ vs) : Wk (L2.wipe a vs) (L2.wipe b us) := by
  rw [← h]
  refine ⟨by rw [wipe_length, wipe_length], fun j v e => ?_⟩
  obtain ⟨e1, e2⟩ := wipe_some e
  rw [wipe_out fun z => e2 (hu j z)]
  exact e1
/-- one level of a comprehension's loop -/
theorem loopG {Y : Cx} {e : Expr} {j : Nat} {tg : Expr} {p0 : Pos} {rest : Value → Sem PySem.Fin} {J : It} {fp : List Addr} {it : Addr} {tn : Nat → Heap → Prop} {acc : Value} {pins : List (Addr × Obj)} {σ0 : L2.St} {W : Nat → Nat → Hp → Prop} {Qe : Hp → Prop} {g : TG}
    {tb : L2.St → Hp → (Hp → Prop) → Prop} {R : Result → Shared → Prop} {rk : L2.St → Prop} (hx : ∀ u s, ¬ Y.xe u s) (hc : Y.calm = true)
    (hun : ∀ it, Y.A.under (.compLoop e j it acc Y.env) = Y.A) (hden : ∀ it, (model Y.prog Y.w).den (.compLoop e j it acc Y.env) = (compTurn e j it acc Y.env).onRaise fun x => do noteFrame x Y.env; theTreesLotGoes x)
    (ht : ∀ it, compTurn e j it acc Y.env = (do
      standAt p0
      match ← pyNext it with
      | none => pure (.done .next)
      | some v =>
        letOwnedTupleGo tg it v
        assign tg Y.env v
        rest it))
    (T : Turn Y.prog Y.w Y.K tg J fp it tn) (pg : PG Y tg g)
    (pb : ∀ (pins : List (Addr × Obj)) (s : Shared) (σ : L2.St) (H : Hp) (Nx : Hp → Prop) (Q : PySem.Fin → Shared → Prop), Inv Y pins σ H s → rk σ → tb σ H Nx → (∀ s' σ' H', Wk σ0 σ' → Inv Y pins σ' H' s' → Nx H' → Q (.again (.compLoop e j (.ref it) acc Y.env)) s') → wpAny (model Y.prog Y.w) Y.A (rest (.ref it)) Q Y.xe s)
    (step : ∀ i m H, W i m H → (J.stop i H ∧ Qe H) ∨ (J.go i H ∧ ∃ Nx : Hp → Prop, (∀ H', Nx H' → ∃ m', m' < m ∧ W (i + 1) m' H') ∧ ∀ x H', J.yld i H x H' → g x σ0 H' fun σ2 H2 => rk σ2 ∧ tb σ2 H2 Nx))
    (hend : ∀ s H, Inv Y pins σ0 H s → Qe H → R (.ok .next) s)
    {s : Shared} {H : Hp} {m : Nat} (I : Inv Y pins σ0 H s) (st : tn 0 s.heap) (hf : ∀ H' s', Inv Y pins σ0 H' s' → (∀ b ∈ fp, H' b = none) → ∀ b ∈ fp, FpOk Y pins H' b) (nf : ∀ b ∈ fp, H b = none) (w0 : W 0 m H) :
    codeAny (model Y.prog Y.w) Y.A (.compLoop e j (.ref it) acc Y.env) R s := by
  have nox : ∀ {α : Type} {t : Sem α} {Q Q' : α → Shared → Prop} {E : Value → Shared → Prop} {s : Shared}, wpAny (model Y.prog Y.w) Y.A t Q Y.xe s → (∀ a s, Q a s → Q' a s) → wpAny (model Y.prog Y.w) Y.A t Q' E s :=
    fun h hq => wpAny_mono h hq fun u s z => absurd z (hx u s)
  refine codeAny_loop rfl (fun n s' => ∃ i H', Inv Y pins σ0 H' s' ∧ tn i s'.heap ∧ (∀ b ∈ fp, H' b = none) ∧ W i n H') (fun n s1 ⟨i, H1, I1, st1, n1, w1⟩ => ?_) m ⟨0, H, I, st, nf, w0⟩
  rw [hun, hden]
  refine wpAny_noted ?_
  rw [ht]
  refine wpAny_bind (wpAny_standAt (wpAny_bind ?_))
  rcases step i n H1 w1 with ⟨stop, qe⟩ | ⟨go, Nx, hNx, turn⟩
  · refine nox (T.done Y rfl rfl rfl hc i pins s1 σ0 H1 Y.xe I1 (hf H1 s1 I1 n1) st1 stop) fun r s2 ⟨hr, I2⟩ => ?_
    subst hr
    exact wpAny_pure (hend s2 H1 I2 qe)
  · refine nox (T.item Y rfl rfl rfl hc i pins s1 σ0 H1 Y.xe I1 (hf H1 s1 I1 n1) st1 go) fun r s2 ⟨u, hr, h2⟩ => ?_
    subst hr
    refine wpAny_bind (nox h2 fun _ s3 ⟨x, H3, I3, r3, y3, st3, n3⟩ => ?_)
    have I3' := I3.pinned (hf H3 s3 I3 n3) (T.obj _ _ st3)
    refine wpAny_bind (nox (pg.run _ s3 _ H3 x u _ I3' r3 (turn x H3 y3)) fun _ s4 ⟨σ4, H4, I4, wk4, q4⟩ => ?_)
    refine nox (pb _ s4 σ4 H4 Nx _ I4 wk4 q4 fun s5 σ5 H5 wk5 I5 q5 => ?_) fun _ _ z => z
    obtain ⟨m', hm, w5⟩ := hNx H5 q5
    have pin : ∀ b ∈ fp, ∀ o, s3.heap.get? b = some o → s5.heap.get? b = some o ∧ H5 b = none := fun b hb o eo =>
      let z := I5.pin (b, o) (List.mem_append_right _ (List.mem_append_right _ (mem_pinsAt hb eo)))
      ⟨z.1, z.2.1⟩
    have wk : Wk σ0 σ5 := wk5
    refine ⟨rfl, m', hm, i + 1, H5, I5.unpinned.weak wk.1 wk.2, T.keep _ _ _ st3 fun b hb o eo => (pin b hb o eo).1, fun b hb => ?_, w5⟩
    obtain ⟨o, eo, _⟩ := T.obj _ _ st3 b hb
    exact (pin b hb o eo).2
section
variable {X : Cx}
/-- how a new entry comes into the dict: the key, the value, the heap, what is to follow -/
abbrev TSt := Addr → V → V → Hp → (Hp → Prop) → Prop
def StoreOk (P : Program) (w : World) (K : PySem.W.Frag) (A : Around) (st : TSt) : Prop :=
  ∀ (Y : Cx), Y.prog = P → Y.w = w → Y.K = K → Y.A = A → ∀ (pins : List (Addr × Obj)) (s : Shared) (σ : L2.St) (H : Hp) (D : Addr) (y z : V) (u r : Value) (Nx : Hp → Prop), Inv Y pins σ H s → RelV y u → RelV z r → st D y z H Nx →
    wpAny (model P w) A (dictSet D u r) (fun _ s' => ∃ H', Inv Y pins σ H' s' ∧ Nx H') Y.xe s
/-- the body of a turn: tests, then key and value, then the store -/
def tEnd (st : TSt) (D : Addr) (tt : TT) (tk tv : TE) : L2.St → Hp → (Hp → Prop) → Prop := fun σ H Nx => tt σ H fun b H3 => if b = true then tk σ H3 fun y H4 => tv σ H4 fun z H5 => st D y z H5 Nx else Nx H3
def tDcG (o0 : Addr → HO) (st : TSt) (wi : TI) (g : TG) (tt : TT) (tk tv : TE) (vs : List Nat) : TE := fun σ H Q => wi σ H fun J H1 => ∀ D, H1 D = none → ∃ W : Nat → Nat → Hp → Prop, (∃ m, W 0 m (upd H1 D (o0 D))) ∧ ∀ i m H, W i m H →
  (J.stop i H ∧ Q (.ref D) H) ∨ (J.go i H ∧ ∃ Nx : Hp → Prop, (∀ H', Nx H' → ∃ m', m' < m ∧ W (i + 1) m' H') ∧ ∀ x H', J.yld i H x H' → g x (wipe σ vs) H' fun σ2 H2 => wipe σ2 vs = wipe σ vs ∧ tEnd st D tt tk tv σ2 H2 Nx)
def tDcG2 (o0 : Addr → HO) (st : TSt) (wi : TI) (g : TG) (tt : TT) (wi1 : TI) (g1 : TG) (tt1 : TT) (tk tv : TE) (vs us : List Nat) : TE := fun σ H Q => wi σ H fun J H1 => ∀ D, H1 D = none → ∃ W : Nat → Nat → Hp → Prop, (∃ m, W 0 m (upd H1 D (o0 D))) ∧ ∀ i m H, W i m H →
  (J.stop i H ∧ Q (.ref D) H) ∨ (J.go i H ∧ ∃ Nx : Hp → Prop, (∀ H', Nx H' → ∃ m', m' < m ∧ W (i + 1) m' H') ∧ ∀ x H', J.yld i H x H' → g x (wipe σ vs) H' fun σ2 H2 => wipe σ2 vs = wipe σ vs ∧ tt σ2 H2 fun b H3 =>
    if b = true then wi1 σ2 H3 fun J1 H4 => ∃ W1 : Nat → Nat → Hp → Prop, (∃ m, W1 0 m H4) ∧ ∀ i m H, W1 i m H →
      (J1.stop i H ∧ Nx H) ∨ (J1.go i H ∧ ∃ Nx1 : Hp → Prop, (∀ H', Nx1 H' → ∃ m', m' < m ∧ W1 (i + 1) m' H') ∧ ∀ x H', J1.yld i H x H' → g1 x (wipe σ2 us) H' fun σ3 H5 => wipe σ3 us = wipe σ2 us ∧ tEnd st D tt1 tk tv σ3 H5 Nx1)
    else Nx H3)
/-- from the comprehension to its first loop -/
theorem compG {pins : List (Addr × Obj)} {s : Shared} {σ : L2.St} {H : Hp} {kx vx tg iter : Expr} {ifs : List Expr} {gs : List Comprehension} {scope : Scope} {own : List (Str × Nat)} {pos pos' : Pos} {wi : TI} {use : Option (Value → Sem Unit)} {Qf : Value → Shared → Prop} {o0 : Addr → HO} {R0 : It → Hp → Prop}
    (hc : X.calm = true) (hN : X.N.Nodup) (I : Inv X pins σ H s) (hi : PI X tg iter wi) (ok : BlkOk X.N X.env.scope scope own) (hs : ∀ x, foldedSetIterable iter X.env x = pure x)
    (hempty : ∀ (H : Hp) (h : Heap), sysModules < h.objs.size → ObjOk X.prog X.w H (h.push { cls := .type "dict", data := .dict #[] }) h.objs.size (o0 h.objs.size))
    (h : wi σ H R0)
    (loop : ∀ (s3 : Shared) (H3 : Hp) (C : Addr) (cl : List (Str × Addr)) (it : Addr) (fp : List Addr) (tn : Nat → Heap → Prop) (J : It) (D : Addr) (H2 : Hp) (s4 : Shared), R0 J H2 → H2 D = none → H3 = upd H2 D (o0 D) → Turn X.prog X.w X.K tg J fp it tn →
      Inv (X.blk s3 H3 scope (compEnvC scope cl C X.env) fp) [] (wipe σ (own.map (·.2))) H3 s4 → tn 0 s4.heap → (∀ b ∈ fp, H3 b = none) →
      (∀ s' H', Inv (X.blk s3 H3 scope (compEnvC scope cl C X.env) fp) [] (wipe σ (own.map (·.2))) H' s' → ∃ m, Inv X pins σ H' s' ∧ s'.heap.Ns C m ∧ FpOk X pins H' C) →
      codeAny (model X.prog X.w) X.A (.compLoop (.DictComp kx vx (⟨tg, iter, ifs, 0⟩ :: gs) scope pos) 0 (.ref it) (.ref D) (compEnvC scope cl C X.env)) (compPost (model X.prog X.w) X.A X.xe use Qf (.ref D) C) s4) :
    wpAny (model X.prog X.w) X.A (comprehension (.DictComp kx vx (⟨tg, iter, ifs, 0⟩ :: gs) scope pos) scope X.env pos' newDict false (eval iter X.env) use) Qf X.xe s := by
  have hfree : ∀ y ∈ scope.names, y.2 = .free → ∃ c, X.env.cells.lookup y.1 = some c := fun y hy e => (ok.free y hy e).elim (fun k => I.ok.has _ (.inl k)) fun k => I.ok.has _ (.inr k)
  refine wpAny_comprehension_free (use := use) rfl hs (closure_ok hfree) ok.kind (fun y hy e => by rw [ok.uniq y hy, e]) (thn (hi.run pins s σ H _ I h) fun xv s1 hx => thn hx fun itv s2 ⟨it, fp, tn, J, H2, e, I2, T, st2, f2, q⟩ => ?_)
  subst e
  refine wpAny_newObj_type (newEnv_comp ?_)
  have sz : ∀ b ∈ fp, b < s2.heap.objs.size := fun b hb => let ⟨o, eo, _⟩ := T.obj _ _ st2 b hb; Heap.lt_size eo
  have hDn : H2 s2.heap.objs.size = none := I2.hok.fresh (Nat.le_refl _)
  have k3 : ∀ b o, s2.heap.get? b = some o → (s2.heap.push { cls := .type "dict", data := .dict #[] }).get? b = some o := fun b o e => Heap.get?_push_of_some _ e
  have I3 : Inv X pins σ (upd H2 s2.heap.objs.size (o0 s2.heap.objs.size)) { s2 with heap := s2.heap.push { cls := .type "dict", data := .dict #[] } } := I2.laid (t' := s2.toks) k3 (Nat.le_refl _) (hempty _ _ I2.big)
  generalize hD : s2.heap.objs.size = D at hDn I3 sz
  generalize hs3 : ({ s2 with heap := s2.heap.push { cls := .type "dict", data := .dict #[] } } : Shared) = s3 at I3
  have h3 : s3.heap = s2.heap.push { cls := .type "dict", data := .dict #[] } := by rw [← hs3]
  have f3 : ∀ b ∈ fp, FpOk X pins (upd H2 D (o0 D)) b ∧ b < s3.heap.objs.size := fun b hb => by
    have hlt := sz b hb
    refine ⟨⟨?_, (f2 b hb).2⟩, by rw [h3, Heap.size_push, hD]; exact Nat.lt_succ_of_lt hlt⟩
    rw [upd_ne (Nat.ne_of_lt hlt)]
    exact (f2 b hb).1
  have st3 : tn 0 s3.heap := T.keep _ _ _ st2 fun b _ o eo => by rw [h3]; exact k3 b o eo
  have I4 := block_start I3 ok hN f3
  have e4 : s3.heap.push { cls := .type "dict", data := .dict #[] } = (s3.heap.push { cls := .type "dict", data := .dict #[] }) := rfl
  have st4 : tn 0 (pushCells (s3.heap.push { cls := .type "dict", data := .dict #[] }) scope.names) := T.keep _ _ _ st3 fun b _ o eo => pushCells_keeps _ _ _ _ (Heap.get?_push_of_some _ eo)
  show codeAny _ _ (.compStart (.DictComp kx vx (⟨tg, iter, ifs, 0⟩ :: gs) scope pos) 0 (.ref it) (.ref D) (compEnvC scope (cellsFrom (s3.heap.objs.size + 1) scope.names (cloFrom X.env.cells scope.names [])) s3.heap.objs.size X.env)) (compPost (model X.prog X.w) X.A X.xe use Qf (.ref D) s3.heap.objs.size) { s3 with heap := pushCells (s3.heap.push { cls := .type "dict", data := .dict #[] }) scope.names }
  have go := loop s3 (upd H2 D (o0 D)) s3.heap.objs.size (cellsFrom (s3.heap.objs.size + 1) scope.names (cloFrom X.env.cells scope.names [])) it fp tn J D H2 _ q hDn rfl T I4 st4 (fun b hb => (f3 b hb).1.1) (fun s' H' I' => by
    obtain ⟨m, hn, _⟩ := I'.loc
    refine ⟨m, I3.call' (ch := fp) I'.os I'.base I'.hok I'.bare fun b hb => ⟨(f3 b hb).1.2.2.2.1, (f3 b hb).1.2.1, (f3 b hb).1.2.2.2.2.1, (f3 b hb).1.2.2.2.2.2⟩, hn, I3.fpOk (Nat.le_refl _) I'.free⟩)
  exact codeAny_compStart_dict go (T.self X.A 0 _ _ _ st4 go)
/-- the end of a turn: tests, key, value, store -/
theorem endG {Y : Cx} {D : Addr} {ifs : List Expr} {kx vx : Expr} {tt : TT} {tk tv : TE} {st : TSt} {pins : List (Addr × Obj)} {s : Shared} {σ : L2.St} {H : Hp} {Nx : Hp → Prop} {Q : PySem.Fin → Shared → Prop} {A : Sem PySem.Fin}
    (hS : StoreOk Y.prog Y.w Y.K Y.A st) (pt : PTs Y ifs tt) (pk : PE Y kx tk) (pe : PE Y vx tv) (I : Inv Y pins σ H s) (h : tEnd st D tt tk tv σ H Nx)
    (hA : ∀ s' H', Inv Y pins σ H' s' → Nx H' → wpAny (model Y.prog Y.w) Y.A A Q Y.xe s') :
    wpAny (model Y.prog Y.w) Y.A (forIn ifs true fun c r => if r = true then do let ok ← isTrue c Y.env (eval c Y.env); pure (ForInStep.yield ok) else pure (ForInStep.yield r))
      (fun ok s1 => if ok = true then wpAny (model Y.prog Y.w) Y.A (eval kx Y.env) (fun u s2 => wpAny (model Y.prog Y.w) Y.A (eval vx Y.env) (fun r s3 => wpAny (model Y.prog Y.w) Y.A (dictSet D u r) (fun _ s4 => wpAny (model Y.prog Y.w) Y.A A Q Y.xe s4) Y.xe s3) Y.xe s2) Y.xe s1
        else wpAny (model Y.prog Y.w) Y.A A Q Y.xe s1) Y.xe s := by
  refine thn (pt.run _ s σ H _ I h) fun b s1 ⟨H1, I1, q1⟩ => ?_
  cases b with
  | false =>
    rw [if_neg (by decide)] at q1 ⊢
    exact hA s1 H1 I1 q1
  | true =>
    rw [if_pos rfl] at q1 ⊢
    refine thn (pk.run _ s1 σ H1 _ I1 q1) fun u s2 ⟨y, H2, I2, r2, q2⟩ => thn (pe.run _ s2 σ H2 _ I2 q2) fun r s3 ⟨z, H3, I3, r3, q3⟩ => ?_
    exact thn (hS Y rfl rfl rfl rfl _ s3 σ H3 D y z u r Nx I3 r2 r3 q3) fun _ s4 ⟨H4, I4, q4⟩ => hA s4 H4 I4 q4
abbrev blkP (X : Cx) (scope : Scope) (f : Cx → Prop) : Prop := ∀ (s : Shared) (H : Hp) (C : Addr) (cl : List (Str × Addr)) (fp : List Addr), f (X.blk s H scope (compEnvC scope cl C X.env) fp)
theorem stat0 {s3 : Shared} {H3 : Hp} {scope : Scope} {ce : Env} {fp : List Addr} {σ : L2.St} {H' : Hp} {s' : Shared} (I' : Inv (X.blk s3 H3 scope ce fp) [] σ H' s') (hn : ∀ b ∈ fp, H' b = none) : ∀ b ∈ fp, FpOk (X.blk s3 H3 scope ce fp) [] H' b := fun b hb =>
  ⟨hn b hb, (I'.ok.exf b hb).1, I'.ok.exfs b hb, .inl hb, fun x c e => (I'.ok.exf b hb).2 x c e, fun p hp => absurd (show p ∈ ([] : List (Addr × Obj)) ++ [] from hp) (by simp)⟩
/-- one clause -/
theorem coreG {pins : List (Addr × Obj)} {s : Shared} {σ : L2.St} {H : Hp} {Q : VK} {kx vx tg iter : Expr} {ifs : List Expr} {scope : Scope} {own : List (Str × Nat)} {pos pos' : Pos} {wi : TI} {g : TG} {tt : TT} {tk tv : TE} {use : Option (Value → Sem Unit)} {Qf : Value → Shared → Prop} {o0 : Addr → HO} {st : TSt}
    (hc : X.calm = true) (hN : X.N.Nodup) (I : Inv X pins σ H s) (hi : PI X tg iter wi) (ok : BlkOk X.N X.env.scope scope own)
    (hempty : ∀ (H : Hp) (h : Heap), sysModules < h.objs.size → ObjOk X.prog X.w H (h.push { cls := .type "dict", data := .dict #[] }) h.objs.size (o0 h.objs.size)) (hS : StoreOk X.prog X.w X.K X.A st)
    (hg : blkP X scope fun Y => PG Y tg g) (ht : blkP X scope fun Y => PTs Y ifs tt) (hk : blkP X scope fun Y => PE Y kx tk) (he : blkP X scope fun Y => PE Y vx tv) (hs : ∀ x, foldedSetIterable iter X.env x = pure x)
    (h : tDcG o0 st wi g tt tk tv (own.map (·.2)) σ H Q)
    (hRR : ∀ D C s' m H', Inv X pins σ H' s' → Q (.ref D) H' → s'.heap.Ns C m → FpOk X pins H' C → compPost (model X.prog X.w) X.A X.xe use Qf (.ref D) C (.ok .next) s') :
    wpAny (model X.prog X.w) X.A (comprehension (.DictComp kx vx [⟨tg, iter, ifs, 0⟩] scope pos) scope X.env pos' newDict false (eval iter X.env) use) Qf X.xe s := by
  refine compG hc hN I hi ok hs hempty h fun s3 H3 C cl it fp tn J D H2 s4 q hD eH T I4 st4 nf back => ?_
  obtain ⟨W, ⟨m0, w0⟩, turn⟩ := q D hD
  rw [← eH] at w0
  refine loopG (Y := X.blk s3 H3 scope (compEnvC scope cl C X.env) fp) (Qe := fun H => Q (.ref D) H) (tb := tEnd st D tt tk tv) (W := W) (rk := fun σ2 => wipe σ2 (own.map (·.2)) = wipe σ (own.map (·.2))) (fun _ _ z => z) hc (fun _ => rfl) (fun _ => rfl) (fun it => compTurn_dict kx vx tg iter ifs scope pos it D _) T (hg s3 H3 C cl fp) (fun pins s σ H Nx Q I hrk h hq => ?_) (fun i m H w => ?_) (fun s' H' I' qe => ?_) I4 st4 (fun H' s' I' hn => stat0 I' hn) nf w0
  · have e := endG (Y := X.blk s3 H3 scope (compEnvC scope cl C X.env) fp) (A := again (.compLoop (.DictComp kx vx [⟨tg, iter, ifs, 0⟩] scope pos) 0 (.ref it) (.ref D) (compEnvC scope cl C X.env))) (Q := Q) hS (ht s3 H3 C cl fp) (hk s3 H3 C cl fp) (he s3 H3 C cl fp) I h fun s' H' I' nx => wpAny_pure (hq s' σ H' (Wk.of hrk) I' nx)
    refine wpAny_bind (thn e fun b s1 h1 => ?_)
    cases b with
    | false =>
      rw [if_neg (by decide)] at h1
      exact h1
    | true =>
      rw [if_pos rfl] at h1
      refine wpAny_bind (wpAny_bind (thn h1 fun u s2 h2 => wpAny_bind (wpAny_holding (thn h2 fun r s3' h3 => wpAny_bind (wpAny_standAt (wpAny_holding (thn h3 fun _ s4' h4 => h4)))))))
  · exact turn i m H w
  · obtain ⟨m, I2, hn, f⟩ := back s' H' I'
    exact hRR D C s' m H' I2 qe hn f
/-- {k: v for target in iter if ..} as a value -/
theorem pe_dcG {kx vx tg iter : Expr} {ifs : List Expr} {scope : Scope} {own : List (Str × Nat)} {pos : Pos} {wi : TI} {g : TG} {tt : TT} {tk tv : TE} {o0 : Addr → HO} {st : TSt}
    (hempty : ∀ (H : Hp) (h : Heap), sysModules < h.objs.size → ObjOk X.prog X.w H (h.push { cls := .type "dict", data := .dict #[] }) h.objs.size (o0 h.objs.size)) (hS : StoreOk X.prog X.w X.K X.A st)
    (hc : X.calm = true) (hN : X.N.Nodup) (hi : PI X tg iter wi) (ok : BlkOk X.N X.env.scope scope own)
    (hg : blkP X scope fun Y => PG Y tg g) (ht : blkP X scope fun Y => PTs Y ifs tt) (hk : blkP X scope fun Y => PE Y kx tk) (he : blkP X scope fun Y => PE Y vx tv) (hs : ∀ x, foldedSetIterable iter X.env x = pure x := by intro _; rfl) :
    PE X (.DictComp kx vx [⟨tg, iter, ifs, 0⟩] scope pos) (tDcG o0 st wi g tt tk tv (own.map (·.2))) := by
  refine ⟨fun pins s σ H Q I h => ?_⟩
  rw [arm_eval_DictComp]
  refine coreG hc hN I hi ok hempty hS hg ht hk he hs h fun D C s' m H' I' q hn f => ⟨m, hn, fun h'' sb => ?_⟩
  obtain ⟨f0, f1, f2, f3, f4, f5⟩ := f
  exact ⟨.ref D, H', I'.turned (t' := s'.toks) (fun b o hb e => (sb.2 b hb).trans e) f0 f1 f3 f4 f5, rfl, q⟩
/-- the name takes the dict -/
theorem useG {pins : List (Addr × Obj)} {σ : L2.St} {H' : Hp} {s' : Shared} {D C : Addr} {m : Str → Option Value} {i : Nat} {y : Str} {py : Pos} {En : Ends} (hN : X.N.Nodup) (hy : X.N[i]? = some y) (hyl : X.env.scope.names.lookup y = some .local)
    (I' : Inv X pins σ H' s') (q : En.nx (σ.set i (some (.ref D))) H') (hn : s'.heap.Ns C m) (f : FpOk X pins H' C) :
    compPost (model X.prog X.w) X.A X.xe (some (assign (.Name y py) X.env)) (fun _ s' => SP X pins En .next s') (.ref D) C (.ok .next) s' := by
  show wpAny _ _ (assign (.Name y py) X.env (.ref D)) _ _ _
  refine wpAny_assign_Name (store_ok2 (v := V.ref D) I' hN hy (.inl hyl) rfl (fun s2 I2 ⟨a, sb, ha⟩ => ?_) (.inr hyl))
  obtain ⟨f0, f1, f2, f3, f4, f5⟩ := f
  have haC : C ≠ a := by
    rcases ha with z | z
    · rw [z]; exact f1
    · exact fun e => f4 y a z e.symm
  exact ⟨m, hn.sameBut sb haC, fun h3 sb3 => ⟨_, H', I2.turned (t' := s2.toks) (fun b o hb e => (sb3.2 b hb).trans e) f0 f1 f3 f4 f5, q⟩⟩
/-- the start of the second clause -/
theorem start1G {prog : Program} {w : World} {A : Around} {R : Result → Shared → Prop} {s : Shared} {kx vx : Expr} {c0 c1 : Comprehension} {scope : Scope} {pos : Pos} {it acc : Value} {env : Env} (h1 : c1.is_async = 0)
    (hl : codeAny (model prog w) A (.compLoop (.DictComp kx vx [c0, c1] scope pos) 1 it acc env) R s)
    (hi : ∀ (Q : Value → Shared → Prop) (E : Value → Shared → Prop), Q it s → wpAny (model prog w) A (pyIter it) Q E s) : codeAny (model prog w) A (.compStart (.DictComp kx vx [c0, c1] scope pos) 1 it acc env) R s := by
  obtain ⟨t1, i1, f1, a1⟩ := c1
  subst h1
  refine codeAny_of_tree ?_
  show wpAny _ _ ((compStart (.DictComp kx vx [c0, ⟨t1, i1, f1, 0⟩] scope pos) 1 it acc env).onRaise fun x => do noteFrame x env; standAt theWindowsPlace) _ _ s
  refine wpAny_notedAt ?_
  unfold compStart
  refine wpAny_bind (wpAny_askSetting (wpAny_ite ?_))
  split
  · first | exact wpAny_pure ⟨rfl, hl⟩ | exact wpAny_bind (wpAny_pure (wpAny_pure ⟨rfl, hl⟩))
  · refine wpAny_bind (wpAny_rule ?_)
    first
      | exact wpAny_bind (wpAny_standAt (wpAny_bind (hi _ _ (wpAny_pure ⟨rfl, hl⟩))))
      | (show wpAny _ _ (standAt i1.pos >>= _) _ _ s; exact wpAny_bind (wpAny_standAt (wpAny_bind (hi _ _ (wpAny_pure ⟨rfl, hl⟩)))))
/-- two clauses -/
theorem coreG2 {pins : List (Addr × Obj)} {s : Shared} {σ : L2.St} {H : Hp} {Q : VK} {kx vx tg iter tg1 iter1 : Expr} {ifs ifs1 : List Expr} {scope : Scope} {own : List (Str × Nat)} {us : List Nat} {pos pos' : Pos} {wi wi1 : TI} {g g1 : TG} {tt tt1 : TT} {tk tv : TE} {use : Option (Value → Sem Unit)} {Qf : Value → Shared → Prop} {o0 : Addr → HO} {st : TSt}
    (hc : X.calm = true) (hN : X.N.Nodup) (I : Inv X pins σ H s) (hi : PI X tg iter wi) (ok : BlkOk X.N X.env.scope scope own) (hu : ∀ i ∈ us, i ∈ own.map (·.2))
    (hempty : ∀ (H : Hp) (h : Heap), sysModules < h.objs.size → ObjOk X.prog X.w H (h.push { cls := .type "dict", data := .dict #[] }) h.objs.size (o0 h.objs.size)) (hS : StoreOk X.prog X.w X.K X.A st)
    (hg : blkP X scope fun Y => PG Y tg g) (ht : blkP X scope fun Y => PTs Y ifs tt) (hi1 : blkP X scope fun Y => PI Y tg1 iter1 wi1) (hg1 : blkP X scope fun Y => PG Y tg1 g1) (ht1 : blkP X scope fun Y => PTs Y ifs1 tt1)
    (hk : blkP X scope fun Y => PE Y kx tk) (he : blkP X scope fun Y => PE Y vx tv) (hs : ∀ x, foldedSetIterable iter X.env x = pure x) (hs1 : ∀ env x, foldedSetIterable iter1 env x = pure x)
    (h : tDcG2 o0 st wi g tt wi1 g1 tt1 tk tv (own.map (·.2)) us σ H Q)
    (hRR : ∀ D C s' m H', Inv X pins σ H' s' → Q (.ref D) H' → s'.heap.Ns C m → FpOk X pins H' C → compPost (model X.prog X.w) X.A X.xe use Qf (.ref D) C (.ok .next) s') :
    wpAny (model X.prog X.w) X.A (comprehension (.DictComp kx vx [⟨tg, iter, ifs, 0⟩, ⟨tg1, iter1, ifs1, 0⟩] scope pos) scope X.env pos' newDict false (eval iter X.env) use) Qf X.xe s := by
  refine compG hc hN I hi ok hs hempty h fun s3 H3 C cl it fp tn J D H2 s4 q hD eH T I4 st4 nf back => ?_
  obtain ⟨W, ⟨m0, w0⟩, turn⟩ := q D hD
  rw [← eH] at w0
  refine loopG (Y := X.blk s3 H3 scope (compEnvC scope cl C X.env) fp) (Qe := fun H => Q (.ref D) H) (W := W) (rk := fun σ2 => wipe σ2 (own.map (·.2)) = wipe σ (own.map (·.2)))
    (tb := fun σ2 H2 Nx => tt σ2 H2 fun b H3 => if b = true then wi1 σ2 H3 fun J1 H4 => ∃ W1 : Nat → Nat → Hp → Prop, (∃ m, W1 0 m H4) ∧ ∀ i m H, W1 i m H →
      (J1.stop i H ∧ Nx H) ∨ (J1.go i H ∧ ∃ Nx1 : Hp → Prop, (∀ H', Nx1 H' → ∃ m', m' < m ∧ W1 (i + 1) m' H') ∧ ∀ x H', J1.yld i H x H' → g1 x (wipe σ2 us) H' fun σ3 H5 => wipe σ3 us = wipe σ2 us ∧ tEnd st D tt1 tk tv σ3 H5 Nx1)
      else Nx H3)
    (fun _ _ z => z) hc (fun _ => rfl) (fun _ => rfl) (fun it => rfl) T (hg s3 H3 C cl fp) (fun pins s σ H Nx Q I hrk h hq => ?_) (fun i m H w => ?_) (fun s' H' I' qe => ?_) I4 st4 (fun H' s' I' hn => stat0 I' hn) nf w0
  · refine wpAny_bind (thn ((ht s3 H3 C cl fp).run _ s σ H _ I h) fun b s5 ⟨H5, I5, q5⟩ => ?_)
    cases b with
    | false =>
      rw [if_neg (by decide)] at q5
      exact wpAny_pure (hq s5 σ H5 (Wk.of hrk) I5 q5)
    | true =>
      rw [if_pos rfl] at q5
      refine wpAny_bind (thn ((hi1 s3 H3 C cl fp).run _ s5 σ H5 _ I5 q5) fun xv s6 hx => ?_)
      refine wpAny_bind (wpAny_standAt (wpAny_bind (wpAny_of_eq (hs1 _ xv) (wpAny_bind (wpAny_holding (thn hx fun itv s7 ⟨it1, fp1, tn1, J1, H7, e1, I7, T1, st7, f7, W1, ⟨m1, w1⟩, turn1⟩ => ?_))))))
      subst e1
      refine wpAny_bind (wpAny_runOwn ?_)
      rw [Around.mark_none]
      have loop1 : codeAny (model X.prog X.w) X.A (.compLoop (.DictComp kx vx [⟨tg, iter, ifs, 0⟩, ⟨tg1, iter1, ifs1, 0⟩] scope pos) 1 (.ref it1) (.ref D) (compEnvC scope cl C X.env))
          (fun r s' => match r with
            | .ok _ => ∃ σ' H', Wk (wipe σ us) σ' ∧ Inv (X.blk s3 H3 scope (compEnvC scope cl C X.env) fp) pins σ' H' s' ∧ Nx H'
            | .error _ => False) s7 := by
        refine loopG (Y := X.blk s3 H3 scope (compEnvC scope cl C X.env) fp) (Qe := Nx) (tb := tEnd st D tt1 tk tv) (W := W1) (σ0 := wipe σ us) (rk := fun σ2 => wipe σ2 us = wipe σ us)
          (fun _ _ z => z) hc (fun _ => rfl) (fun _ => rfl) (fun it => rfl) T1 (hg1 s3 H3 C cl fp) (fun pins s σ H Nx Q I hrk h hq => ?_) turn1 (fun s' H' I' nx => ⟨wipe σ us, H', Wk.refl _, I', nx⟩) (I7.weak (wipe_length _ _) fun j v e => (wipe_some e).1) st7 (fun H' s' I' hn b hb => ⟨hn b hb, (f7 b hb).2⟩) (fun b hb => (f7 b hb).1) w1
        have e := endG (Y := X.blk s3 H3 scope (compEnvC scope cl C X.env) fp) (A := again (.compLoop (.DictComp kx vx [⟨tg, iter, ifs, 0⟩, ⟨tg1, iter1, ifs1, 0⟩] scope pos) 1 (.ref it1) (.ref D) (compEnvC scope cl C X.env))) (Q := Q) hS (ht1 s3 H3 C cl fp) (hk s3 H3 C cl fp) (he s3 H3 C cl fp) I h fun s' H' I' nx => wpAny_pure (hq s' σ H' (Wk.of hrk) I' nx)
        refine wpAny_bind (thn e fun b s1 h1 => ?_)
        cases b with
        | false =>
          rw [if_neg (by decide)] at h1
          exact h1
        | true =>
          rw [if_pos rfl] at h1
          refine wpAny_bind (wpAny_bind (thn h1 fun u s2 h2 => wpAny_bind (wpAny_holding (thn h2 fun r s3' h3 => wpAny_bind (wpAny_standAt (wpAny_holding (thn h3 fun _ s4' h4 => h4)))))))
      refine codeAny_mono (start1G rfl loop1 fun Q E hq => T1.self X.A 0 _ _ _ st7 hq) fun r s8 hr => ?_
      cases r with
      | error e => exact hr.elim
      | ok f =>
        obtain ⟨σ8, H8, wk8, I8, nx8⟩ := hr
        first
          | exact wpAny_pure (hq s8 σ8 H8 ((Wk.inner hrk hu).trans wk8) I8 nx8)
          | exact wpAny_bind (wpAny_pure (wpAny_pure (hq s8 σ8 H8 ((Wk.inner hrk hu).trans wk8) I8 nx8)))
  · exact turn i m H w
  · obtain ⟨m, I2, hn, f⟩ := back s' H' I'
    exact hRR D C s' m H' I2 qe hn f
/-- name = {k: v for ..} on one line, the name a local -/
theorem ps_setDcG {i : Nat} {y : Str} {py : Pos} {kx vx tg iter : Expr} {ifs : List Expr} {scope : Scope} {own : List (Str × Nat)} {pos spos : Pos} {wi : TI} {g : TG} {tt : TT} {tk tv : TE} {o0 : Addr → HO} {st : TSt}
    (hempty : ∀ (H : Hp) (h : Heap), sysModules < h.objs.size → ObjOk X.prog X.w H (h.push { cls := .type "dict", data := .dict #[] }) h.objs.size (o0 h.objs.size)) (hS : StoreOk X.prog X.w X.K X.A st)
    (hc : X.calm = true) (hN : X.N.Nodup) (hy : X.N[i]? = some y) (hyl : X.env.scope.names.lookup y = some .local) (hsw : swapsWith (.DictComp kx vx [⟨tg, iter, ifs, 0⟩] scope pos) (some (.Name y py)) spos.line X.env = pure true)
    (hi : PI X tg iter wi) (ok : BlkOk X.N X.env.scope scope own)
    (hg : blkP X scope fun Y => PG Y tg g) (ht : blkP X scope fun Y => PTs Y ifs tt) (hk : blkP X scope fun Y => PE Y kx tk) (he : blkP X scope fun Y => PE Y vx tv) (hs : ∀ x, foldedSetIterable iter X.env x = pure x := by intro _; rfl) :
    PS X (.Assign [.Name y py] (.DictComp kx vx [⟨tg, iter, ifs, 0⟩] scope pos) spos) (tAsg (tDcG o0 st wi g tt tk tv (own.map (·.2))) (gName i)) := by
  refine ⟨fun pins s σ H D I h => ?_⟩
  rw [exec_Assign_Name_used _ _ _ _ hsw]
  refine wpAny_bind (wpAny_standAt (wpAny_bind ?_))
  show wpAny _ X.A (comprehension (.DictComp kx vx [⟨tg, iter, ifs, 0⟩] scope pos) scope X.env (firstIterPos [⟨tg, iter, ifs, 0⟩] pos) newDict false (eval iter X.env) (some (assign (.Name y py) X.env)) >>= _) _ _ s
  have h : tDcG o0 st wi g tt tk tv (own.map (·.2)) σ H (fun x H1 => gName i x σ H1 D.nx) := h
  exact wpAny_bind (thn (coreG (Qf := fun _ s' => SP X pins D .next s') hc hN I hi ok hempty hS hg ht hk he hs h fun L C s' m H' I' q hn f => useG hN hy hyl I' q hn f) fun _ s' hq => wpAny_pure (wpAny_pure hq))
theorem ps_setDcG2 {i : Nat} {y : Str} {py : Pos} {kx vx tg iter tg1 iter1 : Expr} {ifs ifs1 : List Expr} {scope : Scope} {own : List (Str × Nat)} {us : List Nat} {pos spos : Pos} {wi wi1 : TI} {g g1 : TG} {tt tt1 : TT} {tk tv : TE} {o0 : Addr → HO} {st : TSt}
    (hempty : ∀ (H : Hp) (h : Heap), sysModules < h.objs.size → ObjOk X.prog X.w H (h.push { cls := .type "dict", data := .dict #[] }) h.objs.size (o0 h.objs.size)) (hS : StoreOk X.prog X.w X.K X.A st)
    (hc : X.calm = true) (hN : X.N.Nodup) (hy : X.N[i]? = some y) (hyl : X.env.scope.names.lookup y = some .local) (hsw : swapsWith (.DictComp kx vx [⟨tg, iter, ifs, 0⟩, ⟨tg1, iter1, ifs1, 0⟩] scope pos) (some (.Name y py)) spos.line X.env = pure true)
    (hi : PI X tg iter wi) (ok : BlkOk X.N X.env.scope scope own) (hu : ∀ i ∈ us, i ∈ own.map (·.2))
    (hg : blkP X scope fun Y => PG Y tg g) (ht : blkP X scope fun Y => PTs Y ifs tt) (hi1 : blkP X scope fun Y => PI Y tg1 iter1 wi1) (hg1 : blkP X scope fun Y => PG Y tg1 g1) (ht1 : blkP X scope fun Y => PTs Y ifs1 tt1)
    (hk : blkP X scope fun Y => PE Y kx tk) (he : blkP X scope fun Y => PE Y vx tv) (hs : ∀ x, foldedSetIterable iter X.env x = pure x := by intro _; rfl) (hs1 : ∀ env x, foldedSetIterable iter1 env x = pure x := by intro _ _; rfl) :
    PS X (.Assign [.Name y py] (.DictComp kx vx [⟨tg, iter, ifs, 0⟩, ⟨tg1, iter1, ifs1, 0⟩] scope pos) spos) (tAsg (tDcG2 o0 st wi g tt wi1 g1 tt1 tk tv (own.map (·.2)) us) (gName i)) := by
  refine ⟨fun pins s σ H D I h => ?_⟩
  rw [exec_Assign_Name_used _ _ _ _ hsw]
  refine wpAny_bind (wpAny_standAt (wpAny_bind ?_))
  show wpAny _ X.A (comprehension (.DictComp kx vx [⟨tg, iter, ifs, 0⟩, ⟨tg1, iter1, ifs1, 0⟩] scope pos) scope X.env (firstIterPos [⟨tg, iter, ifs, 0⟩, ⟨tg1, iter1, ifs1, 0⟩] pos) newDict false (eval iter X.env) (some (assign (.Name y py) X.env)) >>= _) _ _ s
  have h : tDcG2 o0 st wi g tt wi1 g1 tt1 tk tv (own.map (·.2)) us σ H (fun x H1 => gName i x σ H1 D.nx) := h
  exact wpAny_bind (thn (coreG2 (Qf := fun _ s' => SP X pins D .next s') hc hN I hi ok hu hempty hS hg ht hi1 hg1 ht1 hk he hs hs1 h fun L C s' m H' I' q hn f => useG hN hy hyl I' q hn f) fun _ s' hq => wpAny_pure (wpAny_pure hq))
theorem sw_trueD {kx vx : Expr} {gs : List Comprehension} {scope : Scope} {pos py : Pos} {y : Str} {l : Nat} {env : Env} (hk : env.scope.kind = .function) (hy : env.scope.names.lookup y = some .local) (hl : (py.line == pos.line) = true)
    (ha : (scope.names.any fun (n, k) => n == y && (k == .local || k == .cell)) = false) : swapsWith (.DictComp kx vx gs scope pos) (some (.Name y py)) l env = pure true := by
  have ky : env.kindOf y = some .local := hy
  have hb : env.blockKind = .function := by unfold Env.blockKind; rw [hk]; rfl
  show (do return env.blockKind == .function && env.kindOf y == some .local && py.line == (Expr.DictComp kx vx gs scope pos).pos.line && !(scope.names.any fun (n, k) => n == y && (k == .local || k == .cell)) : Sem Bool) = _
  rw [hb, ky, ha, show (Expr.DictComp kx vx gs scope pos).pos = pos from rfl, hl]
  rfl
end
/-! ### the stores -/
/-- a text (or an int) as a key: put -/
def stK : TSt := fun D y z H Nx => ∃ kvs k, y = kV k ∧ H D = some (.dK kvs) ∧ kvs.length < sizeLine ∧ Nx (upd H D (.dK (putK kvs k z)))
theorem stK_ok {P : Program} {w : World} {K : PySem.W.Frag} {A : Around} : StoreOk P w K A stK := by
  intro Y h1 h2 h3 h4 pins s σ H D y z u r Nx I ry rz ⟨kvs, k, ek, hD, hz, nx⟩
  subst h1 h2 h3 h4 ek
  exact d_dictSet I hD hz ry rz fun s' I' => ⟨_, I', nx⟩
theorem empty_K {P : Program} {w : World} (H : Hp) (h : Heap) (hb : sysModules < h.objs.size) : ObjOk P w H (h.push { cls := .type "dict", data := .dict #[] }) h.objs.size (.dK []) := dk_empty h hb
/-- a tuple of ints and texts, new -/
def stT : TSt := fun D y z H Nx => ∃ kvs k b, y = .ref b ∧ H b = some (.tup (k.map kV)) ∧ H D = some (.dT kvs) ∧ kvs.length < sizeLine ∧ Nx (upd H D (.dT (putK kvs k z)))
theorem stT_ok {P : Program} {w : World} {K : PySem.W.Frag} {A : Around} (hu : A.units + 64 < cLine) : StoreOk P w K A stT := by
  intro Y h1 h2 h3 h4 pins s σ H D y z u r Nx I ry rz ⟨kvs, k, b, ey, hb, hD, hz, nx⟩
  subst h1 h2 h3 h4 ey
  obtain rfl : u = Value.ref b := ry
  obtain ⟨_, nm, xs, rel, dd⟩ := dt_of I.hok hD
  have hl : kvs.length = xs.length := Paired.length rel
  refine wpAny_dictSet_heap (hsz := by omega) (show Y.A.units < cLine by omega) (key_of I.hok hb) dd fun h' dd' sb => ?_
  obtain ⟨o, es, ep, e1, e2, e3, e4, _, e6⟩ := dd'
  have nbD : ∀ q ys, H q = some (.tup ys) → (upd H D (.dT (putK kvs k z))) q = some (.tup ys) := fun q ys e => by rw [upd_ne (ne_of e hD (by intro z; cases z))]; exact e
  have hz' : (putK kvs k z).length ≤ sizeLine := by have := length_putK kvs k z; omega
  exact ⟨_, d_write (ob := .dT (putK kvs k z)) I (by rw [hD]; exact True.intro) sb ⟨o, e1⟩ ⟨hz', nm, _, (rel.put k hb rz).keeps nbD, o, es, ep, e1, e2, e3, e4, e6⟩, nx⟩
theorem empty_T {P : Program} {w : World} (H : Hp) (h : Heap) (hb : sysModules < h.objs.size) : ObjOk P w H (h.push { cls := .type "dict", data := .dict #[] }) h.objs.size (.dT []) := by
  have nm : (h.objs.size == sysModules) = false := beq_eq_false_iff_ne.mpr (Nat.ne_of_gt hb)
  exact ⟨Nat.zero_le _, nm, [], .nil, _, #[], 0, Heap.get?_push_size _ rfl, ⟨rfl, rfl, rfl⟩, rfl, rfl, List.nodup_nil⟩
/-- a nested key, new -/
def stN (K : PySem.W.Frag) (w : World) : TSt := fun D y z H Nx => ∃ kvs k, H D = some (dN w D kvs) ∧ NAt K H kvs ∧ Dp K H y k.data ∧ KeyOk k ∧ k ∉ kvs.map (·.1) ∧ kvs.length < sizeLine ∧ Nx (upd H D (dN w D (kvs ++ [(k, y, z)])))
theorem obj_N {P : Program} {w : World} {H : Hp} {h : Heap} {D : Addr} {kvs : List NV} {xs : List NK} (nm : (D == sysModules) = false) (hz : kvs.length ≤ sizeLine) (hn : (kvs.map (·.1)).Nodup) (rel : NRel kvs xs) (dn : DictN w h D xs) : ObjOk P w H h D (dN w D kvs) := by
  refine ⟨⟨nm, hz, hn, xs, rel, dn⟩, ?_, fun g1 g2 hg hs => ?_⟩
  · obtain ⟨o, _, _, e, _⟩ := dn
    exact ⟨o, e⟩
  · obtain ⟨a1, a2, a3, ys, a4, o', es', ep', b1, b2⟩ := hg
    exact ⟨a1, a2, a3, ys, a4, o', es', ep', hs _ b1, b2⟩
theorem stN_ok {P : Program} {w : World} {K : PySem.W.Frag} {A : Around} (hu : A.units + 64 < cLine) : StoreOk P w K A (stN K w) := by
  intro Y h1 h2 h3 h4 pins s σ H D y z u r Nx I ry rz ⟨kvs, k, hD, hk, hy, ok, hno, hz, nx⟩
  subst h1 h2 h3 h4
  obtain ⟨nm, hl, hn, xs, rel, dn⟩ := rdN I.hok (Rd.of hD)
  have ek := rel.keys
  have el : kvs.length = xs.length := Paired.length rel
  refine dictSetN (by omega) (nestedOf I _ _ _ hy ry) ok dn (nkeys I rel hk) (by rw [← ek]; exact hno) (by omega) fun h' tk dn' sb => ?_
  have hn' : ((kvs ++ [(k, y, z)]).map (·.1)).Nodup := by
    rw [List.map_append, List.nodup_append]
    refine ⟨hn, by simp, fun a ha b hb e => hno ?_⟩
    have hb' : b = k := by simpa using hb
    rw [← hb', ← e]; exact ha
  refine ⟨_, d_write (t' := tk) I (by rw [hD]; exact True.intro) sb ?_ (obj_N nm (by simp; omega) hn' (Paired.snoc rel ⟨rfl, ry, rz⟩) dn'), nx⟩
  obtain ⟨o, _, _, e, _⟩ := dn'
  exact ⟨o, e⟩
theorem empty_N {P : Program} {w : World} (H : Hp) (h : Heap) (hb : sysModules < h.objs.size) : ObjOk P w H (h.push { cls := .type "dict", data := .dict #[] }) h.objs.size (dN w h.objs.size []) := by
  have nm : (h.objs.size == sysModules) = false := beq_eq_false_iff_ne.mpr (Nat.ne_of_gt hb)
  exact obj_N nm (Nat.zero_le _) List.nodup_nil .nil ⟨_, #[], 0, Heap.get?_push_size _ rfl, ⟨rfl, rfl, rfl⟩, rfl, rfl, List.nodup_nil⟩
end FW
end T_WN6

section T_D0
set_option Elab.async false
set_option linter.all false
set_option maxRecDepth 100000
/-! The walk: what the defs share. -/
namespace FD
open PySem PySem.Spec L2 FF FW PyProof.Rows
def topS (i : Nat) : Stmt := PySem.Challenge.pw_fivefault_k13_whole_goals_have_a_derivat.main.body.getD i (.Pass ⟨0, 0, 0, 0⟩)
/-! ### a def that may be called -/
section
variable (P : Program) (w : World) (K : PySem.W.Frag) (mg : Str → Option Value) (base : Heap)
/-- x is the name of a def that keeps the promise -/
def Fn (k : Nat) (x : Str) (ps : List Str) (sp : Sp) : Prop :=
  ∃ f fd, FnOk P w K mg base CX0 k f fd ps sp ∧ Binds K fd ps [] ∧ PySem.W.keepIn K (.ref f) = true ∧ mg x = some (.ref f)
/-- x is the name of the def st -/
def Df (x : Str) (st : Stmt) (ps : List Str) : Prop := ∃ f fd, Fun K x x st f fd ∧ Binds K fd ps [] ∧ mg x = some (.ref f)
end
section
variable {P : Program} {w : World} {K : PySem.W.Frag} {mg : Str → Option Value} {base : Heap}
theorem Df.ok {x : Str} {st : Stmt} {N ps : List Str} {k : Nat} {sp : Sp} (D : Df K mg x st ps) (S : FnScope N ps (defScope st)) (len : ∀ vs H Q E, sp vs H Q E → vs.length = ps.length)
    (hbody : ∀ (f : Addr) (cdv : Value) (A : Around) (outer : List Env) (s : Shared) (H : Hp) (vs : List V) (Q : VK) (E : XK), Room k (A.deeper (envOfC x (defScope st) s.heap.objs.size f cdv)) → sp vs H Q E →
      ∃ t, PSs (cxOf CX0 P w K mg base N x (defScope st) f cdv A outer s H E).nox (defBody st) t ∧ t { nx := fun _ H' => Q .non H', rt := Q } (start N vs) H) : Fn P w K mg base (k + 1) x ps sp := by
  obtain ⟨f, fd, F, b, m⟩ := D
  exact ⟨f, fd, F.ok S len (hbody f), b, F.kp, m⟩
theorem Fn.mono {j k : Nat} {x : Str} {ps : List Str} {sp : Sp} (F : Fn P w K mg base j x ps sp) (h : j ≤ k) : Fn P w K mg base k x ps sp := by
  obtain ⟨f, fd, F, b, kp, m⟩ := F
  exact ⟨f, fd, F.mono h, b, kp, m⟩
theorem Fn.imp {k : Nat} {x : Str} {ps : List Str} {sp sp' : Sp} (F : Fn P w K mg base k x ps sp) (h : ∀ vs H Q E, sp' vs H Q E → sp vs H Q E) : Fn P w K mg base k x ps sp' := by
  obtain ⟨f, fd, F, b, kp, m⟩ := F
  exact ⟨f, fd, F.imp h, b, kp, m⟩
/-- nothing is asked: nothing is promised -/
theorem Df.none {x : Str} {st : Stmt} {ps : List Str} {k : Nat} {sp : Sp} (D : Df K mg x st ps) (no : ∀ vs H Q E, ¬ sp vs H Q E) : Fn P w K mg base k x ps sp := by
  obtain ⟨f, fd, F, b, m⟩ := D
  exact ⟨f, fd, ⟨fun vs H Q E h => absurd h (no vs H Q E), fun A outer s H args us vs Q E _ _ _ _ h => absurd h (no vs H Q E)⟩, b, F.kp, m⟩
end
section
variable {X : Cx} {k : Nat} {ps : List Str} {sp : Sp} {x : Str} {p pos : Pos} {e : Expr} {es : List Expr} {t : TA}
def tFn (sp : Sp) (t : TA) : TE := fun σ H Q => t σ H fun vs H1 => sp (vs ++ []) H1 Q E0
theorem pe_fn (F : Fn X.prog X.w X.K X.mg X.base k x ps sp) (hr : Room k X.A) (hg : Gl X x) (ha : PA X (e :: es) t) (hdb : (x == ("__debug__" : Str)) = false := by decide)
    (he : starEach (e :: es) X.env = (false, eval e X.env) :: starEach es X.env := by rfl) (hpl : (backTo pos (starEach es X.env)).any (·.1) = false := by rfl) :
    PE X (.Call (.Name x p) (e :: es) [] pos) (tFn sp t) := by
  obtain ⟨f, fd, F, b, kp, m⟩ := F
  exact pe_call F hr hg m kp b .nil pass0 ha hdb he hpl
end
/-! the same with defaults -/
def FnD (P : Program) (w : World) (K : PySem.W.Frag) (mg : Str → Option Value) (base : Heap) (k : Nat) (x : Str) (ps : List Str) (dvs : List V) (sp : Sp) : Prop :=
  ∃ f fd ds, FnOk P w K mg base CX0 k f fd ps sp ∧ Vals dvs ds ∧ Binds K fd ps ds ∧ PySem.W.keepIn K (.ref f) = true ∧ mg x = some (.ref f)
def tFnD (sp : Sp) (dvs : List V) (t : TA) : TE := fun σ H Q => t σ H fun vs H1 => sp (vs ++ dvs) H1 Q E0
section
variable {X : Cx} {k : Nat} {ps : List Str} {sp : Sp} {x : Str} {p pos : Pos} {e : Expr} {es : List Expr} {t : TA}
theorem FnD.mono {P : Program} {w : World} {K : PySem.W.Frag} {mg : Str → Option Value} {base : Heap} {j k : Nat} {dvs : List V} (F : FnD P w K mg base j x ps dvs sp) (h : j ≤ k) : FnD P w K mg base k x ps dvs sp := by
  obtain ⟨f, fd, ds, F, r⟩ := F
  exact ⟨f, fd, ds, F.mono h, r⟩
theorem pe_fnD {dvs : List V} (F : FnD X.prog X.w X.K X.mg X.base k x ps dvs sp) (hr : Room k X.A) (hg : Gl X x) (ha : PA X (e :: es) t) (hdb : (x == ("__debug__" : Str)) = false := by decide)
    (he : starEach (e :: es) X.env = (false, eval e X.env) :: starEach es X.env := by rfl) (hpl : (backTo pos (starEach es X.env)).any (·.1) = false := by rfl) :
    PE X (.Call (.Name x p) (e :: es) [] pos) (tFnD sp dvs t) := by
  obtain ⟨f, fd, ds, F, hd, b, kp, m⟩ := F
  exact pe_call F hr hg m kp b hd pass0 ha hdb he hpl
end
/-! ### built-ins -/
structure Bi (mg : Str → Option Value) : Prop where
  len : mg "len" = none
  isi : mg "isinstance" = none
  str : mg "str" = none
  int : mg "int" = none
  bool : mg "bool" = none
  tup : mg "tuple" = none
  lst : mg "list" = none
  dict : mg "dict" = none
  sum : mg "sum" = none
  all : mg "all" = none
  range : mg "range" = none
  enum : mg "enumerate" = none
  sorted : mg "sorted" = none
/-! ### isinstance of data -/
def tyN : PyData → String
  | .none => "NoneType"
  | .bool _ => "bool"
  | .int _ => "int"
  | .str _ => "str"
  | .list _ => "list"
  | .tuple _ => "tuple"
  | .dict _ => "dict"
theorem ty_tup {K : PySem.W.Frag} {H : Hp} {a : Addr} {xs : List V} (h : SqT K H a xs) : TyX K H (.ref a) (.type "tuple") := by
  rcases h with (h | ⟨o, h⟩) | ⟨o, its, n, h, hc, _⟩
  · exact .base (.tup h)
  · exact .fTuple h
  · exact .kTuple h hc
theorem ty_lst {K : PySem.W.Frag} {H : Hp} {a : Addr} {xs : List V} (h : SqL K H a xs) : TyX K H (.ref a) (.type "list") := by
  rcases h with (h | ⟨o, h⟩) | ⟨o, its, n, h, hc, _⟩
  · exact .base (.lst h)
  · exact .base (.frz h)
  · exact .kList h hc
theorem ty_data {K : PySem.W.Frag} {H : Hp} {v : V} {d : PyData} (h : Dp K H v d) : TyX K H v (.type (tyN d)) := by
  cases h with
  | non => exact .base .non
  | bl b => exact .base (.bl b)
  | int i => exact .base (.int i)
  | str x => exact .base (.str x)
  | lst h _ => exact ty_lst h
  | tup h _ => exact ty_tup h
/-- isinstance(e, T) -/
def rIsD (K : PySem.W.Frag) : List V → Hp → VK → Prop := fun xs H Q => ∃ x T d b, xs = [x, .ty T] ∧ Dp K H x d ∧ kitB (tyN d) T = some b ∧ Q (.bl b) H
theorem call_isD (K : PySem.W.Frag) {X : Cx} (hK : X.K = K := by rfl) : CallR X (.builtin "isinstance") (rIsD K) := by
  subst hK
  intro pins s σ H xs us Q I r ⟨x, T, d, b, e, hd, hk, q⟩
  exact call_isi pins s σ H xs us Q I r ⟨x, .ty T, .type (tyN d), .type T, b, e, .ty T, ty_data hd, kit_ty hk, q⟩
section
variable (K : PySem.W.Frag) {X : Cx} {tg l : Expr} {tl : TE} {es : List Expr} {k : Nat} {t : TGs} {pos : Pos}
theorem pi_listK (h : PE X l tl) (hK : X.K = K := by rfl) : PI X tg l (iList K tl) := by subst hK; exact pi_list h
theorem pi_tupK (h : PE X l tl) (hK : X.K = K := by rfl) : PI X tg l (iTup K tl) := by subst hK; exact pi_tup h
theorem pg_tupK (n : Nat) (hc : X.calm = true) (h : PGs X es t) (hK : X.K = K := by rfl) (hn : (assignEach es X.env).length = n := by rfl) (hst : (assignEach es X.env).findIdx? (·.1) = none := by rfl) : PG X (.Tuple es k pos) (gTup K n t) := by
  subst hK; exact pg_tup hc h hn hst
theorem sl_tupK (hK : X.K = K := by rfl) : SlR X (rSlT K) := by subst hK; exact sl_tup
theorem sl_listK (hK : X.K = K := by rfl) : SlR X (rSlL K) := by subst hK; exact sl_list
theorem op_eqPK (hu : X.A.units + 64 < cLine) (hK : X.K = K := by rfl) : OpR X (compareOp .Eq) (rEqP K) := by subst hK; exact op_eqP hu
theorem op_inPK (hu : X.A.units + 64 < cLine) (hK : X.K = K := by rfl) : OpR X (compareOp .In) (rInP K) := by subst hK; exact op_inP hu
theorem op_notInPK (hu : X.A.units + 64 < cLine) (hK : X.K = K := by rfl) : OpR X (compareOp .NotIn) (rNotInP K) := by subst hK; exact op_notInP hu
end
theorem b_len : bootBuiltins "len" = some (.builtin "len") := PySem.boot_len
theorem b_isi : bootBuiltins "isinstance" = some (.builtin "isinstance") := PyProof.Rows.boot_isinstance
theorem b_sum : bootBuiltins "sum" = some (.builtin "sum") := PyProof.Rows.boot_sum
theorem b_all : bootBuiltins "all" = some (.builtin "all") := PyProof.Rows.boot_all
theorem b_sorted : bootBuiltins "sorted" = some (.builtin "sorted") := PyProof.Rows.boot_sorted
theorem b_enum : bootBuiltins "enumerate" = some (.type "enumerate") := PyProof.Rows.boot_enumerate
theorem b_range : bootBuiltins "range" = some (.type "range") := PyProof.Rows.boot_range
theorem b_str : bootBuiltins "str" = some (.type "str") := by decide +kernel
theorem b_int : bootBuiltins "int" = some (.type "int") := by decide +kernel
theorem b_bool : bootBuiltins "bool" = some (.type "bool") := by decide +kernel
theorem b_tup : bootBuiltins "tuple" = some (.type "tuple") := by decide +kernel
theorem b_lst : bootBuiltins "list" = some (.type "list") := by decide +kernel
theorem b_dict : bootBuiltins "dict" = some (.type "dict") := by decide +kernel
theorem k_ss : kitB "str" "str" = some true := by decide +kernel
theorem k_ts : kitB "tuple" "str" = some false := by decide +kernel
theorem k_st : kitB "str" "tuple" = some false := by decide +kernel
theorem k_tt : kitB "tuple" "tuple" = some true := by decide +kernel
theorem k_ll : kitB "list" "list" = some true := by decide +kernel
theorem k_ii : kitB "int" "int" = some true := by decide +kernel
theorem k_ib : kitB "int" "bool" = some false := by decide +kernel
/-! ### t[1:] -/
theorem cut_tail (y : V) (ys : List V) : cutV (y :: ys) (some 1) none = ys := by
  unfold cutV
  rw [HT.sIx_none, show HT.sIx (y :: ys).length 0 (some 1) = 1 from by rw [show (1 : Int) = ((1 : Nat) : Int) from rfl, HT.sIx_nat]; simp]
  simp
theorem tail_ne (y : V) (ys : List V) : ¬ (HT.sIx (y :: ys).length 0 (some 1) = 0 ∧ HT.sIx (y :: ys).length (y :: ys).length none = (y :: ys).length) := by
  rw [show HT.sIx (y :: ys).length 0 (some 1) = 1 from by rw [show (1 : Int) = ((1 : Nat) : Int) from rfl, HT.sIx_nat]; simp]
  exact fun h => absurd h.1 (by decide)
/-! ### comprehensions that make data -/
/-- the turns of a source that stands: n of them, the i-th yields what P says -/
def Src (J : It) (H0 : Hp) (n : Nat) (Pt : Nat → V → Hp → Prop) : Prop :=
  ∀ i H, Same H0 H → (i < n → J.go i H ∧ ∀ x H', J.yld i H x H' → Same H H' ∧ (∀ b, H b ≠ none → H' b = H b) ∧ Pt i x H') ∧ (i = n → J.stop i H)
theorem src_list {K : PySem.W.Frag} {a : Addr} {xs : List V} {H0 : Hp} (h : SqL K H0 a xs) : Src (Itl K a) H0 xs.length fun i x _ => xs[i]? = some x := by
  intro i H s
  have q := s.seq h
  refine ⟨fun hi => ⟨⟨xs, xs[i], q, by simp [hi]⟩, fun x H' y => ?_⟩, fun e => ⟨xs, q, Nat.le_of_eq e.symm⟩⟩
  obtain ⟨e, y⟩ := y
  subst e
  exact ⟨Same.refl _, fun _ _ => rfl, y xs q⟩
theorem src_tup {K : PySem.W.Frag} {a : Addr} {xs : List V} {H0 : Hp} (h : SqT K H0 a xs) : Src (Itt K a) H0 xs.length fun i x _ => xs[i]? = some x := by
  intro i H s
  have q := SqT.same s h
  refine ⟨fun hi => ⟨⟨xs, xs[i], q, by simp [hi]⟩, fun x H' y => ?_⟩, fun e => ⟨xs, q, Nat.le_of_eq e.symm⟩⟩
  obtain ⟨e, y⟩ := y
  subst e
  exact ⟨Same.refl _, fun _ _ => rfl, y xs q⟩
theorem src_range {H0 : Hp} {n : Nat} : Src (Itr 0 n) H0 n fun i x _ => x = .int (i : Nat) := by
  intro i H s
  refine ⟨fun hi => ⟨hi, fun x H' y => ?_⟩, fun e => Nat.le_of_eq e.symm⟩
  obtain ⟨e, y⟩ := y
  subst e
  exact ⟨Same.refl _, fun _ _ => rfl, by rw [y]; simp⟩
theorem src_enum {K : PySem.W.Frag} {a : Addr} {xs : List V} {H0 : Hp} (h : SqL K H0 a xs) : Src (Ite K a) H0 xs.length fun i v H' => ∃ T x, v = .ref T ∧ xs[i]? = some x ∧ H' T = some (.tup [.int (i : Nat), x]) := by
  intro i H s
  have q := s.seq h
  refine ⟨fun hi => ⟨⟨xs, xs[i], q, by simp [hi]⟩, fun x H' y => ?_⟩, fun e => ⟨xs, q, Nat.le_of_eq e.symm⟩⟩
  obtain ⟨T, z, rfl, hT, rfl, y⟩ := y
  exact ⟨same_upd hT, fun b hb => upd_ne (fun e => hb (by rw [e]; exact hT)), T, z, rfl, y xs q, upd_same⟩
variable {K : PySem.W.Frag}
/-- a list of data is made -/
theorem lcG {J : It} {g : TG} {tt : TT} {te : TE} {vs : List Nat} {σ : L2.St} {H0 : Hp} {D : Addr} {Qd : Hp → Prop} {n : Nat} {Pt : Nat → V → Hp → Prop} (nD : H0 D = none) (src : Src J H0 n Pt) (ds : Nat → List PyData) (e0 : ds 0 = []) (hf : ∀ i, i ≤ n → flats (ds i) = true ∧ (ds i).length < sizeLine)
    (hs : ∀ i x H (F : V → Hp → Prop) (G : Hp → Prop), i < n → Same H0 H → H D ≠ none → Pt i x H → (∀ y H' d, Same H H' → Dp K H' y d → ds (i + 1) = ds i ++ [d] → F y H') → (∀ H', Same H H' → ds (i + 1) = ds i → G H') →
      g x (wipe σ vs) H fun σ2 H2 => wipe σ2 vs = wipe σ vs ∧ tt σ2 H2 fun b H3 => if b = true then te σ2 H3 F else G H3)
    (hd : ∀ H vs, Same H0 H → H D = some (.lst vs) → DpAll K H vs (ds n) → Qd H) :
    ∃ W : Nat → Nat → Hp → Prop, (∃ m, W 0 m (upd H0 D (.lst []))) ∧ ∀ i m H, W i m H →
      (J.stop i H ∧ Qd H) ∨ (J.go i H ∧ ∃ Nx : Hp → Prop, (∀ H', Nx H' → ∃ m', m' < m ∧ W (i + 1) m' H') ∧ ∀ x H', J.yld i H x H' → g x (wipe σ vs) H' fun σ2 H2 => wipe σ2 vs = wipe σ vs ∧ tt σ2 H2 fun b H3 =>
        if b = true then te σ2 H3 fun y H4 => ∃ acc, H4 D = some (.lst acc) ∧ acc.length < sizeLine ∧ Nx (upd H4 D (.lst (acc ++ [y]))) else Nx H3) := by
  refine ⟨fun i m H => m = n - i ∧ i ≤ n ∧ Same H0 H ∧ ∃ vs, H D = some (.lst vs) ∧ DpAll K H vs (ds i), ⟨n, by simp, Nat.zero_le _, same_upd nD, [], upd_same, by rw [e0]; exact .nil⟩, ?_⟩
  rintro i m H ⟨rfl, hi, s0, acc, hD, ha⟩
  by_cases hlt : i < n
  · obtain ⟨go, yl⟩ := (src i H s0).1 hlt
    refine .inr ⟨go, fun H' => n - (i + 1) = n - (i + 1) ∧ i + 1 ≤ n ∧ Same H0 H' ∧ ∃ vs, H' D = some (.lst vs) ∧ DpAll K H' vs (ds (i + 1)), fun H' q => ⟨n - (i + 1), by omega, q⟩, fun x H' y => ?_⟩
    obtain ⟨s1, k1, pt⟩ := yl x H' y
    refine hs i x H' _ _ hlt (s0.trans s1) (by rw [s1 _ _ hD]; simp) pt (fun y H4 d s2 hy e => ?_) (fun H4 s2 e => ?_)
    · have hD4 := s2 _ _ (s1 _ _ hD)
      have la := DpAll.length ha
      refine ⟨acc, hD4, by rw [la]; exact (hf i hi).2, rfl, hlt, fun b o hb => ?_, acc ++ [y], upd_same, ?_⟩
      · rw [upd_ne (ne_of_none hb nD)]
        exact s2 _ _ (s1 _ _ (s0 _ _ hb))
      · have ff := (hf (i + 1) hlt).1
        refine DpAll.ts (TS.upd hD4 trivial) _ _ ff ?_
        rw [e]
        exact DpAll.snoc (DpAll.same (s1.trans s2) _ _ ha) hy
    · exact ⟨rfl, hlt, (s0.trans s1).trans s2, acc, s2 _ _ (s1 _ _ hD), by rw [e]; exact DpAll.same (s1.trans s2) _ _ ha⟩
  · have e : i = n := by omega
    subst e
    exact .inl ⟨(src _ H s0).2 rfl, hd H acc s0 hD ha⟩
/-- a list of known values is made -/
theorem lcB {J : It} {g : TG} {tt : TT} {te : TE} {vs : List Nat} {σ : L2.St} {H0 : Hp} {D : Addr} {Qd : Hp → Prop} {n : Nat} {Pt : Nat → V → Hp → Prop} (nD : H0 D = none) (src : Src J H0 n Pt) (ds : Nat → List V) (e0 : ds 0 = []) (hf : ∀ i, i ≤ n → (ds i).length < sizeLine)
    (hs : ∀ i x H (F : V → Hp → Prop) (G : Hp → Prop), i < n → Same H0 H → H D ≠ none → Pt i x H → (∀ y H', Same H H' → ds (i + 1) = ds i ++ [y] → F y H') → (∀ H', Same H H' → ds (i + 1) = ds i → G H') →
      g x (wipe σ vs) H fun σ2 H2 => wipe σ2 vs = wipe σ vs ∧ tt σ2 H2 fun b H3 => if b = true then te σ2 H3 F else G H3)
    (hd : ∀ H, Same H0 H → H D = some (.lst (ds n)) → Qd H) :
    ∃ W : Nat → Nat → Hp → Prop, (∃ m, W 0 m (upd H0 D (.lst []))) ∧ ∀ i m H, W i m H →
      (J.stop i H ∧ Qd H) ∨ (J.go i H ∧ ∃ Nx : Hp → Prop, (∀ H', Nx H' → ∃ m', m' < m ∧ W (i + 1) m' H') ∧ ∀ x H', J.yld i H x H' → g x (wipe σ vs) H' fun σ2 H2 => wipe σ2 vs = wipe σ vs ∧ tt σ2 H2 fun b H3 =>
        if b = true then te σ2 H3 fun y H4 => ∃ acc, H4 D = some (.lst acc) ∧ acc.length < sizeLine ∧ Nx (upd H4 D (.lst (acc ++ [y]))) else Nx H3) := by
  refine ⟨fun i m H => m = n - i ∧ i ≤ n ∧ Same H0 H ∧ H D = some (.lst (ds i)), ⟨n, by simp, Nat.zero_le _, same_upd nD, by rw [e0]; exact upd_same⟩, ?_⟩
  rintro i m H ⟨rfl, hi, s0, hD⟩
  by_cases hlt : i < n
  · obtain ⟨go, yl⟩ := (src i H s0).1 hlt
    refine .inr ⟨go, fun H' => n - (i + 1) = n - (i + 1) ∧ i + 1 ≤ n ∧ Same H0 H' ∧ H' D = some (.lst (ds (i + 1))), fun H' q => ⟨n - (i + 1), by omega, q⟩, fun x H' y => ?_⟩
    obtain ⟨s1, k1, pt⟩ := yl x H' y
    refine hs i x H' _ _ hlt (s0.trans s1) (by rw [s1 _ _ hD]; simp) pt (fun y H4 s2 e => ?_) (fun H4 s2 e => ?_)
    · have hD4 := s2 _ _ (s1 _ _ hD)
      refine ⟨ds i, hD4, hf i hi, rfl, hlt, fun b o hb => ?_, by rw [e]; exact upd_same⟩
      rw [upd_ne (ne_of_none hb nD)]
      exact s2 _ _ (s1 _ _ (s0 _ _ hb))
    · exact ⟨rfl, hlt, (s0.trans s1).trans s2, by rw [e]; exact s2 _ _ (s1 _ _ hD)⟩
  · have e : i = n := by omega
    subst e
    exact .inl ⟨(src _ H s0).2 rfl, hd H s0 hD⟩
section
variable {X : Cx}
theorem pe_dcG2 {kx vx tg iter tg1 iter1 : Expr} {ifs ifs1 : List Expr} {scope : Scope} {own : List (Str × Nat)} {us : List Nat} {pos : Pos} {wi wi1 : TI} {g g1 : TG} {tt tt1 : TT} {tk tv : TE} {o0 : Addr → HO} {st : TSt}
    (hempty : ∀ (H : Hp) (h : Heap), sysModules < h.objs.size → ObjOk X.prog X.w H (h.push { cls := .type "dict", data := .dict #[] }) h.objs.size (o0 h.objs.size)) (hS : StoreOk X.prog X.w X.K X.A st)
    (hc : X.calm = true) (hN : X.N.Nodup) (hi : PI X tg iter wi) (ok : BlkOk X.N X.env.scope scope own) (hu : ∀ i ∈ us, i ∈ own.map (·.2))
    (hg : blkP X scope fun Y => PG Y tg g) (ht : blkP X scope fun Y => PTs Y ifs tt) (hi1 : blkP X scope fun Y => PI Y tg1 iter1 wi1) (hg1 : blkP X scope fun Y => PG Y tg1 g1) (ht1 : blkP X scope fun Y => PTs Y ifs1 tt1)
    (hk : blkP X scope fun Y => PE Y kx tk) (he : blkP X scope fun Y => PE Y vx tv) (hs : ∀ x, foldedSetIterable iter X.env x = pure x := by intro _; rfl) (hs1 : ∀ env x, foldedSetIterable iter1 env x = pure x := by intro _ _; rfl) :
    PE X (.DictComp kx vx [⟨tg, iter, ifs, 0⟩, ⟨tg1, iter1, ifs1, 0⟩] scope pos) (tDcG2 o0 st wi g tt wi1 g1 tt1 tk tv (own.map (·.2)) us) := by
  refine ⟨fun pins s σ H Q I h => ?_⟩
  rw [arm_eval_DictComp]
  refine coreG2 hc hN I hi ok hu hempty hS hg ht hi1 hg1 ht1 hk he hs hs1 h fun D C s' m H' I' q hn f => ⟨m, hn, fun h'' sb => ?_⟩
  obtain ⟨f0, f1, f2, f3, f4, f5⟩ := f
  exact ⟨.ref D, H', I'.turned (t' := s'.toks) (fun b o hb e => (sb.2 b hb).trans e) f0 f1 f3 f4 f5, rfl, q⟩
end
/-! ### loops -/
theorem forS {J : It} {g : TG} {tb : L2.TS} {D : Ends} {σ : L2.St} {H : Hp} (n : Nat) (Pt : Nat → V → Hp → Hp → Prop) (Pv : Nat → L2.St → Hp → Prop) (h0 : Pv 0 σ H)
    (src : ∀ i σ H, i ≤ n → Pv i σ H → (i < n → J.go i H ∧ ∀ x H', J.yld i H x H' → Pt i x H H') ∧ (i = n → J.stop i H))
    (hs : ∀ i x σ H H', i < n → Pv i σ H → Pt i x H H' → g x σ H' fun σ2 H2 => tb { D with nx := Pv (i + 1), ct := Pv (i + 1), bk := D.nx } σ2 H2) (hd : ∀ σ H, Pv n σ H → D.nx σ H) :
    ∃ W : Nat → Nat → L2.St → Hp → Prop, (∃ m, W 0 m σ H) ∧ ∀ i m σ H, W i m σ H →
      (J.stop i H ∧ D.nx σ H) ∨ (J.go i H ∧ ∃ N : L2.St → Hp → Prop, (∀ σ' H', N σ' H' → ∃ m', m' < m ∧ W (i + 1) m' σ' H') ∧ ∀ x H', J.yld i H x H' → g x σ H' fun σ2 H2 => tb { D with nx := N, ct := N, bk := D.nx } σ2 H2) := by
  refine ⟨fun i m σ H => m = n - i ∧ i ≤ n ∧ Pv i σ H, ⟨n, by simp, Nat.zero_le _, h0⟩, ?_⟩
  rintro i m σ H ⟨rfl, hi, p⟩
  by_cases hlt : i < n
  · obtain ⟨go, yl⟩ := (src i σ H hi p).1 hlt
    exact .inr ⟨go, Pv (i + 1), fun σ' H' p' => ⟨n - (i + 1), by omega, rfl, hlt, p'⟩, fun x H' y => hs i x σ H H' hlt p (yl x H' y)⟩
  · have e : i = n := by omega
    subst e
    exact .inl ⟨(src _ σ H (Nat.le_refl _) p).2 rfl, hd σ H p⟩
theorem srcL {K : PySem.W.Frag} {a : Addr} {xs : List V} {H : Hp} {i : Nat} (q : SqL K H a xs) : (i < xs.length → (Itl K a).go i H ∧ ∀ x H', (Itl K a).yld i H x H' → H' = H ∧ xs[i]? = some x) ∧ (i = xs.length → (Itl K a).stop i H) :=
  ⟨fun hi => ⟨⟨xs, xs[i], q, by simp [hi]⟩, fun x H' y => ⟨y.1, y.2 xs q⟩⟩, fun e => ⟨xs, q, Nat.le_of_eq e.symm⟩⟩
theorem srcE {K : PySem.W.Frag} {a : Addr} {xs : List V} {H : Hp} {i : Nat} (q : SqL K H a xs) : (i < xs.length → (Ite K a).go i H ∧ ∀ v H', (Ite K a).yld i H v H' → ∃ T x, v = .ref T ∧ H T = none ∧ H' = upd H T (.tup [.int (i : Nat), x]) ∧ xs[i]? = some x) ∧ (i = xs.length → (Ite K a).stop i H) :=
  ⟨fun hi => ⟨⟨xs, xs[i], q, by simp [hi]⟩, fun x H' y => by obtain ⟨T, z, e1, e2, e3, y⟩ := y; exact ⟨T, z, e1, e2, e3, y xs q⟩⟩, fun e => ⟨xs, q, Nat.le_of_eq e.symm⟩⟩
/-! ### comprehensions that make whatever -/
theorem pairedMap {α β : Type} {F G : α → β → Prop} {l : List α} {m : List β} (h : PySem.Paired F l m) (k : ∀ a b, F a b → G a b) : PySem.Paired G l m := L2.Paired.mapP h k
/-- a list of items, each as R says -/
theorem lcR {J : It} {g : TG} {tt : TT} {te : TE} {vs : List Nat} {σ : L2.St} {H0 : Hp} {D : Addr} {Qd : Hp → Prop} {n : Nat} {Pt : Nat → V → Hp → Prop} {α : Type} {R : Hp → V → α → Prop} (nD : H0 D = none) (src : Src J H0 n Pt) (ds : Nat → List α) (e0 : ds 0 = []) (hf : ∀ i, i ≤ n → (ds i).length < sizeLine)
    (hR : ∀ H H' v a, (∀ b o, H b = some o → b ≠ D → H' b = some o) → H D = some (.lst v) → ∀ x, R H x a → R H' x a)
    (hs : ∀ i x H (F : V → Hp → Prop) (G : Hp → Prop), i < n → Same H0 H → H D ≠ none → Pt i x H → (∀ y H' d, Same H H' → R H' y d → ds (i + 1) = ds i ++ [d] → F y H') → (∀ H', Same H H' → ds (i + 1) = ds i → G H') →
      g x (wipe σ vs) H fun σ2 H2 => wipe σ2 vs = wipe σ vs ∧ tt σ2 H2 fun b H3 => if b = true then te σ2 H3 F else G H3)
    (hd : ∀ H vs, Same H0 H → H D = some (.lst vs) → PySem.Paired (R H) vs (ds n) → Qd H) :
    ∃ W : Nat → Nat → Hp → Prop, (∃ m, W 0 m (upd H0 D (.lst []))) ∧ ∀ i m H, W i m H →
      (J.stop i H ∧ Qd H) ∨ (J.go i H ∧ ∃ Nx : Hp → Prop, (∀ H', Nx H' → ∃ m', m' < m ∧ W (i + 1) m' H') ∧ ∀ x H', J.yld i H x H' → g x (wipe σ vs) H' fun σ2 H2 => wipe σ2 vs = wipe σ vs ∧ tt σ2 H2 fun b H3 =>
        if b = true then te σ2 H3 fun y H4 => ∃ acc, H4 D = some (.lst acc) ∧ acc.length < sizeLine ∧ Nx (upd H4 D (.lst (acc ++ [y]))) else Nx H3) := by
  refine ⟨fun i m H => m = n - i ∧ i ≤ n ∧ Same H0 H ∧ ∃ vs, H D = some (.lst vs) ∧ PySem.Paired (R H) vs (ds i), ⟨n, by simp, Nat.zero_le _, same_upd nD, [], upd_same, by rw [e0]; exact .nil⟩, ?_⟩
  rintro i m H ⟨rfl, hi, s0, acc, hD, ha⟩
  by_cases hlt : i < n
  · obtain ⟨go, yl⟩ := (src i H s0).1 hlt
    refine .inr ⟨go, fun H' => n - (i + 1) = n - (i + 1) ∧ i + 1 ≤ n ∧ Same H0 H' ∧ ∃ vs, H' D = some (.lst vs) ∧ PySem.Paired (R H') vs (ds (i + 1)), fun H' q => ⟨n - (i + 1), by omega, q⟩, fun x H' y => ?_⟩
    obtain ⟨s1, k1, pt⟩ := yl x H' y
    refine hs i x H' _ _ hlt (s0.trans s1) (by rw [s1 _ _ hD]; simp) pt (fun y H4 d s2 hy e => ?_) (fun H4 s2 e => ?_)
    · have hD4 := s2 _ _ (s1 _ _ hD)
      have la := PySem.Paired.length ha
      refine ⟨acc, hD4, by rw [la]; exact hf i hi, rfl, hlt, fun b o hb => ?_, acc ++ [y], upd_same, ?_⟩
      · rw [upd_ne (ne_of_none hb nD)]
        exact s2 _ _ (s1 _ _ (s0 _ _ hb))
      · have k : ∀ b o, H4 b = some o → b ≠ D → (upd H4 D (.lst (acc ++ [y]))) b = some o := fun b o e ne => by rw [upd_ne ne]; exact e
        rw [e]
        refine PySem.Paired.snoc (pairedMap (pairedMap ha fun x a q => hR _ H4 _ a (fun b o e _ => s2 _ _ (s1 _ _ e)) hD x q) fun x a q => hR _ _ _ a k hD4 x q) (hR _ _ _ d k hD4 y hy)
    · exact ⟨rfl, hlt, (s0.trans s1).trans s2, acc, s2 _ _ (s1 _ _ hD), by rw [e]; exact pairedMap ha fun x a q => hR _ H4 _ a (fun b o e _ => s2 _ _ (s1 _ _ e)) hD x q⟩
  · have e : i = n := by omega
    subst e
    exact .inl ⟨(src _ H s0).2 rfl, hd H acc s0 hD ha⟩
section
variable (K : PySem.W.Frag) {X : Cx} {e o i : Expr} {f : Str} {pos : Pos} {ta td ty : TE}
theorem pe_fldK (he : PE X e ta) (hb : attributeBase e f X.env (eval e X.env) = eval e X.env) (hK : X.K = K := by rfl) : PE X (.Attribute e f pos) (tFld K ta f) := by subst hK; exact pe_fld he hb
theorem ix_listK (hK : X.K = K := by rfl) : IxR X (rIxL K) := by subst hK; exact ix_list
theorem ix_tupK (hK : X.K = K := by rfl) : IxR X (rIxT K) := by subst hK; exact ix_tup
theorem pe_ngetK (w : World) (hu : X.A.units + 64 < cLine) (ho : PE X o td) (hi : PE X i ty) (hs : NoSl i := by exact fun _ _ => rfl) (hK : X.K = K := by rfl) (hw : X.w = w := by rfl) : PE X (.Subscript o i pos) (tOp (rIxN K w) td ty) := by
  subst hK hw; exact pe_nget hu ho hi hs
end
section
variable (K : PySem.W.Frag) {X : Cx}
theorem op_inNK (w : World) (hu : X.A.units + 64 < cLine) (hK : X.K = K := by rfl) (hw : X.w = w := by rfl) : OpR X (compareOp .In) (rInN K w) := by subst hK hw; exact op_inN hu
theorem cr_allK (hc : X.calm = true) (hK : X.K = K := by rfl) : CallR X (.builtin "all") (rAll K) := by subst hK; exact cr_all hc
end
end FD
end T_D0

section T_D1
set_option Elab.async false
set_option linter.all false
set_option maxRecDepth 100000
/-! The walk: terms. -/
namespace FD
open PySem L2 FF FW
/-! ### facts of terms -/
theorem sq_leaf {c : Nat} : (strC [c]).cps.toList = [c] := by simp [strC]
theorem one_leaf {c : Nat} : (strC [c]).length = 1 := rfl
theorem letters_list : ("abcdefgh" : Str).cps.toList = [97, 98, 99, 100, 101, 102, 103, 104] := by decide +kernel
theorem letter_in {c : Nat} (h : 97 ≤ c ∧ c < 105) : c ∈ ("abcdefgh" : Str).cps.toList := by
  rw [letters_list]
  have : c = 97 ∨ c = 98 ∨ c = 99 ∨ c = 100 ∨ c = 101 ∨ c = 102 ∨ c = 103 ∨ c = 104 := by omega
  rcases this with h | h | h | h | h | h | h | h <;> subst h <;> decide
theorem dp_node {K : PySem.W.Frag} {H : Hp} {v : V} {op : Bool} {ts : List Tm} (h : TmAt K H v (.node op ts)) : Dp K H v (.tuple (.str (opS op) :: tDs ts)) := by
  rw [← tD_node]; exact h
theorem dp_leaf {K : PySem.W.Frag} {H : Hp} {v : V} {c : Nat} (h : TmAt K H v (.leaf c)) : Dp K H v (.str (strC [c])) := by
  rw [← tD_leaf]; exact h
def isLeaf : Tm → Bool
  | .leaf _ => true
  | _ => false
section
variable {P : Program} {w : World} {K : PySem.W.Frag} {mg : Str → Option Value} {base : Heap}
/-! ### is_letter -/
def spLetter (K : PySem.W.Frag) : Sp := fun vs H Q _ => ∃ v t, vs = [v] ∧ TmAt K H v t ∧ t.WF ∧ Q (.bl (isLeaf t)) H
theorem sc12 : FnScope ["value"] ["value"] (defScope (topS 12)) := ⟨rfl, rfl, rfl, by decide +kernel, rfl, by decide +kernel, by decide +kernel⟩
theorem ok_letter (D : Df K mg "is_letter" (topS 12) ["value"]) (B : Bi mg) {tk : Tok} (mL : mg "LETTERS" = some (.str "abcdefgh" tk)) : Fn P w K mg base 1 "is_letter" ["value"] (spLetter K) := by
  refine D.ok sc12 (fun vs H Q E h => ?_) (fun f cdv A outer s H vs Q E hr h => ?_)
  · obtain ⟨v, t, rfl, _⟩ := h
    rfl
  obtain ⟨v, t, rfl, ht, wf, q⟩ := h
  refine ⟨_, pss_one (ps_ret (pe_and (pe_callB (call_isD K) (by rfl) B.isi b_isi (pa_cons (pv 0) (pa_cons (pe_bltn (v := .ty "str") (by rfl) B.str b_str rfl) pa_nil)))
    (pe_and (pe_cmpR op_eq (pe_callB call_len (by rfl) B.len b_len (pa_cons (pv 0) pa_nil)) pe_int (nomark _))
      (pe_one (pe_cmpR op_in_sign (pv 0) (pe_glob (v := .str "abcdefgh") (by rfl) mL ⟨_, rfl⟩) rfl))))), ?_⟩
  rcases TmAt.cases ht with ⟨c, rfl, rfl⟩ | ⟨op, ts, p, vs, rfl, rfl, hp, ha⟩
  · refine ⟨_, rfl, _, "str", _, _, rfl, .str _, k_ss, _, rfl, iteT ?_⟩
    refine ⟨_, rfl, _, 1, rfl, ⟨by show 1 ≤ sizeLine; decide, rfl⟩, rfl, _, rfl, iteT ?_⟩
    refine ⟨_, rfl, c, _, rfl, rfl, ?_⟩
    rw [decide_eq_true (letter_in wf)]
    exact q
  · refine ⟨_, rfl, _, "str", _, _, rfl, dp_node ht, k_ts, _, rfl, iteF ?_⟩
    exact q
/-! ### measured -/
theorem size_pos : ∀ t : Tm, t.WF → 1 ≤ t.size
  | .leaf _, _ => Nat.le_refl 1
  | .node _ [], w => by simp only [Tm.WF, List.length_nil] at w; omega
  | .node _ (t :: ts), w => by
    simp only [Tm.WF, WFs] at w
    have := size_pos t w.2.1
    simp only [Tm.size, sizes]; omega
theorem depth_pos (t : Tm) : 1 ≤ t.depth := by cases t <;> simp [Tm.depth]
theorem depths_mem {n : Nat} : ∀ {ts : List Tm} {t : Tm}, depths ts ≤ n → t ∈ ts → t.depth ≤ n
  | [], _, _, h => by simp at h
  | u :: us, t, h, m => by
    simp only [depths] at h
    rcases List.mem_cons.mp m with rfl | m
    · omega
    · exact depths_mem (ts := us) (by omega) m
theorem sizes_sum : ∀ ts : List Tm, (ts.map fun t => (t.size : Int)).sum = (sizes ts : Nat)
  | [] => rfl
  | t :: ts => by simp only [List.map_cons, List.sum_cons, sizes, sizes_sum ts]; omega
theorem sizes_mem : ∀ {ts : List Tm} {t : Tm}, t ∈ ts → t.size ≤ sizes ts
  | [], _, h => by simp at h
  | u :: us, t, h => by
    simp only [sizes]
    rcases List.mem_cons.mp h with rfl | h
    · omega
    · have := sizes_mem h; omega
theorem sizes_len : ∀ {ts : List Tm}, WFs ts → ts.length ≤ sizes ts
  | [], _ => Nat.le_refl 0
  | u :: us, h => by
    simp only [WFs] at h
    have h1 := size_pos u h.1
    have h2 := sizes_len h.2
    simp only [sizes, List.length_cons]; omega
theorem take_snoc {α : Type} {l : List α} {i : Nat} {x : α} (h : l[i]? = some x) : l.take (i + 1) = l.take i ++ [x] := by
  rw [List.take_succ, h]; rfl
theorem take_map_snoc {α β : Type} {l : List α} {i : Nat} {x : α} (f : α → β) (h : l[i]? = some x) : (l.take (i + 1)).map f = (l.take i).map f ++ [f x] := by
  rw [take_snoc h, List.map_append]; rfl
theorem small {n : Nat} (h : n ≤ 1000) : n ≤ sizeLine := Nat.le_of_lt (small1000 h)
theorem flat_int (i : Int) : flat (.int i) = true := by simp [flat]
theorem flat_str (s : Str) : flat (.str s) = true := by simp [flat]
theorem sh_int (i : Int) : Sh (.int i) := sh_flat (flat_int i) (by simp [PyData.depth])
theorem sh_str (s : Str) : Sh (.str s) := sh_flat (flat_str s) (by simp [PyData.depth])
theorem plain_ints (ns : List Int) : PyData.plainAll (ns.map PyData.int) = true := flats_plain _ (flats_map flat_int ns)
theorem plain_strs (ns : List Str) : PyData.plainAll (ns.map PyData.str) = true := flats_plain _ (flats_map flat_str ns)
theorem any_iff {ds : List PyData} {d : PyData} (f : flats ds = true) (g : flat d = true) : (ds.any fun z => PyData.eqv z d) = @decide (d ∈ ds) (Classical.propDecidable _) := by
  by_cases h : d ∈ ds
  · rw [(any_eqv f g).mpr h]; exact (@decide_eq_true _ (Classical.propDecidable _) h).symm
  · have : (ds.any fun z => PyData.eqv z d) = false := by
      cases q : (ds.any fun z => PyData.eqv z d) with
      | false => rfl
      | true => exact absurd ((any_eqv f g).mp q) h
    rw [this]; exact (@decide_eq_false _ (Classical.propDecidable _) h).symm
theorem any_yes {ds : List PyData} {d : PyData} (f : flats ds = true) (g : flat d = true) (h : d ∈ ds) : (ds.any fun z => PyData.eqv z d) = true := (any_eqv f g).mpr h
theorem any_no {ds : List PyData} {d : PyData} (f : flats ds = true) (g : flat d = true) (h : d ∉ ds) : (ds.any fun z => PyData.eqv z d) = false := by
  cases q : (ds.any fun z => PyData.eqv z d) with
  | false => rfl
  | true => exact absurd ((any_eqv f g).mp q) h
def opsD : List PyData := [.str "&", .str "|"]
/-- the tuple of the operators -/
def OpsAt (K : PySem.W.Frag) (T : Addr) : Prop := ∀ H, Dp K H (.ref T) (.tuple opsD)
theorem op_known (op : Bool) : (opsD.any fun z => PyData.eqv z (.str (opS op))) = true := by
  refine any_yes (by simp [opsD, flats, flat]) (flat_str _) ?_
  cases op
  · rw [opS_or]; exact List.mem_cons_of_mem _ List.mem_cons_self
  · rw [opS_and]; exact List.mem_cons_self
def spMeas (K : PySem.W.Frag) (n : Nat) : Sp := fun vs H Q _ => ∃ v t m, vs = [v, .int m] ∧ TmAt K H v t ∧ t.WF ∧ t.depth ≤ n ∧ (t.depth : Int) ≤ m ∧ t.size ≤ 1000 ∧ ∀ H', Same H H' → Q (.int t.size) H'
abbrev n13 : List Str := ["value", "max_depth", "sizes", "part"]
theorem sc13 : FnScope n13 ["value", "max_depth"] (defScope (topS 13)) := ⟨rfl, rfl, rfl, by decide +kernel, rfl, by decide +kernel, by decide +kernel⟩
theorem ok_measured (D : Df K mg "measured" (topS 13) ["value", "max_depth"]) (B : Bi mg) (FL : Fn P w K mg base 1 "is_letter" ["value"] (spLetter K)) {T : Addr} (mO : mg "OPERATORS" = some (.ref T)) (hT : OpsAt K T) :
    ∀ n, Fn P w K mg base (n + 1) "measured" ["value", "max_depth"] (spMeas K n)
  | 0 => D.none fun vs H Q E ⟨v, t, m, _, _, _, h, _⟩ => by have := depth_pos t; omega
  | n + 1 => by
    have ih := ok_measured D B FL mO hT n
    refine D.ok sc13 (fun vs H Q E h => ?_) (fun f cdv A outer s H vs Q E hr h => ?_)
    · obtain ⟨v, t, m, rfl, _⟩ := h
      rfl
    obtain ⟨v, t, m, rfl, ht, wf, hd, hm, hz, q⟩ := h
    have hu := hr.units
    have hr1 : Room 1 _ := hr.mono (by omega)
    refine ⟨_, pss_cons (ps_if (pt_val (pe_fn FL hr1 (by rfl) (pa_cons (pv 0) pa_nil))) (pss_one (ps_ret (pe_callTy call_int1 (by rfl) B.int b_int (pa_cons (pe_cmpR op_gt (pv 1) pe_int (nomark _)) pa_nil)))) pss_nil)
      (pss_cons (ps_if (PW.pt (pw_or (pt_cmpR op_lt (pv 1) pe_int (nomark _)) (pw_or (pt_not (pt_val (pe_callB (call_isD K) (by rfl) B.isi b_isi (pa_cons (pv 0) (pa_cons (pe_bltn (v := .ty "tuple") (by rfl) B.tup b_tup rfl) pa_nil)))))
          (pw_or1 (pt_cmpR op_lt (pe_callB call_len (by rfl) B.len b_len (pa_cons (pv 0) pa_nil)) pe_int (nomark _)))))) (pss_one (ps_ret pe_int)) pss_nil)
      (pss_cons (ps_if (PW.pt (pw_or (pt_not (pt_val (pe_callB (call_isD K) (by rfl) B.isi b_isi (pa_cons (pe_ix ix_tup (pv 0) pe_int (fun _ _ => rfl)) (pa_cons (pe_bltn (v := .ty "str") (by rfl) B.str b_str rfl) pa_nil)))))
          (pw_or1 (pt_cmpR (op_notInP hu) (pe_ix ix_tup (pv 0) pe_int (fun _ _ => rfl)) (pe_glob (v := .ref T) (by rfl) mO rfl) (by rfl))))) (pss_one (ps_ret pe_int)) pss_nil)
      (pss_cons (ps_setLc (i := 2) (own := [("part", 3)]) (g := gName 3) (tt := tYes) (by rfl) sc13.nd rfl rfl (sw_true rfl rfl rfl (by decide +kernel)) (pi_tup (pe_slice sl_tup (pv 0) (po_some pe_int) po_none)) (blkOk_by (own := [("part", 3)]) (N := n13) (sc := defScope (topS 13)) (by decide +kernel))
          (fun _ _ _ _ _ => pg_name (i := 3) sc13.nd rfl (Or.inl rfl)) (fun _ _ _ _ _ => pts_nil) (fun _ _ _ _ _ => pe_fn ih hr (by rfl) (pa_cons (pv 3) (pa_cons (pe_op op_sub (pv 1) pe_int) pa_nil))))
      (pss_one (ps_ret (pe_ifExp (pt_cmpR (op_inP hu) pe_int (pv 2) (by rfl)) pe_int (pe_callB (cr_sum rfl) (by rfl) B.sum b_sum (pa_cons (pv 2) pa_nil)))))))), ?_⟩
    refine ⟨_, rfl, v, t, rfl, ht, wf, _, rfl, ?_⟩
    rcases TmAt.cases ht with ⟨c, rfl, rfl⟩ | ⟨op, ts, p, vs, rfl, rfl, hp, ha⟩
    · refine iteT ?_
      refine ⟨_, rfl, _, _, rfl, rfl, .inr ⟨_, rfl, ?_⟩⟩
      rw [decide_eq_true (show m > 0 by have := depth_pos (.leaf c); omega)]
      exact q H (Same.refl _)
    · refine iteF ?_
      have wl : 2 ≤ ts.length ∧ WFs ts := wf
      have hl : vs.length = ts.length := by rw [DpAll.length ha]; simp [tDs]
      have hdt : depths ts + 1 ≤ n + 1 := hd
      have hmt : ((depths ts + 1 : Nat) : Int) ≤ m := hm
      have d2 : 1 ≤ depths ts := by
        cases ts with
        | nil => simp at wl
        | cons u us => simp only [depths]; have := depth_pos u; omega
      refine ⟨_, rfl, _, _, rfl, rfl, _, rfl, ?_⟩
      rw [decide_eq_false (show ¬ m < 2 by omega)]
      refine iteF ⟨_, rfl, _, "tuple", _, _, rfl, dp_node ht, k_tt, _, rfl, iteF ?_⟩
      refine ⟨_, rfl, _, _, rfl, .inr ⟨_, hp, rfl⟩, _, _, rfl, rfl, _, rfl, ?_⟩
      rw [decide_eq_false (show ¬ (((V.str (opS op) :: vs).length : Nat) : Int) < 3 by rw [List.length_cons, hl]; omega)]
      refine iteF ?_
      refine ⟨_, rfl, p, _, _, _, rfl, rfl, hp, atI_nat (j := 0) rfl, _, "str", _, _, rfl, .str _, k_ss, _, rfl, iteF ?_⟩
      refine ⟨_, rfl, p, _, _, _, rfl, rfl, hp, atI_nat (j := 0) rfl, _, _, .str _, .inr (hT _), sh_str _, by simp [opsD, PyData.plainAll, PyData.plain], _, rfl, ?_⟩
      rw [op_known]
      refine iteF ?_
      refine ⟨_, rfl, ⟨1, rfl, p, _, rfl, hp, tail_ne _ _, fun p1 np1 => ?_⟩⟩
      rw [cut_tail]
      have s1 : Same H (upd H p1 (.tup vs)) := same_upd np1
      have hp1 : SqT K (upd H p1 (.tup vs)) p1 vs := SqT.of upd_same
      have sm : sizes ts ≤ 1000 := hz
      have le := sizes_len wl.2
      refine ⟨p1, rfl, ⟨_, hp1⟩, fun Dl nD => ?_⟩
      refine lcB nD (src_tup hp1) (fun i => (ts.take i).map fun t : Tm => V.int (t.size : Nat)) rfl (fun i _ => small1000 (by rw [List.length_map, List.length_take]; omega)) (fun i x H2 F G hi s2 _ hx kF kG => ?_) (fun H2 s2 hD => ?_)
      · have ha2 := DpAll.same (s1.trans s2) _ _ ha
        obtain ⟨d, hd1, hd2⟩ := FW.DpAll.at ha2 hx
        obtain ⟨t, e1, e2⟩ : ∃ t, ts[i]? = some t ∧ tD t = d := by
          rw [tDs, List.getElem?_map] at hd1
          exact Option.map_eq_some_iff.mp hd1
        subst e2
        have mt : t ∈ ts := List.mem_of_getElem? e1
        refine ⟨rfl, ?_⟩
        refine ⟨_, rfl, _, rfl, _, _, rfl, rfl, x, t, _, rfl, hd2, (wfs_iff ts).mp wl.2 t mt, depths_mem (by omega) mt, ?_, ?_, fun H3 s3 => kF _ _ s3 (take_map_snoc _ e1)⟩
        · have := depths_mem (Nat.le_refl _) mt; omega
        · have := sizes_mem mt; omega
      · have el : (ts.take vs.length).map (fun t : Tm => V.int (t.size : Nat)) = (ts.map fun t => (t.size : Int)).map V.int := by
          rw [hl, List.take_length, List.map_map]; rfl
        rw [el] at hD
        have no : ((ts.map fun t => (t.size : Int)).map PyData.int).any (fun z => PyData.eqv z (.int 0)) = false := by
          refine any_no (flats_map flat_int _) (flat_int _) fun hm => ?_
          obtain ⟨i, hi, e⟩ := List.mem_map.mp hm
          obtain ⟨t, ht, rfl⟩ := List.mem_map.mp hi
          have := size_pos t ((wfs_iff ts).mp wl.2 t ht)
          simp only [PyData.int.injEq] at e
          omega
        refine ⟨_, rfl, _, _, .int _, .inl (.lst (SqL.of hD) DpAll.ints), sh_int _, plain_ints _, _, rfl, ?_⟩
        rw [no]
        refine iteF ⟨_, rfl, _, _, rfl, SqL.of hD, ?_⟩
        rw [sizes_sum]
        exact q H2 (s1.trans s2)
/-! ### is_term -/
abbrev kw14 : List (Str × V) := [("max_depth", .int 5), ("max_size", .int 24)]
abbrev p14 : List Str := ["value", "max_depth", "max_size"]
def DfT (K : PySem.W.Frag) (mg : Str → Option Value) : Prop := ∃ f fd, FunD K "is_term" "is_term" (defArgs (topS 14)) (defBody (topS 14)) (defScope (topS 14)) [] kw14 f fd ∧ mg "is_term" = some (.ref f)
theorem bind14 {f : Addr} {fd : FuncData} (F : FunD K "is_term" "is_term" (defArgs (topS 14)) (defBody (topS 14)) (defScope (topS 14)) [] kw14 f fd) : ∃ ds, Vals [V.int 5, V.int 24] ds ∧ Binds K fd p14 ds :=
  F.binds0 (ps := p14) 1 (by simp) rfl fun D doc pm an cdv ct us ks hl hk => match us, ks, hl, hk with
    | [_], [_, _], _, _ => ⟨_, _, _, _, _, _, rfl, rfl, _, _, _, _, _, _, rfl, rfl, rfl⟩
def spTerm (K : PySem.W.Frag) : Sp := fun vs H Q _ => ∃ v t, vs = [v, .int 5, .int 24] ∧ TmAt K H v t ∧ t.WF ∧ t.depth ≤ 5 ∧ t.size ≤ 24 ∧ ∀ H', Same H H' → Q (.bl true) H'
theorem sc14 : FnScope p14 p14 (defScope (topS 14)) := ⟨rfl, rfl, rfl, by decide +kernel, rfl, by decide +kernel, by decide +kernel⟩
theorem ok_term (D : DfT K mg) (FM : Fn P w K mg base 6 "measured" ["value", "max_depth"] (spMeas K 5)) : FnD P w K mg base 7 "is_term" p14 [.int 5, .int 24] (spTerm K) := by
  obtain ⟨f, fd, F, m⟩ := D
  obtain ⟨ds, hd, hb⟩ := bind14 F
  refine ⟨f, fd, ds, ?_, hd, hb, F.kp, m⟩
  refine F.ok sc14 (fun vs H Q E h => ?_) (fun cdv A outer s H vs Q E hr h => ?_)
  · obtain ⟨v, t, rfl, _⟩ := h
    rfl
  obtain ⟨v, t, rfl, ht, wf, hd, hz, q⟩ := h
  refine ⟨_, pss_one (ps_ret (pe_chain op_le op_le pe_int (pe_fn FM hr (by rfl) (pa_cons (pv 0) (pa_cons (pv 1) pa_nil))) (pv 2))), ?_⟩
  refine ⟨_, rfl, _, rfl, v, t, 5, rfl, ht, wf, hd, by omega, by omega, fun H1 s1 => ?_⟩
  refine ⟨_, _, rfl, rfl, _, rfl, ?_⟩
  rw [decide_eq_true (show (1 : Int) ≤ (t.size : Nat) by have := size_pos t wf; omega)]
  refine iteT ⟨_, rfl, _, _, rfl, rfl, ?_⟩
  show Q (.bl (decide (((t.size : Nat) : Int) ≤ 24))) H1
  rw [decide_eq_true (show ((t.size : Nat) : Int) ≤ 24 by omega)]
  exact q H1 s1
/-! ### parts_of -/
def spParts (K : PySem.W.Frag) : Sp := fun vs H Q _ => ∃ v t, vs = [v] ∧ TmAt K H v t ∧ ∀ p ws H', Same H H' → H' p = some (.tup ws) → DpAll K H' ws (tDs t.parts) → Q (.ref p) H'
theorem sc15 : FnScope ["term"] ["term"] (defScope (topS 15)) := ⟨rfl, rfl, rfl, by decide +kernel, rfl, by decide +kernel, by decide +kernel⟩
theorem ok_parts (D : Df K mg "parts_of" (topS 15) ["term"]) (B : Bi mg) : Fn P w K mg base 1 "parts_of" ["term"] (spParts K) := by
  refine D.ok sc15 (fun vs H Q E h => ?_) (fun f cdv A outer s H vs Q E hr h => ?_)
  · obtain ⟨v, t, rfl, _⟩ := h
    rfl
  obtain ⟨v, t, rfl, ht, q⟩ := h
  refine ⟨_, pss_one (ps_ret (pe_ifExp (pt_val (pe_callB (call_isD K) (by rfl) B.isi b_isi (pa_cons (pv 0) (pa_cons (pe_bltn (v := .ty "str") (by rfl) B.str b_str rfl) pa_nil)))) (pe_tup pa_nil) (pe_slice sl_tup (pv 0) (po_some pe_int) po_none))), ?_⟩
  rcases TmAt.cases ht with ⟨c, rfl, rfl⟩ | ⟨op, ts, p, vs, rfl, rfl, hp, ha⟩
  · refine ⟨_, rfl, _, "str", _, _, rfl, .str _, k_ss, _, rfl, iteT ?_⟩
    refine ⟨(by show 0 ≤ sizeLine; decide), fun p np => ?_⟩
    exact q p [] _ (same_upd np) upd_same .nil
  · refine ⟨_, rfl, _, "str", _, _, rfl, dp_node ht, k_ts, _, rfl, iteF ?_⟩
    refine ⟨_, rfl, ⟨1, rfl, p, _, rfl, hp, tail_ne _ _, fun p1 np1 => ?_⟩⟩
    rw [cut_tail]
    exact q p1 vs _ (same_upd np1) upd_same (DpAll.same (same_upd np1) _ _ ha)
/-! ### walked -/
mutual
theorem walk_len : ∀ t : Tm, t.WF → t.walk.length + 1 ≤ 2 * t.size
  | .leaf _, _ => by simp [Tm.walk, Tm.size]
  | .node _ ts, w => by
    have := walks_len ts w.2
    have w1 : 2 ≤ ts.length := w.1
    simp only [Tm.walk, List.length_cons, Tm.size]; omega
theorem walks_len : ∀ ts : List Tm, WFs ts → (walks ts).length + ts.length ≤ 2 * sizes ts
  | [], _ => by simp [walks, sizes]
  | t :: ts, w => by
    simp only [WFs] at w
    have h1 := walk_len t w.1
    have h2 := walks_len ts w.2
    simp only [walks, List.length_append, sizes, List.length_cons]; omega
end
theorem walks_take {ts : List Tm} {i : Nat} {t : Tm} (h : ts[i]? = some t) : walks (ts.take (i + 1)) = walks (ts.take i) ++ t.walk := by
  rw [take_snoc h, walks_eq, walks_eq, List.flatMap_append]; simp
theorem walks_take_len {ts : List Tm} (w : WFs ts) (i : Nat) : (walks (ts.take i)).length ≤ 2 * sizes ts := by
  have e : walks ts = walks (ts.take i) ++ walks (ts.drop i) := by
    rw [walks_eq, walks_eq, walks_eq, ← List.flatMap_append, List.take_append_drop]
  have := walks_len ts w
  rw [e, List.length_append] at this
  omega
theorem tDs_app (a b : List Tm) : tDs (a ++ b) = tDs a ++ tDs b := List.map_append
theorem tDs_get {K : PySem.W.Frag} {H : Hp} {vs : List V} {ts : List Tm} {i : Nat} {x : V} (h : DpAll K H vs (tDs ts)) (e : vs[i]? = some x) : ∃ t, ts[i]? = some t ∧ TmAt K H x t := by
  obtain ⟨d, h1, h2⟩ := FW.DpAll.at h e
  rw [tDs, List.getElem?_map] at h1
  obtain ⟨t, e1, rfl⟩ := Option.map_eq_some_iff.mp h1
  exact ⟨t, e1, h2⟩
def spWalked (K : PySem.W.Frag) (n : Nat) : Sp := fun vs H Q _ => ∃ v t, vs = [v] ∧ TmAt K H v t ∧ t.WF ∧ t.depth ≤ n ∧ t.size ≤ 1000 ∧ ∀ p ws H', Same H H' → H p = none → H' p = some (.lst ws) → DpAll K H' ws (tDs t.walk) → Q (.ref p) H'
abbrev n16 : List Str := ["term", "found", "part"]
theorem sc16 : FnScope n16 ["term"] (defScope (topS 16)) := ⟨rfl, rfl, rfl, by decide +kernel, rfl, by decide +kernel, by decide +kernel⟩
theorem ok_walked (D : Df K mg "walked" (topS 16) ["term"]) (FP : Fn P w K mg base 1 "parts_of" ["term"] (spParts K)) :
    ∀ n, Fn P w K mg base (n + 1) "walked" ["term"] (spWalked K n)
  | 0 => D.none fun vs H Q E ⟨v, t, _, _, _, h, _⟩ => by have := depth_pos t; omega
  | n + 1 => by
    have ih := ok_walked D FP n
    refine D.ok sc16 (fun vs H Q E h => ?_) (fun f cdv A outer s H vs Q E hr h => ?_)
    · obtain ⟨v, t, rfl, _⟩ := h
      rfl
    obtain ⟨v, t, rfl, ht, wf, hd, hz, q⟩ := h
    have hr1 : Room 1 _ := hr.mono (by omega)
    refine ⟨_, pss_cons (ps_set (i := 1) sc16.nd rfl (.inl rfl) (pe_lst (pa_cons (pv 0) pa_nil)))
      (pss_cons (ps_for PassesOwn.never rfl (pi_tup (pe_fn FP hr1 (by rfl) (pa_cons (pv 0) pa_nil))) (pg_name (i := 2) sc16.nd rfl (.inl rfl))
        (pss_one (ps_expr (pe_bm PySem.F.plainAttrs_list PySem.F.slot_list_extend PySem.F.type_list_extend mt_extend (pv 1) (pa_cons (pe_fn ih hr (by rfl) (pa_cons (pv 2) pa_nil)) pa_nil)))))
      (pss_one (ps_ret (pv 1)))), ?_⟩
    refine ⟨_, rfl, (by show 1 ≤ sizeLine; decide), fun l nl => ?_⟩
    have s1 : Same H (upd H l (.lst [v])) := same_upd nl
    have ht1 : TmAt K (upd H l (.lst [v])) v t := Dp.same s1 _ _ ht
    refine ⟨_, rfl, v, t, rfl, ht1, fun p ws H2 s2 hp ha => ?_⟩
    refine ⟨p, rfl, ⟨_, SqT.of hp⟩, for_tup (K := K) (a := p) (xs := ws) (fun i σ H3 => ∃ x acc, σ = [some v, some (.ref l), x] ∧ TS H2 H3 ∧ Same H H3 ∧ H3 l = some (.lst acc) ∧ DpAll K H3 acc (tDs (t :: walks (t.parts.take i))))
      ⟨none, [v], rfl, TS.refl _, s1.trans s2, s2 _ _ upd_same, .cons (Dp.same s2 _ _ ht1) .nil⟩ (fun i σ H3 _ ⟨_, _, _, t3, _⟩ => SqT.ts t3 (SqT.of hp)) ?_ ?_⟩
    · rintro i x σ H3 hx ⟨y, acc, rfl, t3, s3, hl, hac⟩
      have wfs : WFs t.parts := by cases t with
        | leaf c => trivial
        | node op ts => exact wf.2
      have hps : sizes t.parts ≤ 1000 := by cases t with
        | leaf c => exact Nat.zero_le _
        | node op ts => exact hz
      obtain ⟨u, e1, hu⟩ := tDs_get (DpAll.ts t3 _ _ (flats_tDs _) ha) hx
      have mu : u ∈ t.parts := List.mem_of_getElem? e1
      have du : u.depth ≤ n := by cases t with
        | leaf c => simp [Tm.parts] at mu
        | node op ts => exact depths_mem (show depths ts ≤ n from Nat.le_of_succ_le_succ hd) mu
      have zu := sizes_mem mu
      refine ⟨_, rfl, .inl ⟨rfl, _, SqL.of hl⟩, _, rfl, x, u, rfl, hu, (wfs_iff _).mp wfs u mu, du, by omega, fun p2 w2 H4 s4 np2 hp2 ha2 => ?_⟩
      have hl4 := s4 _ _ hl
      have l1 : acc.length = (walks (t.parts.take i)).length + 1 := by rw [DpAll.length hac]; simp [tDs]
      have l2 : w2.length = u.walk.length := by rw [DpAll.length ha2]; simp [tDs]
      have b1 := walks_take_len wfs i
      have b2 := walk_len u ((wfs_iff _).mp wfs u mu)
      refine ⟨l, p2, acc, w2, rfl, rfl, hl4, hp2, Nat.le_trans (show acc.length + w2.length ≤ 10000 by omega) (by show 10000 ≤ sizeLine; decide), ?_⟩
      have t4 : TS H3 (upd H4 l (.lst (acc ++ w2))) := (TS.same s4).trans (TS.upd hl4 trivial)
      refine ⟨_, _, rfl, t3.trans t4, fun b o hb => ?_, upd_same, ?_⟩
      · rw [upd_ne (ne_of_none hb nl)]
        exact s4 _ _ (s3 _ _ hb)
      · rw [walks_take e1, ← List.cons_append, tDs_app]
        exact DpAll.append (DpAll.ts t4 _ _ (flats_tDs _) hac) (DpAll.ts (TS.upd hl4 trivial) _ _ (flats_tDs _) ha2)
    · rintro σ H3 ⟨y, acc, rfl, t3, s3, hl, hac⟩
      have lw : ws.length = t.parts.length := by rw [DpAll.length ha]; simp [tDs]
      refine ⟨_, rfl, q l acc H3 s3 nl hl ?_⟩
      rw [walk_cons]
      rw [lw, List.take_length] at hac
      exact hac
/-! ### text_of -/
theorem strC_app (a b : List Nat) : strC a ++ strC b = strC (a ++ b) := by
  show Str.append (strC a) (strC b) = strC (a ++ b)
  simp [Str.append, strC]
theorem empty_app (a : Str) : Str.empty ++ a = a := by
  show Str.append Str.empty a = a
  simp [Str.append, Str.empty]
theorem strC_len (a : List Nat) : (strC a).length = a.length := by simp [strC, Str.length]
def sepT (op : Bool) : Str := strC [32, opc op, 32]
theorem sp_eq : (" " : Str) = strC [32] := by decide +kernel
theorem lp_eq : ("(" : Str) = strC [40] := by decide +kernel
theorem rp_eq : (")" : Str) = strC [41] := by decide +kernel
theorem join_txt (op : Bool) : ∀ ts : List Tm, Str.join (sepT op) (ts.map fun t => strC t.ptx) = strC (joinT op ts)
  | [] => rfl
  | [t] => by
    show strC t.ptx = strC (t.ptx ++ [])
    rw [List.append_nil]
  | t :: u :: r => by
    show strC t.ptx ++ sepT op ++ Str.join (sepT op) ((u :: r).map fun t => strC t.ptx) = _
    rw [join_txt op (u :: r), sepT, strC_app, strC_app]
    simp [joinT, tailT]
mutual
theorem ptx_len : ∀ t : Tm, t.WF → t.ptx.length + 5 ≤ 6 * t.size
  | .leaf _, _ => by simp [Tm.ptx, Tm.size]
  | .node op ts, w => by
    have w1 : 2 ≤ ts.length := w.1
    have h := joinT_len op ts w.2 (by omega)
    simp only [Tm.ptx, List.length_cons, List.length_append, List.length_nil, Tm.size]; omega
theorem joinT_len (op : Bool) : ∀ ts : List Tm, WFs ts → 1 ≤ ts.length → (joinT op ts).length + 2 * ts.length + 3 ≤ 6 * sizes ts
  | [], _, h => by simp at h
  | t :: ts, w, _ => by
    simp only [WFs] at w
    have h1 := ptx_len t w.1
    have h2 := tailT_len op ts w.2
    simp only [joinT, List.length_append, sizes, List.length_cons]; omega
theorem tailT_len (op : Bool) : ∀ ts : List Tm, WFs ts → (tailT op ts).length + 2 * ts.length ≤ 6 * sizes ts
  | [], _ => by simp [tailT, sizes]
  | t :: ts, w => by
    simp only [WFs] at w
    have h1 := ptx_len t w.1
    have h2 := tailT_len op ts w.2
    simp only [tailT, List.length_append, sizes, List.length_cons]; omega
end
theorem ptx_sum (ts : List Tm) (w : WFs ts) : ((ts.map fun t => strC t.ptx).map (·.length)).sum + ts.length * 5 ≤ 6 * sizes ts := by
  induction ts with
  | nil => simp [sizes]
  | cons t ts ih =>
    simp only [WFs] at w
    have h1 := ptx_len t w.1
    have h2 := ih w.2
    simp only [List.map_cons, List.sum_cons, strC_len, sizes, List.length_cons]; omega
theorem txt_len (t : Tm) (w : t.WF) : t.txt.length ≤ 6 * t.size := by
  cases t with
  | leaf c => simp [Tm.txt, Tm.size]
  | node op ts => have w1 : 2 ≤ ts.length := w.1; have := joinT_len op ts w.2 (by omega); simp only [Tm.txt, Tm.size]; omega
theorem ptx_txt (op : Bool) (ts : List Tm) : strC (Tm.node op ts).ptx = strC [40] ++ strC (Tm.node op ts).txt ++ strC [41] := by
  rw [strC_app, strC_app]; simp [Tm.ptx, Tm.txt]
def spText (K : PySem.W.Frag) (n : Nat) : Sp := fun vs H Q _ => ∃ v t, vs = [v] ∧ TmAt K H v t ∧ t.WF ∧ t.depth ≤ n ∧ t.size ≤ 1000 ∧ ∀ H', Same H H' → Q (.str (strC t.txt)) H'
abbrev n21 : List Str := ["term", "operator", "parts", "texts", "part"]
theorem sc21 : FnScope n21 ["term"] (defScope (topS 21)) := ⟨rfl, rfl, rfl, by decide +kernel, rfl, by decide +kernel, by decide +kernel⟩
theorem ok_text (D : Df K mg "text_of" (topS 21) ["term"]) (B : Bi mg) :
    ∀ n, Fn P w K mg base (n + 1) "text_of" ["term"] (spText K n)
  | 0 => D.none fun vs H Q E ⟨v, t, _, _, _, h, _⟩ => by have := depth_pos t; omega
  | n + 1 => by
    have ih := ok_text D B n
    refine D.ok sc21 (fun vs H Q E h => ?_) (fun f cdv A outer s H vs Q E hr h => ?_)
    · obtain ⟨v, t, rfl, _⟩ := h
      rfl
    obtain ⟨v, t, rfl, ht, wf, hd, hz, q⟩ := h
    refine ⟨_, pss_cons (ps_if (pt_val (pe_callB (call_isD K) (by rfl) B.isi b_isi (pa_cons (pv 0) (pa_cons (pe_bltn (v := .ty "str") (by rfl) B.str b_str rfl) pa_nil)))) (pss_one (ps_ret (pv 0))) pss_nil)
      (pss_cons (ps_asg (pv 0) (pg_star rfl (pg_name (i := 1) sc21.nd rfl (.inl rfl)) (pg_name (i := 2) sc21.nd rfl (.inl rfl))))
      (pss_cons (ps_setLc (i := 3) (own := [("part", 4)]) (g := gName 4) (tt := tYes) (by rfl) sc21.nd rfl rfl (sw_true rfl rfl rfl (by decide +kernel)) (pi_list (pv 2)) (blkOk_by (own := [("part", 4)]) (N := n21) (sc := defScope (topS 21)) (by decide +kernel))
          (fun _ _ _ _ _ => pg_name (i := 4) sc21.nd rfl (Or.inl rfl)) (fun _ _ _ _ _ => pts_nil)
          (fun _ _ _ _ _ => pe_ifExp (pt_val (pe_callB (call_isD K) (by rfl) B.isi b_isi (pa_cons (pv 4) (pa_cons (pe_bltn (v := .ty "str") (by rfl) B.str b_str rfl) pa_nil)))) (pv 4)
            (pe_joined (PJ.cons pe_str (PJ.cons (pe_fmt (pe_fn ih hr (by rfl) (pa_cons (pv 4) pa_nil))) (PJ.cons pe_str .nil))))))
      (pss_one (ps_ret (pe_join (pe_joined (PJ.cons pe_str (PJ.cons (pe_fmt (pv 1)) (PJ.cons pe_str .nil)))) (pv 3)))))), ?_⟩
    rcases TmAt.cases ht with ⟨c, rfl, rfl⟩ | ⟨op, ts, p, vs, rfl, rfl, hp, ha⟩
    · refine ⟨_, rfl, _, "str", _, _, rfl, .str _, k_ss, _, rfl, iteT ?_⟩
      exact ⟨_, rfl, q H (Same.refl _)⟩
    · refine ⟨_, rfl, _, "str", _, _, rfl, dp_node ht, k_ts, _, rfl, iteF ?_⟩
      refine ⟨_, rfl, p, _, _, rfl, hp, fun l nl => ?_⟩
      have s1 : Same H (upd H l (.lst vs)) := same_upd nl
      have wl : 2 ≤ ts.length ∧ WFs ts := wf
      have hl : vs.length = ts.length := by rw [DpAll.length ha]; simp [tDs]
      have sm : sizes ts ≤ 1000 := hz
      have le := sizes_len wl.2
      have hdt : depths ts ≤ n := Nat.le_of_succ_le_succ (show depths ts + 1 ≤ n + 1 from hd)
      refine ⟨_, rfl, l, rfl, ⟨_, SqL.of upd_same⟩, fun Dl nD => ?_⟩
      refine lcB nD (src_list (SqL.of upd_same)) (fun i => (ts.take i).map fun t : Tm => V.str (strC t.ptx)) rfl (fun i _ => small1000 (by rw [List.length_map, List.length_take]; omega)) (fun i x H2 F G hi s2 _ hx kF kG => ?_) (fun H2 s2 hD => ?_)
      · have ha2 := DpAll.same (s1.trans s2) _ _ ha
        obtain ⟨t, e1, htx⟩ := tDs_get ha2 hx
        have mt : t ∈ ts := List.mem_of_getElem? e1
        have wt := (wfs_iff ts).mp wl.2 t mt
        have zt := sizes_mem mt
        have lt := txt_len t wt
        refine ⟨rfl, ?_⟩
        rcases TmAt.cases htx with ⟨c, rfl, rfl⟩ | ⟨op', ts', p', vs', rfl, rfl, hp', ha'⟩
        · refine ⟨_, rfl, _, "str", _, _, rfl, .str _, k_ss, _, rfl, iteT ?_⟩
          exact ⟨_, rfl, kF _ _ (Same.refl _) (take_map_snoc (fun t : Tm => V.str (strC t.ptx)) e1)⟩
        · refine ⟨_, rfl, _, "str", _, _, rfl, dp_node htx, k_ts, _, rfl, iteF ?_⟩
          refine ⟨_, rfl, ?_, _, rfl, _, _, rfl, htx, wt, depths_mem hdt mt, by omega, fun H3 s3 => .inl ⟨_, rfl, ?_, _, rfl, ?_, _, rfl, ?_, ?_⟩⟩
          · rw [empty_app, lp_eq]; decide
          · rw [strC_len]; exact Nat.le_trans (show _ ≤ 6000 by omega) (by show 6000 ≤ sizeLine; decide)
          · rw [empty_app, lp_eq, strC_app, strC_len]
            simp only [List.length_append, List.length_cons, List.length_nil]
            exact Nat.le_trans (show _ ≤ 6001 by omega) (by show 6001 ≤ sizeLine; decide)
          · rw [empty_app, lp_eq, rp_eq, strC_app, strC_app, strC_len]
            simp only [List.length_append, List.length_cons, List.length_nil]
            exact Nat.le_trans (show _ ≤ 6002 by omega) (by show 6002 ≤ sizeLine; decide)
          · refine kF _ _ s3 ?_
            rw [empty_app, lp_eq, rp_eq, ← ptx_txt]
            exact take_map_snoc (fun t : Tm => V.str (strC t.ptx)) e1
      · have el : (ts.take vs.length).map (fun t : Tm => V.str (strC t.ptx)) = (ts.map fun t => strC t.ptx).map V.str := by
          rw [hl, List.take_length, List.map_map]; rfl
        rw [el] at hD
        have sep : Str.empty ++ (" " : Str) ++ opS op ++ (" " : Str) = sepT op := by
          rw [empty_app, sp_eq, opS, strC_app, strC_app]; rfl
        refine ⟨_, rfl, ?_, _, rfl, .inl ⟨_, rfl, ?_, _, rfl, ?_, _, rfl, ?_, ?_⟩⟩
        · rw [empty_app, sp_eq]; decide
        · show 1 ≤ sizeLine; decide
        · rw [empty_app, sp_eq, opS, strC_app, strC_len]; show 2 ≤ sizeLine; decide
        · rw [sep, sepT, strC_len]; show 3 ≤ sizeLine; decide
        refine ⟨⟨_, rfl⟩, _, rfl, _, Dl, (ts.map fun t => strC t.ptx), rfl, rfl, .inl (SqL.of hD), ?_, ?_⟩
        · have := ptx_sum ts wl.2
          rw [sep, sepT, strC_len, List.length_map]
          simp only [List.length_cons, List.length_nil]
          omega
        · rw [sep, TL.join_eq, join_txt]
          exact q H2 (s1.trans s2)
end
end FD
end T_D1

section T_D2
set_option Elab.async false
set_option linter.all false
set_option maxRecDepth 100000
/-! The walk: names, goals, rules. -/
namespace FD
open PySem L2 FF FW
structure TOk (t : Tm) : Prop where
  wf : t.WF
  dp : t.depth ≤ 5
  sz : t.size ≤ 24
structure NOk (l : List Nat) : Prop where
  pos : 1 ≤ l.length
  le : l.length ≤ 6
  az : ∀ c ∈ l, 97 ≤ c ∧ c < 123
structure POk (p : Tm × Tm) : Prop where
  l : TOk p.1
  r : TOk p.2
structure ROk (r : Rl) : Prop where
  nm : NOk r.1
  pr : POk r.2
theorem small_in {c : Nat} (h : 97 ≤ c ∧ c < 123) : c ∈ ("abcdefghijklmnopqrstuvwxyz" : Str).cps.toList := by
  have e : ("abcdefghijklmnopqrstuvwxyz" : Str).cps.toList = List.range' 97 26 := by decide +kernel
  rw [e, List.mem_range'_1]; omega
theorem Dp.tupInv {K : PySem.W.Frag} {H : Hp} {v : V} {ds : List PyData} (h : Dp K H v (.tuple ds)) : ∃ p vs, v = .ref p ∧ SqT K H p vs ∧ DpAll K H vs ds := by
  cases h with
  | tup hs ha => exact ⟨_, _, rfl, hs, ha⟩
theorem Dp.lstInv {K : PySem.W.Frag} {H : Hp} {v : V} {ds : List PyData} (h : Dp K H v (.list ds)) : ∃ p vs, v = .ref p ∧ SqL K H p vs ∧ DpAll K H vs ds := by
  cases h with
  | lst hs ha => exact ⟨_, _, rfl, hs, ha⟩
theorem DpAll.two {K : PySem.W.Frag} {H : Hp} {vs : List V} {d e : PyData} (h : DpAll K H vs [d, e]) : ∃ x y, vs = [x, y] ∧ Dp K H x d ∧ Dp K H y e := by
  cases h with
  | cons h1 h => cases h with
    | cons h2 h => cases h; exact ⟨_, _, rfl, h1, h2⟩
theorem DpAll.three {K : PySem.W.Frag} {H : Hp} {vs : List V} {d e f : PyData} (h : DpAll K H vs [d, e, f]) : ∃ x y z, vs = [x, y, z] ∧ Dp K H x d ∧ Dp K H y e ∧ Dp K H z f := by
  cases h with
  | cons h1 h => obtain ⟨y, z, rfl, h2, h3⟩ := FD.DpAll.two h; exact ⟨_, _, _, rfl, h1, h2, h3⟩
theorem Dp.strInv {K : PySem.W.Frag} {H : Hp} {v : V} {s : Str} (h : Dp K H v (.str s)) : v = .str s := by cases h; rfl
theorem pr_inv {K : PySem.W.Frag} {H : Hp} {v : V} {p : Tm × Tm} (h : Dp K H v (prD2 p)) : ∃ a x y, v = .ref a ∧ SqT K H a [x, y] ∧ TmAt K H x p.1 ∧ TmAt K H y p.2 := by
  obtain ⟨a, vs, rfl, hs, ha⟩ := FD.Dp.tupInv h
  obtain ⟨x, y, rfl, h1, h2⟩ := FD.DpAll.two ha
  exact ⟨a, x, y, rfl, hs, h1, h2⟩
theorem rl_inv {K : PySem.W.Frag} {H : Hp} {v : V} {r : Rl} (h : Dp K H v (rlD r)) : ∃ a x y, v = .ref a ∧ SqT K H a [.str (strC r.1), x, y] ∧ TmAt K H x r.2.1 ∧ TmAt K H y r.2.2 := by
  obtain ⟨a, vs, rfl, hs, ha⟩ := FD.Dp.tupInv h
  obtain ⟨s, x, y, rfl, h0, h1, h2⟩ := FD.DpAll.three ha
  cases FD.Dp.strInv h0
  exact ⟨a, x, y, rfl, hs, h1, h2⟩
theorem replicate_snoc {α : Type} (a : α) (i : Nat) : List.replicate (i + 1) a = List.replicate i a ++ [a] := List.replicate_succ'
theorem all_true (n : Nat) : (List.replicate n true).all id = true := by
  induction n with
  | zero => rfl
  | succ n ih => simp [List.replicate_succ]
theorem bls_true (n : Nat) : List.replicate n (V.bl true) = (List.replicate n true).map V.bl := by simp
section
variable {P : Program} {w : World} {K : PySem.W.Frag} {mg : Str → Option Value} {base : Heap}
/-! ### is_name -/
def spName (K : PySem.W.Frag) : Sp := fun vs H Q _ => ∃ l, vs = [.str (strC l)] ∧ NOk l ∧ ∀ H', Same H H' → Q (.bl true) H'
abbrev n20 : List Str := ["text", "sign"]
theorem sc20 : FnScope n20 ["text"] (defScope (topS 20)) := ⟨rfl, rfl, rfl, by decide +kernel, rfl, by decide +kernel, by decide +kernel⟩
theorem src_str {x : Str} {H0 : Hp} : Src (Its x) H0 x.cps.size fun i v _ => ∃ c, x.cps[i]? = some c ∧ v = .str ⟨#[c]⟩ := by
  intro i H s
  refine ⟨fun hi => ⟨hi, fun v H' y => ?_⟩, fun e => Nat.le_of_eq e.symm⟩
  obtain ⟨e, y⟩ := y
  subst e
  exact ⟨Same.refl _, fun _ _ => rfl, y⟩
theorem ok_name (D : Df K mg "is_name" (topS 20) ["text"]) (B : Bi mg) {tk tn : Tok} (mL : mg "SMALL_LETTERS" = some (.str "abcdefghijklmnopqrstuvwxyz" tk)) (mN : mg "MAX_NAME" = some (.int 6 tn)) : Fn P w K mg base 1 "is_name" ["text"] (spName K) := by
  refine D.ok sc20 (fun vs H Q E h => ?_) (fun f cdv A outer s H vs Q E hr h => ?_)
  · obtain ⟨l, rfl, _⟩ := h
    rfl
  obtain ⟨l, rfl, ok, q⟩ := h
  refine ⟨_, pss_one (ps_ret (pe_and (pe_chain op_le op_le pe_int (pe_callB call_len (by rfl) B.len b_len (pa_cons (pv 0) pa_nil)) (pe_glob (v := .int 6) (by rfl) mN ⟨_, rfl⟩))
    (pe_one (pe_callB (cr_all rfl) (by rfl) B.all b_all (pa_cons (pe_lc (own := [("sign", 1)]) (g := gName 1) (tt := tYes) (by rfl) sc20.nd (pi_str (pv 0)) (blkOk_by (own := [("sign", 1)]) (N := n20) (sc := defScope (topS 20)) (by decide +kernel))
      (fun _ _ _ _ _ => pg_name (i := 1) sc20.nd rfl (Or.inl rfl)) (fun _ _ _ _ _ => pts_nil) (fun _ _ _ _ _ => pe_cmpR op_in_sign (pv 1) (pe_glob (v := .str "abcdefghijklmnopqrstuvwxyz") (by rfl) mL ⟨_, rfl⟩) rfl)) pa_nil))))), ?_⟩
  have p := ok.pos
  have le := ok.le
  have hz : (strC l).length ≤ sizeLine := by rw [strC_len]; exact small (by omega)
  refine ⟨_, rfl, _, (strC l).length, rfl, ⟨hz, rfl⟩, _, _, rfl, rfl, _, rfl, ?_⟩
  rw [decide_eq_true (show (1 : Int) ≤ ((strC l).length : Nat) by rw [strC_len]; omega)]
  refine iteT ⟨_, _, rfl, rfl, _, rfl, ?_⟩
  rw [decide_eq_true (show (((strC l).length : Nat) : Int) ≤ 6 by rw [strC_len]; omega)]
  refine iteT ⟨_, rfl, _, rfl, fun Dl nD => ?_⟩
  have hc : (strC l).cps.size = l.length := strC_len l
  refine lcB nD src_str (fun i => List.replicate i (V.bl true)) rfl (fun i _ => small1000 (by rw [List.length_replicate]; omega)) (fun i x H2 F G hi s2 _ hx kF kG => ?_) (fun H2 s2 hD => ?_)
  · obtain ⟨c, hc, rfl⟩ := hx
    have mc : c ∈ l := by
      have := Array.mem_of_getElem? hc
      simpa [strC] using this
    refine ⟨rfl, _, rfl, c, _, rfl, rfl, ?_⟩
    rw [decide_eq_true (small_in (ok.az c mc))]
    exact kF _ _ (Same.refl _) (replicate_snoc _ _)
  · rw [bls_true] at hD
    refine ⟨_, _, rfl, SqL.of hD, ?_⟩
    rw [all_true]
    exact q H2 s2
/-! ### is_goal -/
def spGoal (K : PySem.W.Frag) : Sp := fun vs H Q _ => ∃ v p, vs = [v] ∧ Dp K H v (prD2 p) ∧ POk p ∧ ∀ H', Same H H' → Q (.bl true) H'
theorem sc22 : FnScope ["value"] ["value"] (defScope (topS 22)) := ⟨rfl, rfl, rfl, by decide +kernel, rfl, by decide +kernel, by decide +kernel⟩
theorem ok_goal (D : Df K mg "is_goal" (topS 22) ["value"]) (B : Bi mg) (FT : FnD P w K mg base 7 "is_term" p14 [.int 5, .int 24] (spTerm K)) : Fn P w K mg base 8 "is_goal" ["value"] (spGoal K) := by
  refine D.ok sc22 (fun vs H Q E h => ?_) (fun f cdv A outer s H vs Q E hr h => ?_)
  · obtain ⟨v, p, rfl, _⟩ := h
    rfl
  obtain ⟨v, p, rfl, hp, ok, q⟩ := h
  refine ⟨_, pss_one (ps_ret (pe_and (pe_callB (call_isD K) (by rfl) B.isi b_isi (pa_cons (pv 0) (pa_cons (pe_bltn (v := .ty "tuple") (by rfl) B.tup b_tup rfl) pa_nil)))
    (pe_and (pe_cmpR op_eq (pe_callB call_len (by rfl) B.len b_len (pa_cons (pv 0) pa_nil)) pe_int (nomark _))
    (pe_and (pe_fnD FT hr (by rfl) (pa_cons (pe_ix ix_tup (pv 0) pe_int (fun _ _ => rfl)) pa_nil))
    (pe_one (pe_fnD FT hr (by rfl) (pa_cons (pe_ix ix_tup (pv 0) pe_int (fun _ _ => rfl)) pa_nil))))))), ?_⟩
  obtain ⟨a, x, y, rfl, hs, h1, h2⟩ := pr_inv hp
  refine ⟨_, rfl, _, "tuple", _, _, rfl, hp, k_tt, _, rfl, iteT ?_⟩
  refine ⟨_, rfl, _, _, rfl, .inr ⟨_, hs, rfl⟩, rfl, _, rfl, iteT ?_⟩
  refine ⟨_, rfl, a, _, _, _, rfl, rfl, hs, atI_nat (j := 0) rfl, _, _, rfl, h1, ok.l.wf, ok.l.dp, ok.l.sz, fun H1 s1 => ⟨_, rfl, iteT ?_⟩⟩
  exact ⟨_, rfl, a, _, _, _, rfl, rfl, SqT.same s1 hs, atI_nat (j := 1) rfl, _, _, rfl, Dp.same s1 _ _ h2, ok.r.wf, ok.r.dp, ok.r.sz, fun H2 s2 => q H2 (s1.trans s2)⟩
/-! ### is_rule -/
def spRule (K : PySem.W.Frag) : Sp := fun vs H Q _ => ∃ v r, vs = [v] ∧ Dp K H v (rlD r) ∧ ROk r ∧ ∀ H', Same H H' → Q (.bl true) H'
theorem sc23 : FnScope ["value"] ["value"] (defScope (topS 23)) := ⟨rfl, rfl, rfl, by decide +kernel, rfl, by decide +kernel, by decide +kernel⟩
theorem ok_rule (D : Df K mg "is_rule" (topS 23) ["value"]) (B : Bi mg) (FN : Fn P w K mg base 1 "is_name" ["text"] (spName K)) (FG : Fn P w K mg base 8 "is_goal" ["value"] (spGoal K)) : Fn P w K mg base 9 "is_rule" ["value"] (spRule K) := by
  refine D.ok sc23 (fun vs H Q E h => ?_) (fun f cdv A outer s H vs Q E hr h => ?_)
  · obtain ⟨v, p, rfl, _⟩ := h
    rfl
  obtain ⟨v, p, rfl, hp, ok, q⟩ := h
  have hr1 : Room 1 _ := hr.mono (by decide)
  refine ⟨_, pss_cons (ps_if (PW.pt (pw_or (pt_not (pt_val (pe_callB (call_isD K) (by rfl) B.isi b_isi (pa_cons (pv 0) (pa_cons (pe_bltn (v := .ty "tuple") (by rfl) B.tup b_tup rfl) pa_nil)))))
      (pw_or (pt_cmpR op_ne (pe_callB call_len (by rfl) B.len b_len (pa_cons (pv 0) pa_nil)) pe_int (nomark _))
      (pw_or1 (pt_not (pt_val (pe_callB (call_isD K) (by rfl) B.isi b_isi (pa_cons (pe_ix ix_tup (pv 0) pe_int (fun _ _ => rfl)) (pa_cons (pe_bltn (v := .ty "str") (by rfl) B.str b_str rfl) pa_nil))))))))) (pss_one (ps_ret pe_bl)) pss_nil)
    (pss_one (ps_ret (pe_and (pe_fn FN hr1 (by rfl) (pa_cons (pe_ix ix_tup (pv 0) pe_int (fun _ _ => rfl)) pa_nil)) (pe_one (pe_fn FG hr (by rfl) (pa_cons (pe_slice sl_tup (pv 0) (po_some pe_int) po_none) pa_nil)))))), ?_⟩
  obtain ⟨a, x, y, rfl, hs, h1, h2⟩ := rl_inv hp
  refine ⟨_, rfl, _, "tuple", _, _, rfl, hp, k_tt, _, rfl, iteF ?_⟩
  refine ⟨_, rfl, _, _, rfl, .inr ⟨_, hs, rfl⟩, rfl, _, rfl, iteF ?_⟩
  refine ⟨_, rfl, a, _, _, _, rfl, rfl, hs, atI_nat (j := 0) rfl, _, "str", _, _, rfl, .str _, k_ss, _, rfl, iteF ?_⟩
  refine ⟨_, rfl, a, _, _, _, rfl, rfl, hs, atI_nat (j := 0) rfl, _, rfl, ok.nm, fun H1 s1 => ⟨_, rfl, iteT ?_⟩⟩
  refine ⟨_, rfl, ⟨1, rfl, a, _, rfl, SqT.same s1 hs, tail_ne _ _, fun p1 np1 => ?_⟩⟩
  rw [cut_tail]
  have s2 := s1.trans (same_upd (o := .tup [x, y]) np1)
  exact ⟨_, p.2, rfl, .tup (SqT.of upd_same) (.cons (Dp.same s2 _ _ h1) (.cons (Dp.same s2 _ _ h2) .nil)), ok.pr, fun H2 s3 => q H2 (s2.trans s3)⟩
end
end FD
end T_D2

section T_D3
set_option Elab.async false
set_option linter.all false
set_option maxRecDepth 100000
/-! Dicts from texts to terms; words_of. -/
namespace FD
open PySem L2 FF FW
theorem ltC_eq : ∀ a b : List Nat, Spec.ltCps a b = ltC a b
  | [], [] => rfl
  | [], _ :: _ => rfl
  | _ :: _, [] => rfl
  | a :: r, b :: t => by simp only [Spec.ltCps, ltC, ltC_eq r t]
theorem ltC_tri' {a b : List Nat} (h : ltC b a = false) (n : a ≠ b) : ltC a b = true := by
  cases e : ltC a b with
  | true => rfl
  | false => exact absurd (ltC_tri e h) n
theorem rising_asc : ∀ (p : Str) (ys : List Str), PyProof.Rows.risingS p ys = true → ∀ y ∈ ys, ltC y.cps.toList p.cps.toList = false
  | _, [], _, y, hy => by simp at hy
  | p, x :: r, h, y, hy => by
    simp only [PyProof.Rows.risingS, Bool.and_eq_true, Bool.not_eq_true', ltC_eq] at h
    rcases List.mem_cons.mp hy with rfl | hy
    · exact h.1
    · have h2 := rising_asc x r h.2 y hy
      cases e : ltC y.cps.toList p.cps.toList with
      | false => rfl
      | true =>
        by_cases q : p.cps.toList = x.cps.toList
        · rw [q] at e; rw [e] at h2; exact h2
        · have := ltC_trans e (ltC_tri' h.1 q)
          rw [this] at h2; exact h2
theorem sorted_asc : ∀ ys : List Str, PyProof.Rows.sortedS ys = true → ys.Nodup → ys.Pairwise fun a b => ltC a.cps.toList b.cps.toList = true
  | [], _, _ => .nil
  | x :: r, h, n => by
    have hr : PyProof.Rows.risingS x r = true := h
    refine List.Pairwise.cons (fun y hy => ?_) (sorted_asc r ?_ (List.nodup_cons.mp n).2)
    · refine ltC_tri' (rising_asc x r hr y hy) fun e => ?_
      have : x = y := by
        have : x.cps = y.cps := by simpa using congrArg List.toArray e
        cases x; cases y; simpa using this
      subst this
      exact (List.nodup_cons.mp n).1 hy
    · cases r with
      | nil => rfl
      | cons y r =>
        simp only [PyProof.Rows.risingS, Bool.and_eq_true] at hr
        exact hr.2
def tk (t : Tm) : L2.Key := Sum.inr (strC t.txt)
theorem tk_inj {t u : Tm} (w : t.WF) (w' : u.WF) (h : tk t = tk u) : t = u := txt_inj w w' (strC_inj (Sum.inr.inj h))
theorem keys_put {κ : Type} [DecidableEq κ] (kvs : List (κ × V)) (k : κ) (v : V) : (putK kvs k v).map (·.1) = if (valV kvs k).isSome = true then kvs.map (·.1) else kvs.map (·.1) ++ [k] := by
  unfold putK
  rw [valV_any]
  cases valV kvs k with
  | none => simp
  | some x =>
    simp only [Option.isSome_some, if_true, List.map_map]
    refine List.map_congr_left fun p _ => ?_
    simp only [Function.comp_apply]
    split <;> rfl
theorem valV_none_of {κ : Type} [DecidableEq κ] {kvs : List (κ × V)} {k : κ} (h : (valV kvs k).isSome = false) : k ∉ kvs.map (·.1) := by
  refine valV_not ?_
  cases e : valV kvs k with
  | none => rfl
  | some x => rw [e] at h; cases h
/-- the dict of the terms ts -/
structure TD (K : PySem.W.Frag) (H : Hp) (ts : List Tm) (kvs : List (L2.Key × V)) : Prop where
  nd : (kvs.map (·.1)).Nodup
  key : ∀ k ∈ kvs.map (·.1), ∃ t ∈ ts, k = tk t
  val : ∀ t ∈ ts, ∃ v, valV kvs (tk t) = some v ∧ TmAt K H v t
section
variable {K : PySem.W.Frag} {H H' : Hp}
theorem TD.nil : TD K H [] [] := ⟨List.nodup_nil, fun k h => by simp at h, fun t h => by simp at h⟩
theorem TD.ts {ts : List Tm} {kvs : List (L2.Key × V)} (h : TD K H ts kvs) (q : TS H H') : TD K H' ts kvs :=
  ⟨h.nd, h.key, fun t ht => by obtain ⟨v, e, m⟩ := h.val t ht; exact ⟨v, e, m.ts q⟩⟩
theorem TD.put {ts : List Tm} {kvs : List (L2.Key × V)} (h : TD K H ts kvs) {t : Tm} {v : V} (hv : TmAt K H v t) (w : WFs (ts ++ [t])) : TD K H (ts ++ [t]) (putK kvs (tk t) v) := by
  have wf := (wfs_iff _).mp w
  have wt : t.WF := wf t (by simp)
  refine ⟨?_, fun k hk => ?_, fun u hu => ?_⟩
  · rw [keys_put]
    split
    · exact h.nd
    · rename_i c
      rw [Bool.not_eq_true] at c
      exact nd_snoc h.nd (valV_none_of c)
  · rw [keys_put] at hk
    have : k ∈ kvs.map (·.1) ∨ k = tk t := by
      split at hk
      · exact .inl hk
      · rcases List.mem_append.mp hk with h | h
        · exact .inl h
        · exact .inr (by simpa using h)
    rcases this with hk | rfl
    · obtain ⟨u, hu, rfl⟩ := h.key k hk
      exact ⟨u, List.mem_append_left _ hu, rfl⟩
    · exact ⟨t, by simp, rfl⟩
  · rw [valV_put]
    by_cases e : tk u = tk t
    · rw [if_pos e]
      have := tk_inj (wf u hu) wt e
      subst this
      exact ⟨v, rfl, hv⟩
    · rw [if_neg e]
      rcases List.mem_append.mp hu with hu | hu
      · exact h.val u hu
      · have : u = t := by simpa using hu
        subst this
        exact absurd rfl e
theorem TD.len {ts : List Tm} {kvs : List (L2.Key × V)} (h : TD K H ts kvs) (w : WFs ts) : kvs.length ≤ (vocab ts).length := by
  have := nodup_le (l := kvs.map (·.1)) (m := (vocab ts).map tk) h.nd fun k hk => by
    obtain ⟨t, ht, rfl⟩ := h.key k hk
    exact List.mem_map.mpr ⟨t, ((vocab_is ts w).mem t).mpr ht, rfl⟩
  simpa using this
theorem TD.keys {ts : List Tm} {kvs : List (L2.Key × V)} (h : TD K H ts kvs) : ∃ us : List Tm, kvs.map (·.1) = us.map tk ∧ ∀ u ∈ us, u ∈ ts := by
  have go : ∀ ks : List L2.Key, (∀ k ∈ ks, ∃ t ∈ ts, k = tk t) → ∃ us : List Tm, ks = us.map tk ∧ ∀ u ∈ us, u ∈ ts := by
    intro ks
    induction ks with
    | nil => intro _; exact ⟨[], rfl, fun u hu => by simp at hu⟩
    | cons k ks ih =>
      intro hk
      obtain ⟨t, ht, rfl⟩ := hk k List.mem_cons_self
      obtain ⟨us, e, hu⟩ := ih fun k h => hk k (List.mem_cons_of_mem _ h)
      exact ⟨t :: us, by rw [e]; rfl, fun u hu' => by
        rcases List.mem_cons.mp hu' with rfl | hu'
        · exact ht
        · exact hu u hu'⟩
  exact go _ h.key
theorem TD.sorted {ts : List Tm} {kvs : List (L2.Key × V)} (h : TD K H ts kvs) (w : WFs ts) {us : List Tm} (eu : kvs.map (·.1) = us.map tk) (hu : ∀ u ∈ us, u ∈ ts) {ys : List Str} (p : ys.Perm (us.map fun t => strC t.txt)) (s : PyProof.Rows.sortedS ys = true) :
    ys = (vocab ts).map fun t => strC t.txt := by
  have wf := (wfs_iff _).mp w
  have nus : (us.map fun t => strC t.txt).Nodup := by
    have n := h.nd
    rw [eu, show us.map tk = (us.map fun t => strC t.txt).map Sum.inr from by rw [List.map_map]; rfl] at n
    exact List.Pairwise.of_map Sum.inr (fun a b h e => h (by rw [e])) n
  have ny : ys.Nodup := p.nodup_iff.mpr nus
  have pw := sorted_asc ys s ny
  have all : ∀ y ∈ ys, ∃ t ∈ ts, y = strC t.txt := fun y hy => by
    obtain ⟨t, ht, rfl⟩ := List.mem_map.mp (p.mem_iff.mp hy)
    exact ⟨t, hu t ht, rfl⟩
  have ex : ∃ W : List Tm, ys = W.map (fun t => strC t.txt) ∧ ∀ t ∈ W, t ∈ ts := by
    clear pw ny s p
    induction ys with
    | nil => exact ⟨[], rfl, fun t ht => by simp at ht⟩
    | cons y ys ih =>
      obtain ⟨W, e, hW⟩ := ih fun y hy => all y (List.mem_cons_of_mem _ hy)
      obtain ⟨t, ht, rfl⟩ := all y List.mem_cons_self
      exact ⟨t :: W, by rw [e]; rfl, fun u hu => by
        rcases List.mem_cons.mp hu with rfl | hu
        · exact ht
        · exact hW u hu⟩
  obtain ⟨W, rfl, hW⟩ := ex
  have voc : IsVoc ts W := by
    refine ⟨fun t => ⟨hW t, fun ht => ?_⟩, ?_⟩
    · obtain ⟨v, e, _⟩ := h.val t ht
      have hk := valV_in e
      rw [eu] at hk
      obtain ⟨u, hu', e'⟩ := List.mem_map.mp hk
      have := tk_inj (wf u (hu u hu')) (wf t ht) e'
      subst this
      obtain ⟨x, hx, ex⟩ := List.mem_map.mp (p.mem_iff.mpr (List.mem_map.mpr ⟨u, hu', rfl⟩))
      have := tk_inj (wf x (hW x hx)) (wf u ht) (by unfold tk; rw [ex])
      subst this
      exact hx
    · rw [List.pairwise_map] at pw
      exact pw.imp fun {a b} hab => by simpa [strC, LtT] using hab
  rw [voc_unique voc (vocab_is ts w) fun _ => Iff.rfl]
end
theorem pairTs_app (a b : List (Tm × Tm)) : pairTs (a ++ b) = pairTs a ++ pairTs b := by simp [pairTs]
theorem walkOk {t : Tm} (h : TOk t) : t.walk.length ≤ 47 := by have := walk_len t h.wf; have := h.sz; omega
theorem pairTs_len : ∀ ps : List (Tm × Tm), (∀ p ∈ ps, POk p) → (pairTs ps).length ≤ 94 * ps.length
  | [], _ => by simp [pairTs]
  | p :: ps, h => by
    have ih := pairTs_len ps fun q hq => h q (List.mem_cons_of_mem _ hq)
    have hp := h p List.mem_cons_self
    have h1 := walkOk hp.l
    have h2 := walkOk hp.r
    rw [show p :: ps = [p] ++ ps from rfl, pairTs_app, List.length_append]
    simp only [pairTs, List.flatMap_cons, List.flatMap_nil, List.append_nil, List.length_append, List.length_cons, List.length_nil] at ih ⊢
    omega
theorem wfp_of {ps : List (Tm × Tm)} (h : ∀ p ∈ ps, POk p) : WFp ps := fun p hp => ⟨(h p hp).l.wf, (h p hp).r.wf⟩
mutual
theorem walk_size : ∀ (t u : Tm), u ∈ t.walk → u.size ≤ t.size
  | .leaf c, u, h => by
    simp only [Tm.walk, List.mem_singleton] at h
    subst h; exact Nat.le_refl _
  | .node op ts, u, h => by
    simp only [Tm.walk, List.mem_cons] at h
    rcases h with rfl | h
    · exact Nat.le_refl _
    · exact walks_size ts u h
theorem walks_size : ∀ (ts : List Tm) (u : Tm), u ∈ walks ts → u.size ≤ sizes ts
  | [], u, h => by simp [walks] at h
  | t :: ts, u, h => by
    simp only [walks, List.mem_append] at h
    simp only [sizes]
    rcases h with h | h
    · have := walk_size t u h; omega
    · have := walks_size ts u h; omega
end
theorem walk_ok {t u : Tm} (h : TOk t) (m : u ∈ t.walk) : TOk u :=
  ⟨walk_wf t u h.wf m, Nat.le_trans (walk_depth t u m) h.dp, Nat.le_trans (walk_size t u m) h.sz⟩
theorem pairTs_ok {ps : List (Tm × Tm)} (h : ∀ p ∈ ps, POk p) {t : Tm} (m : t ∈ pairTs ps) : TOk t := by
  obtain ⟨p, hp, m⟩ := mem_pairTs.mp m
  rcases m with m | m
  · exact walk_ok (h p hp).l m
  · exact walk_ok (h p hp).r m
theorem pairTs_take {ps : List (Tm × Tm)} {i : Nat} {p : Tm × Tm} (h : ps[i]? = some p) : pairTs (ps.take (i + 1)) = pairTs (ps.take i) ++ (p.1.walk ++ p.2.walk) := by
  rw [take_snoc h, pairTs_app]; simp [pairTs]
theorem wfs_app {a b : List Tm} : WFs (a ++ b) ↔ WFs a ∧ WFs b := by
  rw [wfs_iff, wfs_iff, wfs_iff]
  constructor
  · intro h; exact ⟨fun t ht => h t (List.mem_append_left _ ht), fun t ht => h t (List.mem_append_right _ ht)⟩
  · rintro ⟨h1, h2⟩ t ht
    rcases List.mem_append.mp ht with h | h
    · exact h1 t h
    · exact h2 t h
theorem mapD_get {α : Type} {K : PySem.W.Frag} {H : Hp} {vs : List V} {f : α → PyData} {l : List α} {i : Nat} {x : V} (h : DpAll K H vs (l.map f)) (e : vs[i]? = some x) : ∃ a, l[i]? = some a ∧ Dp K H x (f a) := by
  obtain ⟨d, h1, h2⟩ := FW.DpAll.at h e
  rw [List.getElem?_map] at h1
  obtain ⟨a, e1, rfl⟩ := Option.map_eq_some_iff.mp h1
  exact ⟨a, e1, h2⟩
theorem mapD_len {α : Type} {K : PySem.W.Frag} {H : Hp} {vs : List V} {f : α → PyData} {l : List α} (h : DpAll K H vs (l.map f)) : vs.length = l.length := by rw [DpAll.length h]; simp
section
variable {P : Program} {w : World} {K : PySem.W.Frag} {mg : Str → Option Value} {base : Heap}
def spWords (K : PySem.W.Frag) : Sp := fun vs H Q _ => ∃ a us ps, vs = [.ref a] ∧ SqL K H a us ∧ DpAll K H us (ps.map prD2) ∧ (∀ p ∈ ps, POk p) ∧ ps.length ≤ 20 ∧ (wordsOf ps).length < 64 ∧
  ∀ r ws H', Same H H' → H r = none → H' r = some (.lst ws) → DpAll K H' ws (tDs (wordsOf ps)) → Q (.ref r) H'
abbrev n27 : List Str := ["pairs", "by_text", "left", "right", "word", "text"]
theorem sc27 : FnScope n27 ["pairs"] (defScope (topS 27)) := ⟨rfl, rfl, rfl, by decide +kernel, rfl, by decide +kernel, by decide +kernel⟩
theorem ok_words (D : Df K mg "words_of" (topS 27) ["pairs"]) (B : Bi mg) (FW_ : Fn P w K mg base 6 "walked" ["term"] (spWalked K 5)) (FT : Fn P w K mg base 6 "text_of" ["term"] (spText K 5)) : Fn P w K mg base 7 "words_of" ["pairs"] (spWords K) := by
  refine D.ok sc27 (fun vs H Q E h => ?_) (fun f cdv A outer s H vs Q E hr h => ?_)
  · obtain ⟨a, us, ps, rfl, _⟩ := h
    rfl
  obtain ⟨a, us, ps, rfl, hS, ha, ok, hl, h64, q⟩ := h
  have hu1 := hu_of hr
  refine ⟨_, pss_cons (ps_set (i := 1) sc27.nd rfl (.inr rfl) (pe_dcG2 (o0 := fun _ => .dK []) (st := stK) (own := [("left", 2), ("right", 3), ("word", 4)]) (us := [4]) (tt := tYes) (tt1 := tYes) (fun H h hb => empty_K H h hb) stK_ok (by rfl) sc27.nd
      (pi_list (pv 0)) (blkOk_by (own := [("left", 2), ("right", 3), ("word", 4)]) (N := n27) (sc := defScope (topS 27)) (by decide +kernel)) (by decide)
      (fun _ _ _ _ _ => pg_tupK K 2 rfl (pgs_cons (pg_name (i := 2) sc27.nd rfl (.inl rfl)) (pgs_cons (pg_name (i := 3) sc27.nd rfl (.inl rfl)) pgs_nil))) (fun _ _ _ _ _ => pts_nil)
      (fun _ _ _ _ _ => pi_listK K (pe_op op_cat (pe_fn FW_ hr (by rfl) (pa_cons (pv 2) pa_nil)) (pe_fn FW_ hr (by rfl) (pa_cons (pv 3) pa_nil)))) (fun _ _ _ _ _ => pg_name (i := 4) sc27.nd rfl (.inl rfl)) (fun _ _ _ _ _ => pts_nil)
      (fun _ _ _ _ _ => pe_fn FT hr (by rfl) (pa_cons (pv 4) pa_nil)) (fun _ _ _ _ _ => pv 4)))
    (pss_one (ps_ret (pe_lc (own := [("text", 5)]) (g := gName 5) (tt := tYes) (by rfl) sc27.nd (pi_list (pe_callB (call_sortedD rfl) (by rfl) B.sorted b_sorted (pa_cons (pv 1) pa_nil))) (blkOk_by (own := [("text", 5)]) (N := n27) (sc := defScope (topS 27)) (by decide +kernel))
      (fun _ _ _ _ _ => pg_name (i := 5) sc27.nd rfl (Or.inl rfl)) (fun _ _ _ _ _ => pts_nil) (fun _ _ _ _ _ => pe_dget hu1 (pv 1) (pv 5) (fun _ _ => rfl))))), ?_⟩
  have hul := mapD_len ha
  refine ⟨_, rfl, a, rfl, ⟨_, hS⟩, fun Dl nD => ?_⟩
  have wfp : WFp ps := wfp_of ok
  refine ⟨fun i m H1 => m = us.length - i ∧ i ≤ us.length ∧ Same H H1 ∧ ∃ kvs, H1 Dl = some (.dK kvs) ∧ TD K H1 (pairTs (ps.take i)) kvs, ⟨us.length, by simp, Nat.zero_le _, same_upd nD, [], upd_same, TD.nil⟩, ?_⟩
  rintro i m H1 ⟨rfl, hi, s1, kvs, hD, td⟩
  by_cases hlt : i < us.length
  · refine .inr ⟨⟨us, us[i], s1.seq hS, by simp [hlt]⟩, fun H' => us.length - (i + 1) = us.length - (i + 1) ∧ i + 1 ≤ us.length ∧ Same H H' ∧ ∃ kvs, H' Dl = some (.dK kvs) ∧ TD K H' (pairTs (ps.take (i + 1))) kvs, fun H' z => ⟨us.length - (i + 1), by omega, z⟩, fun x H' y => ?_⟩
    obtain ⟨e, y⟩ := y
    have e := e.symm
    subst e
    have hx := y us (s1.seq hS)
    obtain ⟨p, ep, hp⟩ := mapD_get (DpAll.same s1 _ _ ha) hx
    have okp := ok p (List.mem_of_getElem? ep)
    obtain ⟨t, x1, y1, rfl, ht, h1, h2⟩ := pr_inv hp
    refine ⟨t, _, rfl, ht, rfl, _, _, rfl, _, _, rfl, rfl, rfl, ?_⟩
    refine ⟨_, rfl, x1, p.1, rfl, h1, okp.l.wf, okp.l.dp, by have := okp.l.sz; omega, fun r1 w1 H2 s2 nr1 hr1 ha1 => ?_⟩
    refine ⟨_, rfl, y1, p.2, rfl, Dp.same s2 _ _ h2, okp.r.wf, okp.r.dp, by have := okp.r.sz; omega, fun r2 w2 H3 s3 nr2 hr2 ha2 => ?_⟩
    have l1 := walkOk okp.l
    have l2 := walkOk okp.r
    have e1 : w1.length = p.1.walk.length := mapD_len ha1
    have e2 : w2.length = p.2.walk.length := mapD_len ha2
    refine ⟨r1, r2, w1, w2, rfl, rfl, s3 _ _ hr1, hr2, small (by omega), fun r nr => ?_⟩
    have s4 : Same H1 (upd H3 r (.lst (w1 ++ w2))) := (s2.trans s3).trans (same_upd nr)
    have haw : DpAll K (upd H3 r (.lst (w1 ++ w2))) (w1 ++ w2) (tDs (p.1.walk ++ p.2.walk)) := by
      rw [tDs_app]
      exact DpAll.same (same_upd nr) _ _ (DpAll.append (DpAll.same s3 _ _ ha1) ha2)
    have elen : (w1 ++ w2).length = (p.1.walk ++ p.2.walk).length := mapD_len haw
    refine ⟨r, rfl, ⟨_, SqL.of upd_same⟩, ?_⟩
    have okt : ∀ j, WFs (pairTs (ps.take i) ++ (p.1.walk ++ p.2.walk).take j) := fun j => by
      refine (wfs_iff _).mpr fun t ht => ?_
      rcases List.mem_append.mp ht with ht | ht
      · exact (pairTs_ok (fun q hq => ok q (List.mem_of_mem_take hq)) ht).wf
      · rcases List.mem_append.mp (List.mem_of_mem_take ht) with ht | ht
        · exact walk_wf _ _ okp.l.wf ht
        · exact walk_wf _ _ okp.r.wf ht
    refine ⟨fun j m H5 => m = (w1 ++ w2).length - j ∧ j ≤ (w1 ++ w2).length ∧ Same H H5 ∧ TS (upd H3 r (.lst (w1 ++ w2))) H5 ∧ H5 r = some (.lst (w1 ++ w2)) ∧ ∃ kvs, H5 Dl = some (.dK kvs) ∧ TD K H5 (pairTs (ps.take i) ++ (p.1.walk ++ p.2.walk).take j) kvs,
      ⟨(w1 ++ w2).length, rfl, Nat.zero_le _, s1.trans s4, TS.refl _, upd_same, kvs, s4 _ _ hD, ?_⟩, ?_⟩
    · rw [List.take_zero, List.append_nil]
      exact td.ts (TS.same s4)
    rintro j m H5 ⟨rfl, hj, s5, t5, hr5, kvs5, hD5, td5⟩
    by_cases hjl : j < (w1 ++ w2).length
    · refine .inr ⟨⟨_, (w1 ++ w2)[j], SqL.of hr5, List.getElem?_eq_getElem hjl⟩, fun H6 => (w1 ++ w2).length - (j + 1) = (w1 ++ w2).length - (j + 1) ∧ j + 1 ≤ (w1 ++ w2).length ∧ Same H H6 ∧ TS (upd H3 r (.lst (w1 ++ w2))) H6 ∧ H6 r = some (.lst (w1 ++ w2)) ∧ ∃ kvs, H6 Dl = some (.dK kvs) ∧ TD K H6 (pairTs (ps.take i) ++ (p.1.walk ++ p.2.walk).take (j + 1)) kvs,
        fun H6 z => ⟨(w1 ++ w2).length - (j + 1), by omega, z⟩, fun x6 H6 y6 => ?_⟩
      obtain ⟨e6, y6⟩ := y6
      have e6 := e6.symm
      subst e6
      have hx6 := y6 _ (SqL.of hr5)
      obtain ⟨u, eu, hu⟩ := mapD_get (DpAll.ts t5 _ _ (flats_tDs _) haw) hx6
      have mu : u ∈ p.1.walk ++ p.2.walk := List.mem_of_getElem? eu
      have oku : TOk u := by
        rcases List.mem_append.mp mu with h | h
        · exact walk_ok okp.l h
        · exact walk_ok okp.r h
      refine ⟨rfl, _, rfl, x6, u, rfl, hu, oku.wf, oku.dp, by have := oku.sz; omega, fun H7 s7 => ?_⟩
      have hD7 := s7 _ _ hD5
      have lk : kvs5.length < sizeLine := by
        have b1 := td5.len (okt j)
        have b2 := vocab_le (okt j) (us := pairTs (ps.take i) ++ (p.1.walk ++ p.2.walk).take j) fun t h => h
        have b3 := pairTs_len (ps.take i) fun q hq => ok q (List.mem_of_mem_take hq)
        have b4 : (ps.take i).length ≤ 20 := by rw [List.length_take]; omega
        rw [List.length_append] at b2
        have b5 : ((p.1.walk ++ p.2.walk).take j).length ≤ 94 := by rw [List.length_take, List.length_append]; omega
        exact Nat.lt_of_le_of_lt (show kvs5.length ≤ 5000 by omega) (by show 5000 < sizeLine; decide)
      have t7 : TS H5 (upd H7 Dl (.dK (putK kvs5 (tk u) x6))) := (TS.same s7).trans (TS.upd hD7 trivial)
      have nrD : r ≠ Dl := ne_of hr5 hD5 (by intro z; cases z)
      refine ⟨_, rfl, kvs5, tk u, rfl, hD7, lk, rfl, hjl, fun b o hb => ?_, t5.trans t7, ?_, _, upd_same, ?_⟩
      · rw [upd_ne (ne_of_none hb nD)]
        exact s7 _ _ (s5 _ _ hb)
      · rw [upd_ne nrD]; exact s7 _ _ hr5
      · have wj := okt (j + 1)
        rw [take_snoc eu, ← List.append_assoc] at wj ⊢
        exact (td5.ts t7).put (TmAt.ts hu t7) wj
    · have ej : j = (w1 ++ w2).length := by omega
      refine .inl ⟨⟨_, SqL.of hr5, by omega⟩, rfl, hlt, s5, kvs5, hD5, ?_⟩
      rw [pairTs_take ep]
      rw [ej, elen, List.take_length] at td5
      exact td5
  · have ei : i = us.length := by omega
    refine .inl ⟨⟨us, s1.seq hS, by omega⟩, ?_⟩
    rw [ei, hul, List.take_length] at td
    have wf := pairTs_wf wfp
    obtain ⟨ks, ek, hk⟩ := td.keys
    have lk := td.len wf
    have lk2 : ks.length = kvs.length := by have := congrArg List.length ek; simpa using this.symm
    refine ⟨_, rfl, Dl, kvs, ks.map (fun t => strC t.txt), rfl, Rd.of hD, by rw [ek, List.map_map]; rfl, by rw [List.length_map]; exact Nat.lt_of_le_of_lt (Nat.le_of_eq lk2) (Nat.lt_of_le_of_lt lk h64), fun ys p hp hs np => ?_⟩
    have ey := td.sorted wf ek hk hp hs
    subst ey
    have s2 : Same H1 (upd H1 p (.lst (((vocab (pairTs ps)).map fun t => strC t.txt).map V.str))) := same_upd np
    refine ⟨p, rfl, ⟨_, SqL.of upd_same⟩, fun D2 nD2 => ?_⟩
    have len2 : (((vocab (pairTs ps)).map fun t => strC t.txt).map V.str).length = (vocab (pairTs ps)).length := by simp
    have h64' : (vocab (pairTs ps)).length < 64 := h64
    refine lcG (K := K) nD2 (src_list (SqL.of upd_same)) (fun i => tDs ((vocab (pairTs ps)).take i)) rfl (fun i _ => ⟨flats_tDs _, small1000 (by simp only [tDs, List.length_map, List.length_take]; omega)⟩) (fun i x H2 F G hi s3 _ hx kF kG => ?_) (fun H2 vs2 s3 hD2 ha2 => ?_)
    · rw [len2] at hi
      have ei : (vocab (pairTs ps))[i]? = some (vocab (pairTs ps))[i] := List.getElem?_eq_getElem hi
      have hx' : x = .str (strC ((vocab (pairTs ps))[i]).txt) := by
        rw [List.getElem?_map, List.getElem?_map, ei] at hx
        simpa using hx.symm
      subst hx'
      obtain ⟨v, ev, hv⟩ := td.val _ (((vocab_is _ wf).mem _).mp (List.getElem_mem hi))
      refine ⟨rfl, _, rfl, _, rfl, Dl, v, rfl, ?_, kF _ _ _ (Same.refl _) ((hv.ts (TS.same s2)).ts (TS.same s3)) ?_⟩
      · have := DGet.k (k := tk (vocab (pairTs ps))[i]) (s3 _ _ (s2 _ _ hD))
        rw [ev] at this
        exact this
      · rw [take_snoc ei, tDs_app]; rfl
    · have nD2' : H D2 = none := s1.free (s2.free nD2)
      refine q D2 vs2 H2 ((s1.trans s2).trans s3) nD2' hD2 ?_
      rw [len2, List.take_length] at ha2
      exact ha2
end
end FD
end T_D3

section T_D4
set_option Elab.async false
set_option linter.all false
set_option maxRecDepth 100000
/-! The walk: rules that are checked. -/
namespace FD
open PySem L2 FF FW
/-- what may be asked -/
structure SOk (rs : List Rl) (p : Tm × Tm) : Prop where
  rl : ∀ r ∈ rs, ROk r
  nd : (rs.map (·.1)).Nodup
  le : rs.length ≤ 12
  gl : POk p
  wd : (wordsOf (rs.map (·.2) ++ [p])).length ≤ 24
def rpairs (rs : List Rl) (p : Tm × Tm) : List (Tm × Tm) := rs.map (·.2) ++ [p]
theorem SOk.pairs {rs : List Rl} {p : Tm × Tm} (h : SOk rs p) : ∀ q ∈ rpairs rs p, POk q := fun q hq => by
  rcases List.mem_append.mp hq with hq | hq
  · obtain ⟨r, hr, rfl⟩ := List.mem_map.mp hq
    exact (h.rl r hr).pr
  · have : q = p := by simpa using hq
    subst this; exact h.gl
theorem NoTup.lst {xs : List V} : NoTup (.lst xs) := trivial
section
variable {P : Program} {w : World} {K : PySem.W.Frag} {mg : Str → Option Value} {base : Heap}
/-! ### pairs_in -/
def spPairsIn (K : PySem.W.Frag) : Sp := fun vs H Q _ => ∃ (a : Addr) (g : V) (us : List V) (rs : List Rl) (p : Tm × Tm), vs = [.ref a, g] ∧ SqL K H a us ∧ DpAll K H us (rs.map rlD) ∧ Dp K H g (prD2 p) ∧ rs.length ≤ 100 ∧
  ∀ r ws H', Same H H' → H r = none → H' r = some (.lst ws) → DpAll K H' ws ((rpairs rs p).map prD2) → Q (.ref r) H'
abbrev n28 : List Str := ["rules", "goal", "name", "left", "right"]
theorem sc28 : FnScope n28 ["rules", "goal"] (defScope (topS 28)) := ⟨rfl, rfl, rfl, by decide +kernel, rfl, by decide +kernel, by decide +kernel⟩
theorem ok_pairsIn (D : Df K mg "pairs_in" (topS 28) ["rules", "goal"]) : Fn P w K mg base 1 "pairs_in" ["rules", "goal"] (spPairsIn K) := by
  refine D.ok sc28 (fun vs H Q E h => ?_) (fun f cdv A outer s H vs Q E hr h => ?_)
  · obtain ⟨a, g, us, rs, p, rfl, _⟩ := h
    rfl
  obtain ⟨a, g, us, rs, p, rfl, hS, ha, hg, hl, q⟩ := h
  refine ⟨_, pss_one (ps_ret (pe_op op_cat (pe_lc (own := [("name", 2), ("left", 3), ("right", 4)]) (tt := tYes) (by rfl) sc28.nd (pi_list (pv 0)) (blkOk_by (own := [("name", 2), ("left", 3), ("right", 4)]) (N := n28) (sc := defScope (topS 28)) (by decide +kernel))
      (fun _ _ _ _ _ => pg_tupK K 3 rfl (pgs_cons (pg_name (i := 2) sc28.nd rfl (.inl rfl)) (pgs_cons (pg_name (i := 3) sc28.nd rfl (.inl rfl)) (pgs_cons (pg_name (i := 4) sc28.nd rfl (.inl rfl)) pgs_nil)))) (fun _ _ _ _ _ => pts_nil) (fun _ _ _ _ _ => pe_tup (pa_cons (pv 3) (pa_cons (pv 4) pa_nil))))
    (pe_ifExp (pt_cmpR op_notN (pv 1) pe_non (nomark _)) (pe_lst (pa_cons (pv 1) pa_nil)) (pe_lst pa_nil)))), ?_⟩
  have hul := mapD_len ha
  refine ⟨_, rfl, a, rfl, ⟨_, hS⟩, fun Dl nD => ?_⟩
  refine lcG (K := K) nD (src_list hS) (fun i => ((rs.take i).map (·.2)).map prD2) rfl (fun i _ => ⟨flats_map flat_prD2 _, small1000 (by simp only [List.length_map, List.length_take]; omega)⟩) (fun i x H2 F G hi s2 _ hx kF kG => ?_) (fun H2 vs2 s2 hD2 ha2 => ?_)
  · obtain ⟨r, er, hr⟩ := mapD_get (DpAll.same s2 _ _ ha) hx
    obtain ⟨t, x1, y1, rfl, ht, h1, h2⟩ := rl_inv hr
    refine ⟨t, _, rfl, ht, rfl, _, _, rfl, _, _, rfl, _, _, rfl, rfl, rfl, ?_⟩
    refine ⟨_, rfl, _, rfl, (by show 2 ≤ sizeLine; decide), fun p2 np2 => ?_⟩
    have s3 := same_upd (o := .tup [x1, y1]) np2
    refine kF _ _ (prD2 r.2) s3 (Dp.mk np2 (.cons h1 (.cons h2 .nil))) ?_
    rw [take_snoc er, List.map_append, List.map_append]; rfl
  · obtain ⟨gp, x, y, rfl, _⟩ := pr_inv hg
    refine ⟨_, rfl, rfl, _, rfl, iteT ⟨_, rfl, (by show 1 ≤ sizeLine; decide), fun p2 np2 => ?_⟩⟩
    have s3 := same_upd (o := .lst [V.ref gp]) np2
    have l2 := mapD_len ha2
    have lv : vs2.length = rs.length := by rw [l2]; simp only [List.length_map, List.length_take]; omega
    refine ⟨Dl, p2, vs2, [.ref gp], rfl, rfl, s3 _ _ hD2, upd_same, small (by simp only [List.length_cons, List.length_nil]; omega), fun r nr => ?_⟩
    have s4 := s3.trans (same_upd (o := .lst (vs2 ++ [V.ref gp])) nr)
    refine q r _ _ (s2.trans s4) ((s2.trans s3).free nr) upd_same ?_
    rw [rpairs, List.map_append]
    rw [hul, List.take_length] at ha2
    exact DpAll.append (DpAll.same s4 _ _ ha2) (.cons (Dp.same (s2.trans s4) _ _ hg) .nil)
/-! ### need_list -/
def spNeed (K : PySem.W.Frag) : Sp := fun vs H Q _ => ∃ (a : Addr) (us : List V) (rs : List Rl), vs = [.ref a] ∧ SqL K H a us ∧ DpAll K H us (rs.map rlD) ∧ (∀ r ∈ rs, ROk r) ∧ (rs.map (·.1)).Nodup ∧ rs.length ≤ 12 ∧ ∀ H', Same H H' → Q .non H'
abbrev n29 : List Str := ["rules", "names", "index", "rule"]
theorem sc29 : FnScope n29 ["rules"] (defScope (topS 29)) := ⟨rfl, rfl, rfl, by decide +kernel, rfl, by decide +kernel, by decide +kernel⟩
theorem ok_need (D : Df K mg "need_list" (topS 29) ["rules"]) (B : Bi mg) {tm : Tok} (mM : mg "MAX_RULES" = some (.int 12 tm)) (FR : Fn P w K mg base 9 "is_rule" ["value"] (spRule K)) : Fn P w K mg base 10 "need_list" ["rules"] (spNeed K) := by
  refine D.ok sc29 (fun vs H Q E h => ?_) (fun f cdv A outer s H vs Q E hr h => ?_)
  · obtain ⟨a, us, rs, rfl, _⟩ := h
    rfl
  obtain ⟨a, us, rs, rfl, hS, ha, ok, nd, hl, q⟩ := h
  have hu := hr.units
  refine ⟨_, pss_cons (ps_if (pt_cmpR op_gt (pe_callB call_len (by rfl) B.len b_len (pa_cons (pv 0) pa_nil)) (pe_glob (v := .int 12) (by rfl) mM ⟨_, rfl⟩) (nomark _)) pss_never pss_nil)
    (pss_cons (ps_set (i := 1) sc29.nd rfl (.inl rfl) (pe_lst pa_nil))
    (pss_one (ps_for PassesOwn.never rfl (pi_enum (by rfl) B.enum (pa_cons (pv 0) pa_nil)) (pg_tup rfl (pgs_cons (pg_name (i := 2) sc29.nd rfl (.inl rfl)) (pgs_cons (pg_name (i := 3) sc29.nd rfl (.inl rfl)) pgs_nil)))
      (pss_cons (ps_if (PW.pt (pw_or (pt_not (pt_val (pe_fn FR hr (by rfl) (pa_cons (pv 3) pa_nil)))) (pw_or1 (pt_cmpR (op_inP hu) (pe_ix ix_tup (pv 3) pe_int (fun _ _ => rfl)) (pv 1) (by rfl))))) pss_never pss_nil)
        (pss_one (ps_expr (pe_bm PySem.F.plainAttrs_list PySem.F.slot_list_append PySem.F.type_list_append mt_append (pv 1) (pa_cons (pe_ix ix_tup (pv 3) pe_int (fun _ _ => rfl)) pa_nil)))))))), ?_⟩
  have hul := mapD_len ha
  refine ⟨_, rfl, _, us.length, rfl, .inl ⟨_, hS, rfl⟩, _, _, rfl, rfl, _, rfl, ?_⟩
  rw [decide_eq_false (show ¬ ((us.length : Nat) : Int) > 12 by omega)]
  refine iteF ⟨(by show 0 ≤ sizeLine; decide), fun l nl => ?_⟩
  have s1 : Same H (upd H l (.lst [])) := same_upd nl
  refine ⟨_, rfl, a, us, rfl, s1.seq hS, ?_⟩
  refine forS us.length (fun i v H H' => ∃ T x, v = .ref T ∧ H T = none ∧ H' = upd H T (.tup [.int (i : Nat), x]) ∧ us[i]? = some x) (fun i σ H2 => ∃ x y, σ = [some (.ref a), some (.ref l), x, y] ∧ Same H H2 ∧ H2 l = some (.lst (((rs.take i).map fun r => strC r.1).map V.str))) ⟨none, none, rfl, s1, upd_same⟩
    (fun i σ H2 _ ⟨_, _, _, s2, _⟩ => srcE (s2.seq hS)) ?_ ?_
  · rintro i v σ H2 H3 hi ⟨x0, y0, rfl, s2, hl2⟩ ⟨T, x, rfl, nT, rfl, hx⟩
    obtain ⟨r, er, hr⟩ := mapD_get (DpAll.same s2 _ _ ha) hx
    have okr := ok r (List.mem_of_getElem? er)
    have s3 := same_upd (o := .tup [.int (i : Nat), x]) nT
    have hr3 := Dp.same s3 _ _ hr
    obtain ⟨t, x1, y1, rfl, ht, h1, h2⟩ := rl_inv hr3
    refine ⟨T, _, rfl, SqT.of upd_same, rfl, _, _, rfl, _, _, rfl, rfl, ?_⟩
    refine ⟨_, rfl, _, r, rfl, hr3, okr, fun H4 s4 => ⟨_, rfl, ?_⟩⟩
    refine iteF ?_
    have hl4 := s4 _ _ (s3 _ _ hl2)
    refine ⟨_, rfl, t, _, _, _, rfl, rfl, SqT.same s4 ht, atI_nat (j := 0) rfl, _, rfl, _, _, .str _, .inl (.lst (SqL.of hl4) DpAll.strs), sh_str _, plain_strs _, _, rfl, ?_⟩
    rw [any_no (flats_map flat_str _) (flat_str _)]
    · refine iteF ?_
      have ln : (((rs.take i).map fun r => strC r.1).map V.str).length ≤ 1000 := by simp only [List.length_map, List.length_take]; omega
      refine ⟨_, rfl, .inl ⟨rfl, _, SqL.of hl4⟩, _, rfl, t, _, _, _, rfl, rfl, SqT.same s4 ht, atI_nat (j := 0) rfl, l, _, _, rfl, rfl, hl4, small1000 ln, ?_⟩
      refine ⟨_, _, rfl, fun b o hb => ?_, ?_⟩
      · rw [upd_ne (ne_of_none hb nl)]
        exact s4 _ _ (s3 _ _ (s2 _ _ hb))
      · rw [upd_same, take_snoc er]; simp
    · intro hm
      obtain ⟨s, hs, e⟩ := List.mem_map.mp hm
      obtain ⟨r', hr', e'⟩ := List.mem_map.mp hs
      simp only [PyData.str.injEq] at e
      subst e'
      have en : r'.1 = r.1 := strC_inj e
      have hi' : i < rs.length := by omega
      have nd2 := nd
      rw [← List.take_append_drop i rs, List.map_append] at nd2
      have h4 := (List.nodup_append.mp nd2).2.2
      have m2 : r ∈ rs.drop i := by
        refine List.mem_of_getElem? (i := 0) ?_
        rw [List.getElem?_drop]; exact er
      exact h4 r'.1 (List.mem_map.mpr ⟨r', hr', rfl⟩) r.1 (List.mem_map.mpr ⟨r, m2, rfl⟩) en
  · rintro σ H2 ⟨x0, y0, rfl, s2, _⟩
    exact q H2 s2
/-! ### checked_words, goal_words -/
def spChecked (K : PySem.W.Frag) : Sp := fun vs H Q _ => ∃ (a : Addr) (g : V) (us : List V) (rs : List Rl) (p : Tm × Tm), vs = [.ref a, g] ∧ SqL K H a us ∧ DpAll K H us (rs.map rlD) ∧ Dp K H g (prD2 p) ∧ SOk rs p ∧
  ∀ r ws H', Same H H' → H r = none → H' r = some (.lst ws) → DpAll K H' ws (tDs (wordsOf (rpairs rs p))) → Q (.ref r) H'
abbrev n30 : List Str := ["rules", "goal", "words"]
theorem sc30 : FnScope n30 ["rules", "goal"] (defScope (topS 30)) := ⟨rfl, rfl, rfl, by decide +kernel, rfl, by decide +kernel, by decide +kernel⟩
theorem ok_checked (D : Df K mg "checked_words" (topS 30) ["rules", "goal"]) (B : Bi mg) {tm : Tok} (mM : mg "MAX_TERMS" = some (.int 24 tm)) (FN : Fn P w K mg base 10 "need_list" ["rules"] (spNeed K)) (FG : Fn P w K mg base 8 "is_goal" ["value"] (spGoal K))
    (FP : Fn P w K mg base 1 "pairs_in" ["rules", "goal"] (spPairsIn K)) (FV : Fn P w K mg base 7 "words_of" ["pairs"] (spWords K)) : Fn P w K mg base 11 "checked_words" ["rules", "goal"] (spChecked K) := by
  refine D.ok sc30 (fun vs H Q E h => ?_) (fun f cdv A outer s H vs Q E hr h => ?_)
  · obtain ⟨a, g, us, rs, p, rfl, _⟩ := h
    rfl
  obtain ⟨a, g, us, rs, p, rfl, hS, ha, hg, ok, q⟩ := h
  refine ⟨_, pss_cons (ps_expr (pe_fn FN hr (by rfl) (pa_cons (pv 0) pa_nil)))
    (pss_cons (ps_if (PW.pt (pw_and (pt_cmpR op_notN (pv 1) pe_non (nomark _)) (pw_and1 (pt_not (pt_val (pe_fn FG (hr.mono (by decide)) (by rfl) (pa_cons (pv 1) pa_nil))))))) pss_never pss_nil)
    (pss_cons (ps_set (i := 2) sc30.nd rfl (.inl rfl) (pe_fn FV (hr.mono (by decide)) (by rfl) (pa_cons (pe_fn FP (hr.mono (by decide)) (by rfl) (pa_cons (pv 0) (pa_cons (pv 1) pa_nil))) pa_nil)))
    (pss_cons (ps_if (pt_cmpR op_gt (pe_callB call_len (by rfl) B.len b_len (pa_cons (pv 2) pa_nil)) (pe_glob (v := .int 24) (by rfl) mM ⟨_, rfl⟩) (nomark _)) pss_never pss_nil)
    (pss_one (ps_ret (pv 2)))))), ?_⟩
  refine ⟨_, rfl, a, us, rs, rfl, hS, ha, ok.rl, ok.nd, ok.le, fun H1 s1 => ?_⟩
  have hg1 := Dp.same s1 _ _ hg
  obtain ⟨gp, x, y, rfl, _⟩ := pr_inv hg
  refine ⟨_, rfl, rfl, _, rfl, iteT ?_⟩
  refine ⟨_, rfl, _, p, rfl, hg1, ok.gl, fun H2 s2 => ⟨_, rfl, iteF ?_⟩⟩
  have s12 := s1.trans s2
  refine ⟨_, rfl, _, rfl, a, _, us, rs, p, rfl, s12.seq hS, DpAll.same s12 _ _ ha, Dp.same s12 _ _ hg, Nat.le_trans ok.le (by decide), fun r ws H3 s3 nr hr3 ha3 => ?_⟩
  refine ⟨r, ws, rpairs rs p, rfl, SqL.of hr3, ha3, ok.pairs, ?_, Nat.lt_of_le_of_lt ok.wd (by decide), fun r2 w2 H4 s4 nr2 hr4 ha4 => ?_⟩
  · have := ok.le
    rw [rpairs, List.length_append, List.length_map]; simp only [List.length_cons, List.length_nil]; omega
  have l4 := mapD_len ha4
  have wd : (wordsOf (rpairs rs p)).length ≤ 24 := ok.wd
  refine ⟨_, rfl, _, w2.length, rfl, .inl ⟨_, SqL.of hr4, rfl⟩, _, _, rfl, rfl, _, rfl, ?_⟩
  rw [decide_eq_false (show ¬ ((w2.length : Nat) : Int) > 24 by omega)]
  refine iteF ⟨_, rfl, q r2 w2 H4 (s12.trans (s3.trans s4)) ((s12.trans s3).free nr2) hr4 ha4⟩
theorem sc31 : FnScope ["rules", "goal"] ["rules", "goal"] (defScope (topS 31)) := ⟨rfl, rfl, rfl, by decide +kernel, rfl, by decide +kernel, by decide +kernel⟩
theorem ok_goalWords (D : Df K mg "goal_words" (topS 31) ["rules", "goal"]) (FN : Fn P w K mg base 10 "need_list" ["rules"] (spNeed K)) (FC : Fn P w K mg base 11 "checked_words" ["rules", "goal"] (spChecked K)) : Fn P w K mg base 12 "goal_words" ["rules", "goal"] (spChecked K) := by
  refine D.ok sc31 (fun vs H Q E h => ?_) (fun f cdv A outer s H vs Q E hr h => ?_)
  · obtain ⟨a, g, us, rs, p, rfl, _⟩ := h
    rfl
  obtain ⟨a, g, us, rs, p, rfl, hS, ha, hg, ok, q⟩ := h
  refine ⟨_, pss_cons (ps_expr (pe_fn FN (hr.mono (by decide)) (by rfl) (pa_cons (pv 0) pa_nil)))
    (pss_cons (ps_if (pt_cmpR op_isN (pv 1) pe_non (nomark _)) pss_never pss_nil)
    (pss_one (ps_ret (pe_fn FC hr (by rfl) (pa_cons (pv 0) (pa_cons (pv 1) pa_nil)))))), ?_⟩
  refine ⟨_, rfl, a, us, rs, rfl, hS, ha, ok.rl, ok.nd, ok.le, fun H1 s1 => ?_⟩
  obtain ⟨gp, x, y, rfl, _⟩ := pr_inv hg
  refine ⟨_, rfl, rfl, _, rfl, iteF ?_⟩
  exact ⟨_, rfl, _, rfl, a, _, us, rs, p, rfl, s1.seq hS, DpAll.same s1 _ _ ha, Dp.same s1 _ _ hg, ok, fun r ws H2 s2 nr hr2 ha2 => q r ws H2 (s1.trans s2) (s1.free nr) hr2 ha2⟩
end
end FD
end T_D4

section T_D5
set_option Elab.async false
set_option linter.all false
set_option maxRecDepth 100000
/-! The walk: the closure's object; holds, note. -/
namespace FD
open PySem L2 FF FW
/-! ### heaps in which tuples stay -/
structure Tt (H H' : Hp) : Prop where
  ts : FW.TS H H'
  tq : ∀ a xs, H a = some (.tup xs) → H' a = some (.tup xs)
theorem Tt.same {H H' : Hp} (h : Same H H') : Tt H H' := ⟨TS.same h, fun a xs e => h a _ e⟩
theorem Tt.refl (H : Hp) : Tt H H := Tt.same (Same.refl H)
theorem Tt.trans {H H1 H2 : Hp} (a : Tt H H1) (b : Tt H1 H2) : Tt H H2 := ⟨a.ts.trans b.ts, fun p xs h => b.tq p xs (a.tq p xs h)⟩
theorem Tt.upd {H : Hp} {a : Addr} {o u : HO} (h : H a = some u) (n : NoTup u) : Tt H (upd H a o) :=
  ⟨TS.upd h n, fun b xs e => by rw [upd_ne (fun z => by subst z; rw [h] at e; cases e; exact n)]; exact e⟩
/-- all but what stands at two places is as it was -/
def Kp (a b : Addr) (H H' : Hp) : Prop := ∀ x o, H x = some o → x ≠ a → x ≠ b → H' x = some o
theorem Kp.refl {a b : Addr} (H : Hp) : Kp a b H H := fun _ _ h _ _ => h
theorem Kp.same {a b : Addr} {H H' : Hp} (h : Same H H') : Kp a b H H' := fun x o e _ _ => h x o e
theorem Kp.trans {a b : Addr} {H H1 H2 : Hp} (h : Kp a b H H1) (k : Kp a b H1 H2) : Kp a b H H2 := fun x o e n m => k x o (h x o e n m) n m
theorem Kp.tt {a b : Addr} {H H' : Hp} {u v : HO} (h : Kp a b H H') (ha : H a = some u) (hb : H b = some v) (nu : NoTup u) (nv : NoTup v) : Tt H H' := by
  have key : ∀ x o, H x = some o → ¬ NoTup o → H' x = some o := fun x o e n => by
    refine h x o e (fun z => n ?_) (fun z => n ?_)
    · subst z; rw [ha] at e; cases e; exact nu
    · subst z; rw [hb] at e; cases e; exact nv
  refine ⟨fun x xs q => ?_, fun x xs e => key x _ e id⟩
  rcases q with q | ⟨o, q⟩
  · exact .inl (key x _ q id)
  · exact .inr ⟨o, key x _ q id⟩
theorem kp_upd1 {a b : Addr} {H : Hp} {o : HO} : Kp a b H (L2.upd H a o) := fun x u e n _ => by rw [upd_ne n]; exact e
theorem kp_upd2 {a b : Addr} {H : Hp} {o : HO} : Kp a b H (L2.upd H b o) := fun x u e _ n => by rw [upd_ne n]; exact e
/-! ### pairs and reasons -/
def prN (p : Pr) : PyData := .tuple [.int (p.1 : Nat), .int (p.2 : Nat)]
def PT (H : Hp) (v : V) (p : Pr) : Prop := ∃ q, v = .ref q ∧ H q = some (.tup [.int (p.1 : Nat), .int (p.2 : Nat)])
def RT (H : Hp) (v : V) : Rsn → Prop
  | .same => ∃ q, v = .ref q ∧ H q = some (.tup [.str "same"])
  | .part => ∃ q, v = .ref q ∧ H q = some (.tup [.str "part"])
  | .rule nm => ∃ q, v = .ref q ∧ H q = some (.tup [.str "rule", .str (strC nm)])
  | .chain a b => ∃ q x y, v = .ref q ∧ H q = some (.tup [.str "chain", x, y]) ∧ PT H x a ∧ PT H y b
  | .into ps => ∃ q q2 xs, v = .ref q ∧ H q = some (.tup [.str "into", .ref q2]) ∧ H q2 = some (.tup xs) ∧ Paired (PT H) xs ps
  | .out ps => ∃ q q2 xs, v = .ref q ∧ H q = some (.tup [.str "out", .ref q2]) ∧ H q2 = some (.tup xs) ∧ Paired (PT H) xs ps
section
variable {H H' : Hp}
theorem PT.tt {v : V} {p : Pr} (h : PT H v p) (t : Tt H H') : PT H' v p := by obtain ⟨q, e, m⟩ := h; exact ⟨q, e, t.tq _ _ m⟩
theorem PTs.tt {vs : List V} {ps : List Pr} (h : Paired (PT H) vs ps) (t : Tt H H') : Paired (PT H') vs ps := Paired.mapP h fun _ _ q => q.tt t
theorem RT.tt {v : V} : ∀ {r : Rsn}, RT H v r → Tt H H' → RT H' v r
  | .same, ⟨q, e, m⟩, t => ⟨q, e, t.tq _ _ m⟩
  | .part, ⟨q, e, m⟩, t => ⟨q, e, t.tq _ _ m⟩
  | .rule _, ⟨q, e, m⟩, t => ⟨q, e, t.tq _ _ m⟩
  | .chain _ _, ⟨q, x, y, e, m, h1, h2⟩, t => ⟨q, x, y, e, t.tq _ _ m, h1.tt t, h2.tt t⟩
  | .into _, ⟨q, q2, xs, e, m, h1, h2⟩, t => ⟨q, q2, xs, e, t.tq _ _ m, t.tq _ _ h1, PTs.tt h2 t⟩
  | .out _, ⟨q, q2, xs, e, m, h1, h2⟩, t => ⟨q, q2, xs, e, t.tq _ _ m, t.tq _ _ h1, PTs.tt h2 t⟩
theorem PT.new {q : Addr} {i j : Nat} : PT (L2.upd H q (.tup [.int (i : Nat), .int (j : Nat)])) (.ref q) (i, j) := ⟨q, rfl, upd_same⟩
end
def pk (p : Pr) : List L2.Key := [.inl (p.1 : Nat), .inl (p.2 : Nat)]
theorem pk_inj {p q : Pr} (h : pk p = pk q) : p = q := by
  simp only [pk, List.cons.injEq, Sum.inl.injEq, and_true] at h
  exact Prod.ext (Int.ofNat.inj h.1) (Int.ofNat.inj h.2)
theorem pk_kV (p : Pr) : (pk p).map kV = [V.int (p.1 : Nat), V.int (p.2 : Nat)] := rfl
/-- the rows of the dict -/
def Rows (H : Hp) (kvs : List (List L2.Key × V)) (s : CSt) : Prop := Paired (fun (x : List L2.Key × V) (e : Pr × Rsn) => x.1 = pk e.1 ∧ RT H x.2 e.2) kvs s
theorem Rows.tt {H H' : Hp} {kvs : List (List L2.Key × V)} {s : CSt} (h : Rows H kvs s) (t : Tt H H') : Rows H' kvs s := Paired.mapP h fun _ _ q => ⟨q.1, q.2.tt t⟩
theorem Rows.some {H : Hp} {kvs : List (List L2.Key × V)} {s : CSt} (h : Rows H kvs s) (p : Pr) : (valV kvs (pk p)).isSome = decide (p ∈ keys s) := by
  unfold Rows at h
  induction h with
  | nil => simp [valV, keys]
  | @cons x e xs es h t ih =>
    by_cases c : e.1 = p
    · subst c
      rw [valV_pos h.1]; simp [keys]
    · have ne : ¬ x.1 = pk p := fun z => c (pk_inj (by rw [← h.1, z]))
      rw [valV_neg ne, ih]
      have : p ∈ keys (e :: es) ↔ p ∈ keys es := by
        simp only [keys, List.map_cons, List.mem_cons]
        exact ⟨fun z => z.resolve_left fun q => c q.symm, .inr⟩
      simp only [this]
theorem Rows.get {H : Hp} {kvs : List (List L2.Key × V)} {s : CSt} (h : Rows H kvs s) {p : Pr} {r : Rsn} (e : rsnOf s p = .some r) : ∃ v, valV kvs (pk p) = .some v ∧ RT H v r := by
  unfold Rows at h
  induction h with
  | nil => simp [rsnOf] at e
  | @cons x y xs es h t ih =>
    by_cases c : y.1 = p
    · subst c
      refine ⟨x.2, valV_pos h.1, ?_⟩
      have : y.2 = r := by simpa [rsnOf] using e
      rw [← this]; exact h.2
    · have ne : ¬ x.1 = pk p := fun z => c (pk_inj (by rw [← h.1, z]))
      rw [valV_neg ne]
      refine ih ?_
      unfold rsnOf at e ⊢
      rw [List.find?_cons_of_neg (by simpa using c)] at e
      exact e
theorem Rows.len {H : Hp} {kvs : List (List L2.Key × V)} {s : CSt} (h : Rows H kvs s) : kvs.length = s.length := Paired.length h
/-! ### the object -/
structure Ad where
  c : Addr
  dx : Addr
  aw : Addr
  an : Addr
  ar : Addr
  ao : Addr
  ai : Addr
def cfl (A : Ad) : List (Str × V) := [("words", .ref A.aw), ("number", .ref A.an), ("reasons", .ref A.ar), ("order", .ref A.ao), ("inner", .ref A.ai)]
theorem cf_w (A : Ad) : (cfl A).lookup ("words" : Str) = some (.ref A.aw) := by rfl
theorem cf_n (A : Ad) : (cfl A).lookup ("number" : Str) = some (.ref A.an) := by rfl
theorem cf_r (A : Ad) : (cfl A).lookup ("reasons" : Str) = some (.ref A.ar) := by rfl
theorem cf_o (A : Ad) : (cfl A).lookup ("order" : Str) = some (.ref A.ao) := by rfl
theorem cf_i (A : Ad) : (cfl A).lookup ("inner" : Str) = some (.ref A.ai) := by rfl
theorem cf_holds (A : Ad) : (cfl A).lookup ("holds" : Str) = none := by rfl
theorem cf_note (A : Ad) : (cfl A).lookup ("note" : Str) = none := by rfl
theorem cf_begin (A : Ad) : (cfl A).lookup ("begin" : Str) = none := by rfl
theorem cf_finish (A : Ad) : (cfl A).lookup ("finish" : Str) = none := by rfl
theorem cf_widen (A : Ad) : (cfl A).lookup ("widen" : Str) = none := by rfl
theorem cf_pairs (A : Ad) : (cfl A).lookup ("pairs" : Str) = none := by rfl
theorem cf_goal (A : Ad) : (cfl A).lookup ("has_goal" : Str) = none := by rfl
/-- the closure stands, its pairs so far are s -/
structure CA (K : PySem.W.Frag) (w : World) (C : Addr) (V_ : List Tm) (A : Ad) (H : Hp) (s : CSt) : Prop where
  ob : H A.c = some (.ins C A.dx (cfl A))
  wd : ∃ ws, H A.aw = some (.lst ws) ∧ DpAll K H ws (tDs V_)
  nu : ∃ kvs, H A.an = some (dN w A.an kvs) ∧ NAt K H kvs ∧ ∀ (i : Nat) t, V_[i]? = some t → valN kvs (tkey t) = some (.int (i : Nat))
  inn : ∃ is, H A.ai = some (.lst is) ∧ is.length = V_.length ∧ ∀ (i : Nat) v, is[i]? = some v → ∃ q, v = .ref q ∧ q ≠ A.ao ∧ H q = some (.lst ((((wdOf V_ []).inner i).map fun n => ((n : Nat) : Int)).map V.int))
  ne : A.aw ≠ A.ao ∧ A.ai ≠ A.ao
  rs : ∃ kvs, H A.ar = some (.dT kvs) ∧ Rows H kvs s
  od : ∃ os, H A.ao = some (.lst os) ∧ Paired (PT H) os (keys s)
theorem wd_in (V_ : List Tm) (rs rs' : List Rl) (i : Nat) : (wdOf V_ rs).inner i = (wdOf V_ rs').inner i := rfl
section
variable {K : PySem.W.Frag} {w : World} {C : Addr} {V_ : List Tm} {A : Ad} {H H' : Hp} {s : CSt}
theorem CA.tt (h : CA K w C V_ A H s) (k : Kp A.ar A.ao H H') : Tt H H' := by
  obtain ⟨kvs, e, _⟩ := h.rs
  obtain ⟨os, f, _⟩ := h.od
  exact k.tt e f trivial trivial
theorem CA.move {s' : CSt} (h : CA K w C V_ A H s) (k : Kp A.ar A.ao H H') (rs : ∃ kvs, H' A.ar = some (.dT kvs) ∧ Rows H' kvs s') (od : ∃ os, H' A.ao = some (.lst os) ∧ Paired (PT H') os (keys s')) : CA K w C V_ A H' s' := by
  have t := h.tt k
  obtain ⟨kr, er, rr⟩ := h.rs
  obtain ⟨oo, eo, ro⟩ := h.od
  have nr : ∀ {x o}, H x = some o → (∀ z, o ≠ .dT z) → x ≠ A.ar := fun {x o} e n z => by
    rw [z, er] at e; exact n kr (Option.some.inj e).symm
  refine ⟨?_, ?_, ?_, ?_, h.ne, rs, od⟩
  · refine k _ _ h.ob (nr h.ob fun z e => by cases e) fun z => ?_
    have := h.ob; rw [z, eo] at this; cases this
  · obtain ⟨ws, e, d⟩ := h.wd
    exact ⟨ws, k _ _ e (nr e fun z e => by cases e) h.ne.1, DpAll.ts t.ts _ _ (flats_tDs _) d⟩
  · obtain ⟨kvs, e, n, f⟩ := h.nu
    refine ⟨kvs, k _ _ e (nr e fun z e => by cases e) (fun z => ?_), n.ts t.ts, f⟩
    rw [z, eo] at e; cases e
  · obtain ⟨is, e, l, f⟩ := h.inn
    refine ⟨is, k _ _ e (nr e fun z e => by cases e) h.ne.2, l, fun i v hv => ?_⟩
    obtain ⟨q, e1, e2, e3⟩ := f i v hv
    exact ⟨q, e1, e2, k _ _ e3 (nr e3 fun z e => by cases e) e2⟩
theorem CA.same (h : CA K w C V_ A H s) (k : Same H H') : CA K w C V_ A H' s := by
  obtain ⟨kr, er, rr⟩ := h.rs
  obtain ⟨oo, eo, ro⟩ := h.od
  exact h.move (Kp.same k) ⟨kr, k _ _ er, rr.tt (Tt.same k)⟩ ⟨oo, k _ _ eo, PTs.tt ro (Tt.same k)⟩
end
/-! ### methods -/
section
variable (P : Program) (w : World) (K : PySem.W.Frag) (mg : Str → Option Value) (base : Heap) (C : Addr)
def Mn (k : Nat) (m : Str) (ps : List Str) (sp : Sp) : Prop := ∃ f fd, FnOk P w K mg base CX0 k f fd ps sp ∧ Binds K fd ps [] ∧ Meth K C m f
def Dm (m q : Str) (st : Stmt) (ps : List Str) : Prop := ∃ f fd, Fun K m q st f fd ∧ Binds K fd ps [] ∧ Meth K C m f
end
section
variable {P : Program} {w : World} {K : PySem.W.Frag} {mg : Str → Option Value} {base : Heap} {C : Addr}
theorem Dm.ok {m q : Str} {st : Stmt} {N ps : List Str} {k : Nat} {sp : Sp} (D : Dm K C m q st ps) (S : FnScope N ps (defScope st)) (len : ∀ vs H Q E, sp vs H Q E → vs.length = ps.length)
    (hbody : ∀ (f : Addr) (cdv : Value) (A : Around) (outer : List Env) (s : Shared) (H : Hp) (vs : List V) (Q : VK) (E : XK), Room k (A.deeper (PyProof.Rows.envOfC q (defScope st) s.heap.objs.size f cdv)) → sp vs H Q E →
      ∃ t, PSs (cxOf CX0 P w K mg base N q (defScope st) f cdv A outer s H E).nox (defBody st) t ∧ t { nx := fun _ H' => Q .non H', rt := Q } (start N vs) H) : Mn P w K mg base C (k + 1) m ps sp := by
  obtain ⟨f, fd, F, b, m⟩ := D
  exact ⟨f, fd, F.ok S len (hbody f), b, m⟩
theorem Mn.mono {j k : Nat} {m : Str} {ps : List Str} {sp : Sp} (F : Mn P w K mg base C j m ps sp) (h : j ≤ k) : Mn P w K mg base C k m ps sp := by
  obtain ⟨f, fd, F, r⟩ := F
  exact ⟨f, fd, F.mono h, r⟩
end
section
variable {X : Cx} {k : Nat} {ps : List Str} {sp : Sp} {m : Str} {pos apos : Pos} {o e : Expr} {es : List Expr} {ta : TE} {t : TA} {C : Addr}
theorem pe_mn {pl : Sem Bool} (F : Mn X.prog X.w X.K X.mg X.base C k m ps sp) (c : Cls X.K C) (hr : Room k X.A) (he : PE X o ta) (ha : PA X (e :: es) t)
    (hst : starEach (e :: es) X.env = (false, eval e X.env) :: starEach es X.env := by rfl) (hpl : (backTo pos (starEach es X.env)).any (·.1) = false := by rfl)
    (ht : eval (.Call (.Attribute o m apos) (e :: es) [] pos) X.env = (do
      let ov ← eval o X.env
      standAt apos.atName
      let (f, first) ← holding [ov] (getMethod ov m pl)
      callWith pos f first (backTo pos (starEach (e :: es) X.env)) (backToKw pos (keywordEach [] X.env))) := by rfl) :
    PE X (.Call (.Attribute o m apos) (e :: es) [] pos) (tMeth C m sp [] E0 ta t) := by
  obtain ⟨f, fd, F, b, hm⟩ := F
  exact pe_meth he c hm F hr b .nil pass0 ha hst hpl ht
theorem pe_mn0 {pl : Sem Bool} (F : Mn X.prog X.w X.K X.mg X.base C k m ps sp) (c : Cls X.K C) (hr : Room k X.A) (he : PE X o ta)
    (ht : eval (.Call (.Attribute o m apos) [] [] pos) X.env = (do
      let ov ← eval o X.env
      standAt apos.atName
      let (f, first) ← holding [ov] (getMethod ov m pl)
      callWith pos f first (backTo pos (starEach [] X.env)) (backToKw pos (keywordEach [] X.env))) := by rfl) :
    PE X (.Call (.Attribute o m apos) [] [] pos) (tMeth C m sp [] E0 ta tNil) := by
  obtain ⟨f, fd, F, b, hm⟩ := F
  exact pe_meth0 he c hm F hr b .nil pass0 ht
end
structure Tx (K : PySem.W.Frag) (mg : Str → Option Value) (C : Addr) : Prop where
  cl : Cls K C
  mgC : mg "Closure" = some (.ref C)
  mks : PySem.W.makesIn K C = true
  kc : PySem.W.keepIn K (.ref C) = true
  nW : NoAttr K C "words"
  nN : NoAttr K C "number"
  nR : NoAttr K C "reasons"
  nO : NoAttr K C "order"
  nI : NoAttr K C "inner"
abbrev mS (j : Nat) : Stmt := inClass (topS 1) j
section
variable {P : Program} {w : World} {K : PySem.W.Frag} {mg : Str → Option Value} {base : Heap} {C : Addr}
/-! ### holds -/
def spHolds (K : PySem.W.Frag) (w : World) (C : Addr) : Sp := fun vs H Q _ => ∃ (V_ : List Tm) (A : Ad) (s : CSt) (i j : Nat), vs = [.ref A.c, .int i, .int j] ∧ CA K w C V_ A H s ∧ ∀ H', Same H H' → Q (.bl (decide ((i, j) ∈ keys s))) H'
abbrev nm1 : List Str := ["self", "one", "other"]
theorem scm1 : FnScope nm1 nm1 (defScope (mS 1)) := ⟨rfl, rfl, rfl, by decide +kernel, rfl, by decide +kernel, by decide +kernel⟩
theorem ok_holds (D : Dm K C "holds" "Closure.holds" (mS 1) nm1) (T : Tx K mg C) : Mn P w K mg base C 1 "holds" nm1 (spHolds K w C) := by
  refine D.ok scm1 (fun vs H Q E h => ?_) (fun f cdv A outer s H vs Q E hr h => ?_)
  · obtain ⟨V_, A, s, i, j, rfl, _⟩ := h
    rfl
  obtain ⟨V_, A, s, i, j, rfl, ca, q⟩ := h
  have hu := hu_of hr
  refine ⟨_, pss_one (ps_ret (pe_cmp (pc_din hu (pe_tup (pa_cons (pv 1) (pa_cons (pv 2) pa_nil))) (pe_fld (pv 0) rfl)))), ?_⟩
  refine ⟨_, rfl, _, rfl, (by show 2 ≤ sizeLine; decide), fun p np => ?_⟩
  have s1 : Same H (upd H p (.tup [.int i, .int j])) := same_upd np
  have ca1 := ca.same s1
  obtain ⟨kvs, er, rr⟩ := ca1.rs
  refine ⟨_, rfl, A.c, C, A.dx, _, _, rfl, ca1.ob, T.cl, T.nR, cf_r A, A.ar, _, rfl, DGet.t (k := pk (i, j)) er upd_same, ?_⟩
  rw [rr.some]
  exact q _ s1
/-! ### note -/
def spNote (K : PySem.W.Frag) (w : World) (C : Addr) : Sp := fun vs H Q _ => ∃ (V_ : List Tm) (A : Ad) (s : CSt) (i j : Nat) (x : V) (r : Rsn), vs = [.ref A.c, .int i, .int j, x] ∧ CA K w C V_ A H s ∧ RT H x r ∧ s.length ≤ 1000 ∧
  ∀ H', Kp A.ar A.ao H H' → CA K w C V_ A H' (note s (i, j) r) → Q .non H'
abbrev nm2 : List Str := ["self", "one", "other", "reason"]
theorem scm2 : FnScope nm2 nm2 (defScope (mS 2)) := ⟨rfl, rfl, rfl, by decide +kernel, rfl, by decide +kernel, by decide +kernel⟩
theorem ok_note (D : Dm K C "note" "Closure.note" (mS 2) nm2) (T : Tx K mg C) : Mn P w K mg base C 1 "note" nm2 (spNote K w C) := by
  refine D.ok scm2 (fun vs H Q E h => ?_) (fun f cdv A outer s H vs Q E hr h => ?_)
  · obtain ⟨V_, A, s, i, j, x, r, rfl, _⟩ := h
    rfl
  obtain ⟨V_, A, s, i, j, x, r, rfl, ca, hx, hl, q⟩ := h
  have hu := hu_of hr
  refine ⟨_, pss_one (ps_if (pt_cmp (pc_dnotin hu (pe_tup (pa_cons (pv 1) (pa_cons (pv 2) pa_nil))) (pe_fld (pv 0) rfl)))
    (pss_cons (ps_dput hu (pe_fld (pv 0) rfl) (pe_tup (pa_cons (pv 1) (pa_cons (pv 2) pa_nil))) (pv 3) rfl)
      (pss_one (ps_expr (pe_bm PySem.F.plainAttrs_list PySem.F.slot_list_append PySem.F.type_list_append mt_append (pe_fld (pv 0) rfl) (pa_cons (pe_tup (pa_cons (pv 1) (pa_cons (pv 2) pa_nil))) pa_nil))))) pss_nil), ?_⟩
  refine ⟨_, rfl, _, rfl, (by show 2 ≤ sizeLine; decide), fun p np => ?_⟩
  have s1 : Same H (upd H p (.tup [.int i, .int j])) := same_upd np
  have ca1 := ca.same s1
  obtain ⟨kvs, er, rr⟩ := ca1.rs
  refine ⟨_, rfl, A.c, C, A.dx, _, _, rfl, ca1.ob, T.cl, T.nR, cf_r A, A.ar, _, rfl, DGet.t (k := pk (i, j)) er upd_same, _, rfl, ?_⟩
  rw [rr.some]
  by_cases hm : (i, j) ∈ keys s
  · rw [decide_eq_true hm]
    refine iteF (q _ (Kp.same s1) ?_)
    unfold note
    rw [if_pos hm]
    exact ca1
  · have hv : valV kvs (pk (i, j)) = none := by
      have := rr.some (i, j)
      rw [decide_eq_false hm] at this
      cases e : valV kvs (pk (i, j)) with
      | none => rfl
      | some v => rw [e] at this; cases this
    have rsn : ∀ Hh, Rows Hh kvs s → RT Hh x r → Rows Hh (putK kvs (pk (i, j)) x) (s ++ [((i, j), r)]) := fun Hh a b => by rw [putK_new _ hv]; exact Paired.snoc a ⟨rfl, b⟩
    rw [decide_eq_false hm]
    refine iteT ?_
    refine ⟨_, rfl, _, rfl, A.c, C, A.dx, _, _, rfl, ca1.ob, T.cl, T.nR, cf_r A, _, rfl, _, rfl, (by show 2 ≤ sizeLine; decide), fun p2 np2 => ?_⟩
    have s2 := s1.trans (same_upd (o := .tup [.int i, .int j]) np2)
    have ca2 := ca.same s2
    obtain ⟨os, eo, ro⟩ := ca2.od
    have er2 : (upd (upd H p (.tup [.int i, .int j])) p2 (.tup [.int i, .int j])) A.ar = some (.dT kvs) := same_upd np2 _ _ er
    have lk : kvs.length < sizeLine := small1000 (by rw [rr.len]; exact hl)
    refine ⟨A.ar, _, rfl, DPut.t (k := pk (i, j)) er2 upd_same lk, ?_⟩
    have k3 : Kp A.ar A.ao (upd (upd H p (.tup [.int i, .int j])) p2 (.tup [.int i, .int j])) (upd (upd (upd H p (.tup [.int i, .int j])) p2 (.tup [.int i, .int j])) A.ar (.dT (putK kvs (pk (i, j)) x))) := kp_upd1
    have t3 := ca2.tt k3
    have nra : A.ar ≠ A.ao := fun z => by rw [z, eo] at er2; cases er2
    have nca : A.c ≠ A.ar := fun z => by have := ca2.ob; rw [z, er2] at this; cases this
    have ob3 : (upd (upd (upd H p (.tup [.int i, .int j])) p2 (.tup [.int i, .int j])) A.ar (.dT (putK kvs (pk (i, j)) x))) A.c = some (.ins C A.dx (cfl A)) := by rw [upd_ne nca]; exact ca2.ob
    have eo3 : (upd (upd (upd H p (.tup [.int i, .int j])) p2 (.tup [.int i, .int j])) A.ar (.dT (putK kvs (pk (i, j)) x))) A.ao = some (.lst os) := by rw [upd_ne nra.symm]; exact eo
    refine ⟨_, rfl, A.c, C, A.dx, _, _, rfl, ob3, T.cl, T.nO, cf_o A, .inl ⟨rfl, _, SqL.of eo3⟩, _, rfl, _, rfl, (by show 2 ≤ sizeLine; decide), fun p4 np4 => ?_⟩
    have s4 := same_upd (o := .tup [V.int i, .int j]) np4
    have lo : os.length ≤ 1000 := by rw [Paired.length ro, keys_len]; exact hl
    refine ⟨A.ao, os, _, rfl, rfl, s4 _ _ eo3, small1000 lo, ?_⟩
    have t4 : Tt _ _ := Tt.same s4
    have t5 : Tt _ _ := Tt.upd (o := .lst (os ++ [V.ref p4])) (s4 _ _ eo3) trivial
    have t35 := (t3.trans t4).trans t5
    have kk : Kp A.ar A.ao _ _ := (Kp.same s2).trans (k3.trans ((Kp.same s4).trans (kp_upd2 (o := .lst (os ++ [V.ref p4])))))
    refine q _ kk (ca.move kk ⟨putK kvs (pk (i, j)) x, ?_, ?_⟩ ⟨os ++ [.ref p4], upd_same, ?_⟩)
    · rw [upd_ne nra]
      exact s4 _ _ upd_same
    · unfold note
      rw [if_neg hm]
      exact rsn _ (Rows.tt rr ((Tt.same (same_upd np2)).trans t35)) (hx.tt ((Tt.same s2).trans t35))
    · unfold note
      rw [if_neg hm, keys_append]
      refine Paired.snoc (PTs.tt ro t35) ?_
      exact (PT.new (i := i) (j := j)).tt t5
end
end FD
end T_D5

section T_D6
set_option Elab.async false
set_option linter.all false
set_option maxRecDepth 100000
/-! The walk: begin. -/
namespace FD
open PySem L2 FF FW
theorem fold_snoc {α β : Type} (f : β → α → β) (s : β) {l : List α} {i : Nat} {x : α} (h : l[i]? = some x) : (l.take (i + 1)).foldl f s = f ((l.take i).foldl f s) x := by
  rw [take_snoc h, List.foldl_append]; rfl
theorem range_fold {β : Type} (f : β → Nat → β) (s : β) (i : Nat) : (List.range (i + 1)).foldl f s = f ((List.range i).foldl f s) i := by
  rw [List.range_succ, List.foldl_append]; rfl
section
variable {W : Wd} {s : CSt}
theorem good1 {i : Nat} (hi : i ≤ W.n) (G : Good W s) : Good W ((List.range i).foldl (fun s i => note s (i, i) .same) s) :=
  (foldG (f := fun s i => note s (i, i) .same) (I := Good W) (fun s a ha G => (⟨G.note (p := (a, a)) (r := .same) (Nat.lt_of_lt_of_le (List.mem_range.mp ha) hi) (Nat.lt_of_lt_of_le (List.mem_range.mp ha) hi) rfl (fun _ h => by cases h), note_pre _ _ _⟩ : Good W (note s (a, a) .same) ∧ s <+: note s (a, a) .same)) G).1
theorem good2i (O : W.Ok) {i j : Nat} (hi : i < W.n) (G : Good W s) : Good W (((W.inner i).take j).foldl (partN W i) s) :=
  (foldG (I := Good W) (fun s a ha G => partN_ok O hi (List.mem_of_mem_take ha) G) G).1
theorem good2 (O : W.Ok) {i : Nat} (hi : i ≤ W.n) (G : Good W s) : Good W ((List.range i).foldl (fun s i => (W.inner i).foldl (partN W i) s) s) :=
  (foldG (I := Good W) (fun s a ha G => foldG (I := Good W) (fun s b hb G => partN_ok O (Nat.lt_of_lt_of_le (List.mem_range.mp ha) hi) hb G) G) G).1
theorem good3 (O : W.Ok) {j : Nat} (G : Good W s) : Good W ((W.rules.take j).foldl (fun s r => note s (r.2.1, r.2.2) (.rule r.1)) s) :=
  (foldG (f := fun s r => note s (r.2.1, r.2.2) (.rule r.1)) (I := Good W) (fun s r hr G => (⟨G.note (p := (r.2.1, r.2.2)) (r := .rule r.1) (O.rules r (List.mem_of_mem_take hr)).1 (O.rules r (List.mem_of_mem_take hr)).2 (List.mem_of_mem_take hr) (fun _ h => by cases h), note_pre _ _ _⟩ : Good W (note s (r.2.1, r.2.2) (.rule r.1)) ∧ s <+: note s (r.2.1, r.2.2) (.rule r.1))) G).1
end
/-- the words of a scene, for the closure -/
structure WOk (V_ : List Tm) (rs : List Rl) : Prop where
  ws : Wds V_ rs
  dp : ∀ t ∈ V_, t.depth ≤ 5
  sz : ∀ t ∈ V_, t.size ≤ 24
  le : V_.length ≤ 24
theorem WOk.len {V_ : List Tm} {rs : List Rl} (O : WOk V_ rs) {s : CSt} (G : Good (wdOf V_ rs) s) : s.length ≤ 1000 := by
  have h := G.len
  have n : (wdOf V_ rs).n = V_.length := rfl
  have := O.le
  have : (wdOf V_ rs).n * (wdOf V_ rs).n ≤ 24 * 24 := Nat.mul_le_mul (by omega) (by omega)
  omega
theorem WOk.inl {V_ : List Tm} {rs : List Rl} (O : WOk V_ rs) (i : Nat) (hi : i < V_.length) : ((wdOf V_ rs).inner i).length ≤ 24 := by
  have e : V_[i]? = some V_[i] := List.getElem?_eq_getElem hi
  have m : V_[i] ∈ V_ := List.getElem_mem hi
  rw [wd_inner e, List.length_map]
  have w := O.ws.wf _ m
  have z := O.sz _ m
  generalize V_[i] = t at w z
  cases t with
  | leaf c => simp [Tm.parts]
  | node op ts =>
    have := sizes_len w.2
    have z' : sizes ts ≤ 24 := z
    show ts.length ≤ 24
    omega
theorem tk_ok {t : Tm} (h : t.depth ≤ 5) : KeyOk (tkey t) := by
  refine ⟨Nat.le_trans (tkey_depth t) (by omega), ?_⟩
  cases t with
  | leaf c => exact .inl ⟨_, by simp [tkey]; rfl⟩
  | node op ts => exact .inr ⟨_, by simp [tkey]; rfl⟩
theorem SqL.kp {K : PySem.W.Frag} {H H' : Hp} {a ar ao : Addr} {xs : List V} {kvs : List (List L2.Key × V)} (h : SqL K H a xs) (k : Kp ar ao H H') (er : H ar = some (.dT kvs)) (n : a ≠ ao) : SqL K H' a xs := by
  rcases h with (h | ⟨o, h⟩) | h
  · exact .inl (.inl (k _ _ h (fun z => by rw [z, er] at h; cases h) n))
  · exact .inl (.inr ⟨o, k _ _ h (fun z => by rw [z, er] at h; cases h) n⟩)
  · exact .inr h
section
variable {P : Program} {w : World} {K : PySem.W.Frag} {mg : Str → Option Value} {base : Heap} {C : Addr}
def spBegin (K : PySem.W.Frag) (w : World) (C : Addr) : Sp := fun vs H Q _ => ∃ (V_ : List Tm) (rs : List Rl) (A : Ad) (a : Addr) (us : List V), vs = [.ref A.c, .ref a] ∧ CA K w C V_ A H [] ∧ (∀ H', Kp A.ar A.ao H H' → SqL K H' a us) ∧ DpAll K H us (rs.map rlD) ∧ WOk V_ rs ∧
  ∀ H', Kp A.ar A.ao H H' → CA K w C V_ A H' (beginM (wdOf V_ rs)) → Q .non H'
abbrev nm3 : List Str := ["self", "rules", "at", "word", "part", "name", "left", "right"]
theorem scm3 : FnScope nm3 ["self", "rules"] (defScope (mS 3)) := ⟨rfl, rfl, rfl, by decide +kernel, rfl, by decide +kernel, by decide +kernel⟩
theorem ok_begin (D : Dm K C "begin" "Closure.begin" (mS 3) ["self", "rules"]) (B : Bi mg) (T : Tx K mg C) (FN : Mn P w K mg base C 1 "note" nm2 (spNote K w C)) : Mn P w K mg base C 2 "begin" ["self", "rules"] (spBegin K w C) := by
  refine D.ok scm3 (fun vs H Q E h => ?_) (fun f cdv A outer s H vs Q E hr h => ?_)
  · obtain ⟨V_, rs, A, a, us, rfl, _⟩ := h
    rfl
  obtain ⟨V_, rs, A, a, us, rfl, ca, hst, ha, O, q⟩ := h
  have hu := hr.units
  refine ⟨_, pss_cons (ps_for PassesOwn.never rfl (pi_range1 (by rfl) B.range (pa_cons (pe_callB call_len (by rfl) B.len b_len (pa_cons (pe_fld (pv 0) rfl) pa_nil)) pa_nil)) (pg_name (i := 2) scm3.nd rfl (.inl rfl))
      (pss_one (ps_expr (pe_mn FN T.cl hr (pv 0) (pa_cons (pv 2) (pa_cons (pv 2) (pa_cons (pe_tup (pa_cons pe_str pa_nil)) pa_nil)))))))
    (pss_cons (ps_for PassesOwn.never rfl (pi_enum (by rfl) B.enum (pa_cons (pe_fld (pv 0) rfl) pa_nil)) (pg_tup rfl (pgs_cons (pg_name (i := 2) scm3.nd rfl (.inl rfl)) (pgs_cons (pg_name (i := 3) scm3.nd rfl (.inl rfl)) pgs_nil)))
      (pss_one (ps_for PassesOwn.never rfl (pi_list (pe_ix ix_list (pe_fld (pv 0) rfl) (pv 2) (fun _ _ => rfl))) (pg_name (i := 4) scm3.nd rfl (.inl rfl))
        (pss_one (ps_if (pt_cmpR op_eq (pe_ix ix_tup (pv 3) pe_int (fun _ _ => rfl)) pe_str (nomark _))
          (pss_one (ps_expr (pe_mn FN T.cl hr (pv 0) (pa_cons (pv 2) (pa_cons (pv 4) (pa_cons (pe_tup (pa_cons pe_str pa_nil)) pa_nil))))))
          (pss_one (ps_expr (pe_mn FN T.cl hr (pv 0) (pa_cons (pv 4) (pa_cons (pv 2) (pa_cons (pe_tup (pa_cons pe_str pa_nil)) pa_nil)))))))))))
    (pss_one (ps_for PassesOwn.never rfl (pi_list (pv 1)) (pg_tup rfl (pgs_cons (pg_name (i := 5) scm3.nd rfl (.inl rfl)) (pgs_cons (pg_name (i := 6) scm3.nd rfl (.inl rfl)) (pgs_cons (pg_name (i := 7) scm3.nd rfl (.inl rfl)) pgs_nil))))
      (pss_one (ps_expr (pe_mn FN T.cl hr (pv 0) (pa_cons (pe_nget hu (pe_fld (pv 0) rfl) (pv 6)) (pa_cons (pe_nget hu (pe_fld (pv 0) rfl) (pv 7)) (pa_cons (pe_tup (pa_cons pe_str (pa_cons (pv 5) pa_nil))) pa_nil))))))))), ?_⟩
  have OK := O.ws.ok
  have hn : (wdOf V_ rs).n = V_.length := rfl
  obtain ⟨ws, ew, dw⟩ := ca.wd
  have lw : ws.length = V_.length := mapD_len dw
  have lle := O.le
  refine ⟨_, rfl, A.c, C, A.dx, _, _, rfl, ca.ob, T.cl, T.nW, cf_w A, _, ws.length, rfl, .inl ⟨_, SqL.of ew, rfl⟩, (ws.length : Nat), rfl, by omega, by omega, ?_⟩
  refine forS ws.length (fun i x H H' => H' = H ∧ x = .int (i : Nat)) (fun i σ H2 => ∃ x2 x3 x4 x5 x6 x7, σ = [some (.ref A.c), some (.ref a), x2, x3, x4, x5, x6, x7] ∧ Kp A.ar A.ao H H2 ∧ CA K w C V_ A H2 ((List.range i).foldl (fun s i => note s (i, i) .same) []))
    ⟨_, _, _, _, _, _, rfl, Kp.refl _, ca⟩ (fun i σ H2 _ _ => ⟨fun hi => ⟨hi, fun x H' y => ⟨y.1, by rw [y.2]; simp⟩⟩, fun e => Nat.le_of_eq e.symm⟩) ?_ ?_
  · rintro i x σ H2 H3 hi ⟨x2, x3, x4, x5, x6, x7, rfl, k2, ca2⟩ ⟨rfl, rfl⟩
    refine ⟨_, rfl, A.c, A.dx, cfl A, rfl, ca2.ob, cf_note A, _, rfl, _, rfl, (by show 1 ≤ sizeLine; decide), fun p np => ?_⟩
    have s3 := same_upd (o := .tup [V.str "same"]) np
    refine ⟨V_, A, _, i, i, _, .same, rfl, ca2.same s3, ⟨p, rfl, upd_same⟩, O.len (rs := rs) (good1 (by omega) good_nil), fun H4 k4 ca4 => ?_⟩
    refine ⟨_, _, _, _, _, _, rfl, k2.trans ((Kp.same s3).trans k4), ?_⟩
    rw [range_fold]; exact ca4
  rintro σ H2 ⟨x2, x3, x4, x5, x6, x7, rfl, k2, ca2⟩
  obtain ⟨ws2, ew2, dw2⟩ := ca2.wd
  have lw2 : ws2.length = V_.length := mapD_len dw2
  have G1 : Good (wdOf V_ rs) (begin1 (wdOf V_ rs) []) := good1 (Nat.le_refl _) good_nil
  have ca2' : CA K w C V_ A H2 (begin1 (wdOf V_ rs) []) := by rw [lw] at ca2; exact ca2
  refine ⟨_, rfl, A.c, C, A.dx, _, _, rfl, ca2.ob, T.cl, T.nW, cf_w A, _, _, rfl, SqL.of ew2, ?_⟩
  refine forS ws2.length (fun i v H H' => ∃ T x, v = .ref T ∧ H T = none ∧ H' = upd H T (.tup [.int (i : Nat), x]) ∧ ws2[i]? = some x)
    (fun i σ H3 => ∃ x2 x3 x4 x5 x6 x7, σ = [some (.ref A.c), some (.ref a), x2, x3, x4, x5, x6, x7] ∧ Kp A.ar A.ao H2 H3 ∧ CA K w C V_ A H3 ((List.range i).foldl (fun s i => ((wdOf V_ rs).inner i).foldl (partN (wdOf V_ rs) i) s) (begin1 (wdOf V_ rs) [])))
    ⟨_, _, _, _, _, _, rfl, Kp.refl _, ca2'⟩ (fun i σ H3 _ ⟨_, _, _, _, _, _, _, k3, ca3⟩ => srcE (by
      obtain ⟨kvs, er, _⟩ := ca2.rs
      exact SqL.kp (SqL.of ew2) k3 er ca2.ne.1)) ?_ ?_
  · rintro i v σ H3 H4 hi ⟨y2, y3, y4, y5, y6, y7, rfl, k3, ca3⟩ ⟨Tp, x, rfl, nT, rfl, hx⟩
    have s4 := same_upd (o := .tup [V.int (i : Nat), x]) nT
    have ca4 := ca3.same s4
    have dw4 := DpAll.ts (ca2.tt (k3.trans (Kp.same s4))).ts _ _ (flats_tDs _) dw2
    obtain ⟨t, et, ht⟩ := tDs_get dw4 hx
    have iV : i < V_.length := by omega
    refine ⟨Tp, _, rfl, SqT.of upd_same, rfl, _, _, rfl, _, _, rfl, rfl, ?_⟩
    obtain ⟨is, ei, li, fi⟩ := ca4.inn
    have eiv : is[i]? = some is[i] := List.getElem?_eq_getElem (by omega)
    obtain ⟨qi, e1, e2, e3⟩ := fi i _ eiv
    refine ⟨_, rfl, A.c, C, A.dx, _, _, rfl, ca4.ob, T.cl, T.nI, cf_i A, _, rfl, A.ai, is, _, _, rfl, rfl, SqL.of ei, atI_nat eiv, qi, e1, ⟨_, SqL.of e3⟩, ?_⟩
    have G2 : Good (wdOf V_ rs) ((List.range i).foldl (fun s i => ((wdOf V_ rs).inner i).foldl (partN (wdOf V_ rs) i) s) (begin1 (wdOf V_ rs) [])) := good2 OK (by omega) G1
    have lin : ((((wdOf V_ []).inner i).map fun n => ((n : Nat) : Int)).map V.int).length = ((wdOf V_ rs).inner i).length := by rw [List.length_map, List.length_map]; rfl
    refine forS ((((wdOf V_ []).inner i).map fun n => ((n : Nat) : Int)).map V.int).length (fun j v H H' => H' = H ∧ ((((wdOf V_ []).inner i).map fun n => ((n : Nat) : Int)).map V.int)[j]? = some v)
      (fun j σ H5 => ∃ z4 z5 z6 z7, σ = [some (.ref A.c), some (.ref a), some (.int (i : Nat)), some x, z4, z5, z6, z7] ∧ Kp A.ar A.ao (upd H3 Tp (.tup [V.int (i : Nat), x])) H5 ∧ CA K w C V_ A H5 ((((wdOf V_ rs).inner i).take j).foldl (partN (wdOf V_ rs) i) ((List.range i).foldl (fun s i => ((wdOf V_ rs).inner i).foldl (partN (wdOf V_ rs) i) s) (begin1 (wdOf V_ rs) []))))
      ⟨_, _, _, _, rfl, Kp.refl _, ca4⟩ (fun j σ H5 _ ⟨_, _, _, _, _, k5, _⟩ => srcL (by
        obtain ⟨kvs, er, _⟩ := ca4.rs
        exact SqL.kp (SqL.of e3) k5 er e2)) ?_ ?_
    · rintro j v σ H5 H6 hj ⟨z4, z5, z6, z7, rfl, k5, ca5⟩ ⟨rfl, hv⟩
      obtain ⟨pj, ej, rfl⟩ : ∃ pj : Nat, ((wdOf V_ rs).inner i)[j]? = some pj ∧ v = .int (pj : Nat) := by
        rw [List.getElem?_map, List.getElem?_map] at hv
        obtain ⟨z, hz, rfl⟩ := Option.map_eq_some_iff.mp hv
        obtain ⟨n, hn, rfl⟩ := Option.map_eq_some_iff.mp hz
        exact ⟨n, hn, rfl⟩
      have ht5 := ht.ts (ca4.tt k5).ts
      have ein := wd_inner (rs := rs) et
      have G5 : Good (wdOf V_ rs) _ := good2i (i := i) (j := j) OK (by omega) G2
      have O5 := O.len G5
      have pf := fold_snoc (partN (wdOf V_ rs) i) ((List.range i).foldl (fun s i => ((wdOf V_ rs).inner i).foldl (partN (wdOf V_ rs) i) s) (begin1 (wdOf V_ rs) [])) ej
      rcases TmAt.cases ht5 with ⟨c, rfl, rfl⟩ | ⟨op, ts, p, vs, rfl, rfl, hp, hva⟩
      · rw [ein] at ej; simp [Tm.parts] at ej
      have eop : (wdOf V_ rs).op i = some op := wd_op et
      refine ⟨_, rfl, p, _, _, _, rfl, rfl, hp, atI_nat (j := 0) rfl, rfl, _, rfl, ?_⟩
      cases op with
      | true =>
        rw [decide_eq_true (show V.str (opS true) = V.str "&" by rw [opS_and])]
        refine iteT ⟨_, rfl, A.c, A.dx, cfl A, rfl, ca5.ob, cf_note A, _, rfl, _, rfl, (by show 1 ≤ sizeLine; decide), fun p2 np => ?_⟩
        have s6 := same_upd (o := .tup [V.str "part"]) np
        refine ⟨V_, A, _, i, pj, _, .part, rfl, ca5.same s6, ⟨p2, rfl, upd_same⟩, O5, fun H7 k7 ca7 => ?_⟩
        refine ⟨_, _, _, _, rfl, k5.trans ((Kp.same s6).trans k7), ?_⟩
        rw [pf]; unfold partN; rw [if_pos eop]; exact ca7
      | false =>
        rw [decide_eq_false (show ¬ V.str (opS false) = V.str "&" by rw [opS_or]; exact fun z => opS_ne (V.str.inj z).symm)]
        refine iteF ⟨_, rfl, A.c, A.dx, cfl A, rfl, ca5.ob, cf_note A, _, rfl, _, rfl, (by show 1 ≤ sizeLine; decide), fun p2 np => ?_⟩
        have s6 := same_upd (o := .tup [V.str "part"]) np
        refine ⟨V_, A, _, pj, i, _, .part, rfl, ca5.same s6, ⟨p2, rfl, upd_same⟩, O5, fun H7 k7 ca7 => ?_⟩
        refine ⟨_, _, _, _, rfl, k5.trans ((Kp.same s6).trans k7), ?_⟩
        rw [pf]; unfold partN; rw [if_neg (by rw [eop]; decide)]; exact ca7
    · rintro σ H5 ⟨z4, z5, z6, z7, rfl, k5, ca5⟩
      refine ⟨_, _, _, _, _, _, rfl, k3.trans ((Kp.same s4).trans k5), ?_⟩
      rw [range_fold]
      rw [lin, List.take_length] at ca5
      exact ca5
  rintro σ H3 ⟨y2, y3, y4, y5, y6, y7, rfl, k3, ca3⟩
  rw [lw2] at ca3
  have G2 : Good (wdOf V_ rs) (begin2 (wdOf V_ rs) (begin1 (wdOf V_ rs) [])) := good2 OK (Nat.le_refl _) G1
  have ca3' : CA K w C V_ A H3 (begin2 (wdOf V_ rs) (begin1 (wdOf V_ rs) [])) := ca3
  have k03 := k2.trans k3
  have hS3 : SqL K H3 a us := hst _ k03
  have ha3 := DpAll.ts (ca.tt k03).ts _ _ (flats_map flat_rlD _) ha
  have hul : us.length = rs.length := mapD_len ha
  refine ⟨_, rfl, a, rfl, ⟨_, hS3⟩, ?_⟩
  refine forS us.length (fun i v H H' => H' = H ∧ us[i]? = some v)
    (fun i σ H4 => ∃ x2 x3 x4 x5 x6 x7, σ = [some (.ref A.c), some (.ref a), x2, x3, x4, x5, x6, x7] ∧ Kp A.ar A.ao H3 H4 ∧ CA K w C V_ A H4 (((wdOf V_ rs).rules.take i).foldl (fun s r => note s (r.2.1, r.2.2) (.rule r.1)) (begin2 (wdOf V_ rs) (begin1 (wdOf V_ rs) []))))
    ⟨_, _, _, _, _, _, rfl, Kp.refl _, ca3'⟩ (fun i σ H4 _ ⟨_, _, _, _, _, _, _, k4, _⟩ => srcL (hst _ (k03.trans k4))) ?_ ?_
  · rintro i v σ H4 H5 hi ⟨y2, y3, y4, y5, y6, y7, rfl, k4, ca4⟩ ⟨rfl, hv⟩
    obtain ⟨r, er, hr'⟩ := mapD_get (DpAll.ts (ca3.tt k4).ts _ _ (flats_map flat_rlD _) ha3) hv
    have mr : r ∈ rs := List.mem_of_getElem? er
    obtain ⟨t, x1, y1, rfl, ht, h1, h2⟩ := rl_inv hr'
    have inV := O.ws.rule r mr
    obtain ⟨nk, en, na, fn⟩ := ca4.nu
    refine ⟨t, _, rfl, ht, rfl, _, _, rfl, _, _, rfl, _, _, rfl, rfl, ?_⟩
    refine ⟨_, rfl, A.c, A.dx, cfl A, rfl, ca4.ob, cf_note A, ?_⟩
    refine ⟨_, rfl, A.c, C, A.dx, _, _, rfl, ca4.ob, T.cl, T.nN, cf_n A, _, rfl, A.an, nk, tkey r.2.1, _, rfl, Rd.of en, na, h1, tk_ok (O.dp _ inV.1), fn _ _ (ixW_get inV.1), ?_⟩
    refine ⟨_, rfl, A.c, C, A.dx, _, _, rfl, ca4.ob, T.cl, T.nN, cf_n A, _, rfl, A.an, nk, tkey r.2.2, _, rfl, Rd.of en, na, h2, tk_ok (O.dp _ inV.2), fn _ _ (ixW_get inV.2), ?_⟩
    refine ⟨_, rfl, (by show 2 ≤ sizeLine; decide), fun p np => ?_⟩
    have s6 := same_upd (o := .tup [V.str "rule", .str (strC r.1)]) np
    have er' : (wdOf V_ rs).rules[i]? = some (r.1, ixW V_ r.2.1, ixW V_ r.2.2) := by
      show (rs.map _)[i]? = _
      rw [List.getElem?_map, er]; rfl
    refine ⟨V_, A, _, ixW V_ r.2.1, ixW V_ r.2.2, _, .rule r.1, rfl, ca4.same s6, ⟨p, rfl, upd_same⟩, O.len (good3 (j := i) OK G2), fun H7 k7 ca7 => ?_⟩
    refine ⟨_, _, _, _, _, _, rfl, k4.trans ((Kp.same s6).trans k7), ?_⟩
    rw [fold_snoc _ _ er']; exact ca7
  · rintro σ H4 ⟨y2, y3, y4, y5, y6, y7, rfl, k4, ca4⟩
    refine q H4 (k03.trans k4) ?_
    have lr : (wdOf V_ rs).rules.length = us.length := by rw [hul]; show (rs.map _).length = _; rw [List.length_map]
    rw [← lr, List.take_length] at ca4
    exact ca4
end
end FD
end T_D6

section T_D7
set_option Elab.async false
set_option linter.all false
set_option maxRecDepth 100000
/-! The walk: widen. -/
namespace FD
open PySem L2 FF FW
theorem in_ints {l : List Nat} {q : Nat} : (((l.map fun n => ((n : Nat) : Int)).map PyData.int).any fun z => PyData.eqv z (.int (q : Nat))) = decide (q ∈ l) := by
  by_cases h : q ∈ l
  · rw [decide_eq_true h]
    exact any_yes (flats_map flat_int _) (flat_int _) (List.mem_map.mpr ⟨_, List.mem_map.mpr ⟨q, h, rfl⟩, rfl⟩)
  · rw [decide_eq_false h]
    refine any_no (flats_map flat_int _) (flat_int _) fun hm => h ?_
    obtain ⟨i, hi, e⟩ := List.mem_map.mp hm
    obtain ⟨n, hn, rfl⟩ := List.mem_map.mp hi
    simp only [PyData.int.injEq] at e
    have : n = q := by omega
    subst this; exact hn
theorem amp_eq : ("&" : Str) = strC [38] := by decide +kernel
theorem bar_eq : ("|" : Str) = strC [124] := by decide +kernel
theorem leaf_amp {c : Nat} (h : 97 ≤ c ∧ c < 105) : ¬ V.str (⟨#[c]⟩ : Str) = V.str "&" := fun e => by
  have e := V.str.inj e
  rw [amp_eq] at e
  have := strC_inj (show strC [c] = strC [38] from e)
  simp only [List.cons.injEq, and_true] at this
  omega
theorem leaf_bar {c : Nat} (h : 97 ≤ c ∧ c < 105) : ¬ V.str (⟨#[c]⟩ : Str) = V.str "|" := fun e => by
  have e := V.str.inj e
  rw [bar_eq] at e
  have := strC_inj (show strC [c] = strC [124] from e)
  simp only [List.cons.injEq, and_true] at this
  omega
theorem bls_all {α : Type} (p : α → Bool) (l : List α) : ((l.map p).all id) = l.all p := by simp [List.all_map]
theorem kp_same {a b : Addr} {H H1 : Hp} (h : Same H H1) : Kp a b H H1 := Kp.same h
/-- word[0] of a word, compared with a sign -/
theorem hd_op {K : PySem.W.Frag} {H : Hp} {x : V} {t : Tm} (h : TmAt K H x t) (wf : t.WF) {Q : VK} (k : ∀ y, (decide (y = V.str "&") = decide (t.opT = some true)) → (decide (y = V.str "|") = decide (t.opT = some false)) → (∃ z, y = .str z) → Q y H) : rIx K x (.int 0) H Q := by
  rcases TmAt.cases h with ⟨c, rfl, rfl⟩ | ⟨op, ts, p, vs, rfl, rfl, hp, hva⟩
  · refine .inr (.inr ⟨strC [c], 0, c, rfl, rfl, by show 1 ≤ sizeLine; decide, atI_nat (j := 0) rfl, k _ ?_ ?_ ⟨_, rfl⟩⟩)
    · rw [decide_eq_false (leaf_amp wf)]; exact (decide_eq_false (by simp [Tm.opT])).symm
    · rw [decide_eq_false (leaf_bar wf)]; exact (decide_eq_false (by simp [Tm.opT])).symm
  · refine .inr (.inl ⟨p, _, 0, _, rfl, rfl, hp, atI_nat (j := 0) rfl, k _ ?_ ?_ ⟨_, rfl⟩⟩)
    · cases op with
      | true => rw [decide_eq_true (show V.str (opS true) = V.str "&" by rw [opS_and])]; exact (decide_eq_true rfl).symm
      | false => rw [decide_eq_false (show ¬ V.str (opS false) = V.str "&" by rw [opS_or]; exact fun z => opS_ne (V.str.inj z).symm)]; exact (decide_eq_false (by simp [Tm.opT])).symm
    · cases op with
      | true => rw [decide_eq_false (show ¬ V.str (opS true) = V.str "|" by rw [opS_and]; exact fun z => opS_ne (V.str.inj z))]; exact (decide_eq_false (by simp [Tm.opT])).symm
      | false => rw [decide_eq_true (show V.str (opS false) = V.str "|" by rw [opS_or])]; exact (decide_eq_true rfl).symm
section
variable {W : Wd} {s : CSt}
theorem goodW {q : Pr} {i : Nat} (hi : i ≤ W.n) (G : GoodQ W q s) : GoodQ W q ((List.range i).foldl (widenT W q) s) :=
  (foldG (I := GoodQ W q) (fun s a ha G => widenT_ok (Nat.lt_of_lt_of_le (List.mem_range.mp ha) hi) G) G).1
theorem goodC {q : Pr} {i : Nat} (hi : i ≤ W.n) (G : GoodQ W q s) : GoodQ W q ((List.range i).foldl (turnM q) s) :=
  (foldG (I := GoodQ W q) (fun s a ha G => turnM_ok (Nat.lt_of_lt_of_le (List.mem_range.mp ha) hi) G) G).1
end
section
variable {P : Program} {w : World} {K : PySem.W.Frag} {mg : Str → Option Value} {base : Heap} {C : Addr}
def spWiden (K : PySem.W.Frag) (w : World) (C : Addr) : Sp := fun vs H Q _ => ∃ (V_ : List Tm) (rs : List Rl) (A : Ad) (s : CSt) (i j : Nat), vs = [.ref A.c, .int i, .int j] ∧ CA K w C V_ A H s ∧ WOk V_ rs ∧ GoodQ (wdOf V_ rs) (i, j) s ∧
  ∀ H', Kp A.ar A.ao H H' → CA K w C V_ A H' (widenM (wdOf V_ rs) (i, j) s) → Q .non H'
abbrev nm5 : List Str := ["self", "one", "other", "at", "word", "needed", "part", "pair"]
theorem scm5 : FnScope nm5 nm1 (defScope (mS 5)) := ⟨rfl, rfl, rfl, by decide +kernel, rfl, by decide +kernel, by decide +kernel⟩
theorem ok_widen (D : Dm K C "widen" "Closure.widen" (mS 5) nm1) (B : Bi mg) (T : Tx K mg C) (FN : Mn P w K mg base C 1 "note" nm2 (spNote K w C)) : Mn P w K mg base C 2 "widen" nm1 (spWiden K w C) := by
  refine D.ok scm5 (fun vs H Q E h => ?_) (fun f cdv A outer s H vs Q E hr h => ?_)
  · obtain ⟨V_, rs, A, s, i, j, rfl, _⟩ := h
    rfl
  obtain ⟨V_, rs, A, st, i0, j0, rfl, ca, O, G, q⟩ := h
  have hu := hr.units
  have hu1 := hu_of hr
  refine ⟨_, pss_one (ps_for PassesOwn.never rfl (pi_enum (by rfl) B.enum (pa_cons (pe_fld (pv 0) rfl) pa_nil)) (pg_tup rfl (pgs_cons (pg_name (i := 3) scm5.nd rfl (.inl rfl)) (pgs_cons (pg_name (i := 4) scm5.nd rfl (.inl rfl)) pgs_nil)))
    (Evl.pss_cut (ps_if (PW.pt (pw_and (pt_cmpR op_eq (pe_ix ix_seq (pv 4) pe_int (fun _ _ => rfl)) pe_str (nomark _)) (pw_and1 (pt_cmpR (op_inP hu) (pv 2) (pe_ix ix_list (pe_fld (pv 0) rfl) (pv 3) (fun _ _ => rfl)) (by rfl)))))
        (pss_cons (ps_setLc (i := 5) (own := [("part", 6)]) (tt := tYes) (g := gName 6) (by rfl) scm5.nd rfl rfl (sw_true rfl rfl rfl (by decide +kernel)) (pi_list (pe_ix ix_list (pe_fld (pv 0) rfl) (pv 3) (fun _ _ => rfl))) (blkOk_by (own := [("part", 6)]) (N := nm5) (sc := defScope (mS 5)) (by decide +kernel))
            (fun _ _ _ _ _ => pg_name (i := 6) scm5.nd rfl (Or.inl rfl)) (fun _ _ _ _ _ => pts_nil) (fun _ _ _ _ _ => pe_tup (pa_cons (pv 1) (pa_cons (pv 6) pa_nil))))
          (pss_one (ps_if (pt_val (pe_callB (cr_all rfl) (by rfl) B.all b_all (pa_cons (pe_lc (own := [("pair", 7)]) (tt := tYes) (g := gName 7) (by rfl) scm5.nd (pi_list (pv 5)) (blkOk_by (own := [("pair", 7)]) (N := nm5) (sc := defScope (mS 5)) (by decide +kernel))
              (fun _ _ _ _ _ => pg_name (i := 7) scm5.nd rfl (Or.inl rfl)) (fun _ _ _ _ _ => pts_nil) (fun _ _ _ _ _ => pe_cmp (pc_din hu1 (pv 7) (pe_fldK K (pv 0) rfl)))) pa_nil)))
            (pss_one (ps_expr (pe_mn FN T.cl hr (pv 0) (pa_cons (pv 1) (pa_cons (pv 3) (pa_cons (pe_tup (pa_cons pe_str (pa_cons (pe_callTy call_tuple_of (by rfl) B.tup b_tup (pa_cons (pv 5) pa_nil)) pa_nil))) pa_nil)))))) pss_nil))) pss_nil)
    (pss_one (ps_if (PW.pt (pw_and (pt_cmpR op_eq (pe_ix ix_seq (pv 4) pe_int (fun _ _ => rfl)) pe_str (nomark _)) (pw_and1 (pt_cmpR (op_inP hu) (pv 1) (pe_ix ix_list (pe_fld (pv 0) rfl) (pv 3) (fun _ _ => rfl)) (by rfl)))))
        (pss_cons (ps_setLc (i := 5) (own := [("part", 6)]) (tt := tYes) (g := gName 6) (by rfl) scm5.nd rfl rfl (sw_true rfl rfl rfl (by decide +kernel)) (pi_list (pe_ix ix_list (pe_fld (pv 0) rfl) (pv 3) (fun _ _ => rfl))) (blkOk_by (own := [("part", 6)]) (N := nm5) (sc := defScope (mS 5)) (by decide +kernel))
            (fun _ _ _ _ _ => pg_name (i := 6) scm5.nd rfl (Or.inl rfl)) (fun _ _ _ _ _ => pts_nil) (fun _ _ _ _ _ => pe_tup (pa_cons (pv 6) (pa_cons (pv 2) pa_nil))))
          (pss_one (ps_if (pt_val (pe_callB (cr_all rfl) (by rfl) B.all b_all (pa_cons (pe_lc (own := [("pair", 7)]) (tt := tYes) (g := gName 7) (by rfl) scm5.nd (pi_list (pv 5)) (blkOk_by (own := [("pair", 7)]) (N := nm5) (sc := defScope (mS 5)) (by decide +kernel))
              (fun _ _ _ _ _ => pg_name (i := 7) scm5.nd rfl (Or.inl rfl)) (fun _ _ _ _ _ => pts_nil) (fun _ _ _ _ _ => pe_cmp (pc_din hu1 (pv 7) (pe_fldK K (pv 0) rfl)))) pa_nil)))
            (pss_one (ps_expr (pe_mn FN T.cl hr (pv 0) (pa_cons (pv 3) (pa_cons (pv 2) (pa_cons (pe_tup (pa_cons pe_str (pa_cons (pe_callTy call_tuple_of (by rfl) B.tup b_tup (pa_cons (pv 5) pa_nil)) pa_nil))) pa_nil)))))) pss_nil))) pss_nil)))), ?_⟩
  have OK := O.ws.ok
  obtain ⟨ws, ew, dw⟩ := ca.wd
  have lw : ws.length = V_.length := mapD_len dw
  have lle := O.le
  refine ⟨_, rfl, A.c, C, A.dx, _, _, rfl, ca.ob, T.cl, T.nW, cf_w A, _, _, rfl, SqL.of ew, ?_⟩
  generalize hsI : (fun i => (List.range i).foldl (widenT (wdOf V_ rs) (i0, j0)) st) = sI
  have gI : ∀ i, i ≤ V_.length → GoodQ (wdOf V_ rs) (i0, j0) (sI i) := fun i hi => by subst hsI; exact goodW hi G
  have inl : ∀ i, i < V_.length → ((wdOf V_ rs).inner i).length ≤ 1000 := fun i hi => Nat.le_trans (O.inl i hi) (by decide)
  refine forS ws.length (fun i v H H' => ∃ T x, v = .ref T ∧ H T = none ∧ H' = upd H T (.tup [.int (i : Nat), x]) ∧ ws[i]? = some x)
    (fun i σ H2 => ∃ x3 x4 x5 x6 x7, σ = [some (.ref A.c), some (.int i0), some (.int j0), x3, x4, x5, x6, x7] ∧ Kp A.ar A.ao H H2 ∧ CA K w C V_ A H2 (sI i))
    ⟨_, _, _, _, _, rfl, Kp.refl _, by subst hsI; exact ca⟩ (fun i σ H3 _ ⟨_, _, _, _, _, _, k3, _⟩ => srcE (by
      obtain ⟨kvs, er, _⟩ := ca.rs
      exact SqL.kp (SqL.of ew) k3 er ca.ne.1)) ?_ ?_
  · rintro i v σ H2 H3 hi ⟨x3, x4, x5, x6, x7, rfl, k2, ca2⟩ ⟨Tp, x, rfl, nT, rfl, hx⟩
    have sT := same_upd (o := .tup [V.int (i : Nat), x]) nT
    have ca3 := ca2.same sT
    have dw3 := DpAll.ts (ca.tt (k2.trans (Kp.same sT))).ts _ _ (flats_tDs _) dw
    obtain ⟨t, et, ht⟩ := tDs_get dw3 hx
    have iV : i < V_.length := by omega
    have wft : t.WF := O.ws.wf t (List.mem_of_getElem? et)
    have eop : (wdOf V_ rs).op i = t.opT := wd_op et
    refine ⟨Tp, _, rfl, SqT.of upd_same, rfl, _, _, rfl, _, _, rfl, rfl, ?_⟩
    generalize hsJ : (fun i => widenA (wdOf V_ rs) (i0, j0) (sI i) i) = sJ
    have gJ : ∀ i, i < V_.length → GoodQ (wdOf V_ rs) (i0, j0) (sJ i) := fun i hi => by subst hsJ; exact (widenA_ok hi (gI i (by omega))).1
    have eJ : sJ i = widenA (wdOf V_ rs) (i0, j0) (sI i) i := by subst hsJ; rfl
    have eI : sI (i + 1) = widenB (wdOf V_ rs) (i0, j0) (sJ i) i := by rw [eJ]; subst hsI; exact range_fold _ _ _
    refine ⟨fun σ' H' => ∃ y5 y6 y7, σ' = [some (.ref A.c), some (.int i0), some (.int j0), some (.int (i : Nat)), some x, y5, y6, y7] ∧ Kp A.ar A.ao (upd H2 Tp (.tup [V.int (i : Nat), x])) H' ∧ CA K w C V_ A H' (sJ i), ?_, ?_⟩
    · -- first
      refine ⟨_, rfl, hd_op ht wft fun y e1 e2 ⟨zy, ezy⟩ => ?_⟩
      subst ezy
      refine ⟨rfl, _, rfl, ?_⟩
      rw [e1]
      by_cases hop : t.opT = some true
      · rw [decide_eq_true hop]
        refine iteT ?_
        obtain ⟨is, ei, li, fi⟩ := ca3.inn
        have eiv : is[i]? = some is[i] := List.getElem?_eq_getElem (by omega)
        obtain ⟨qi, ev1, ev2, ev3⟩ := fi i _ eiv
        refine ⟨_, rfl, _, rfl, A.c, C, A.dx, _, _, rfl, ca3.ob, T.cl, T.nI, cf_i A, _, rfl, A.ai, is, _, _, rfl, rfl, SqL.of ei, atI_nat eiv, .int _, _, .int _, .inl (by rw [ev1]; exact .lst (SqL.of ev3) DpAll.ints), sh_int _, plain_ints _, _, rfl, ?_⟩
        rw [in_ints]
        by_cases hin : j0 ∈ (wdOf V_ []).inner i
        · rw [decide_eq_true hin]
          refine iteT ?_
          refine ⟨_, rfl, A.c, C, A.dx, _, _, rfl, ca3.ob, T.cl, T.nI, cf_i A, _, rfl, A.ai, is, _, _, rfl, rfl, SqL.of ei, atI_nat eiv, qi, ev1, ⟨_, SqL.of ev3⟩, fun Dl nD => ?_⟩
          have lin : ((((wdOf V_ []).inner i).map fun n => ((n : Nat) : Int)).map V.int).length = ((wdOf V_ rs).inner i).length := by rw [List.length_map, List.length_map]; rfl
          have lin2 : ((wdOf V_ rs).inner i).length ≤ 1000 := inl i iV
          refine lcR (R := fun H v (p : Pr) => PT H v p) nD (src_list (SqL.of ev3)) (fun m => ((wdOf V_ rs).inner i |>.take m).map fun p => ((i0, p) : Pr)) rfl (fun m _ => small1000 (by rw [List.length_map, List.length_take]; omega)) (fun Ha Hb v p k hD x hx => ?_) (fun m x Ha F Gx hm sa _ hx kF kG => ?_) (fun Ha nv sa hDa hna => ?_)
          · obtain ⟨q', rfl, e'⟩ := hx
            exact ⟨q', rfl, k _ _ e' (fun z => by rw [z, hD] at e'; cases e')⟩
          · obtain ⟨pj, ej, rfl⟩ : ∃ pj : Nat, ((wdOf V_ rs).inner i)[m]? = some pj ∧ x = .int (pj : Nat) := by
              rw [List.getElem?_map, List.getElem?_map] at hx
              obtain ⟨z, hz, rfl⟩ := Option.map_eq_some_iff.mp hx
              obtain ⟨n, hn, rfl⟩ := Option.map_eq_some_iff.mp hz
              exact ⟨n, hn, rfl⟩
            refine ⟨rfl, _, rfl, _, rfl, (by show 2 ≤ sizeLine; decide), fun p np => kF _ _ _ (same_upd np) PT.new ?_⟩
            exact take_map_snoc (fun p => ((i0, p) : Pr)) ej
          · rw [lin, List.take_length] at hna
            have caA := ca3.same sa
            refine ⟨_, rfl, Dl, rfl, ⟨_, SqL.of hDa⟩, fun D2 nD2 => ?_⟩
            refine lcB nD2 (src_list (SqL.of hDa)) (fun m => ((neededA (wdOf V_ rs) (i0, j0) i).take m).map fun p => V.bl (decide (p ∈ keys (sI i)))) rfl (fun m _ => small1000 (by rw [List.length_map, List.length_take, neededA, List.length_map]; omega)) (fun m x Hb F Gx hm sb _ hx kF kG => ?_) (fun Hb sb hDb => ?_)
            · obtain ⟨p, ep, hp⟩ := L2.paired_get hna hx
              obtain ⟨qp, rfl, eqp⟩ := hp.tt (Tt.same sb)
              obtain ⟨kvs, er, rr⟩ := (caA.same sb).rs
              refine ⟨rfl, _, rfl, _, rfl, A.c, C, A.dx, _, _, rfl, (caA.same sb).ob, T.cl, T.nR, cf_r A, A.ar, _, rfl, DGet.t (k := pk p) er eqp, ?_⟩
              rw [rr.some]
              exact kF _ _ (Same.refl _) (take_map_snoc (fun p => V.bl (decide (p ∈ keys (sI i)))) ep)
            · have lnv : nv.length = (neededA (wdOf V_ rs) (i0, j0) i).length := PySem.Paired.length hna
              have eb : (((neededA (wdOf V_ rs) (i0, j0) i).take nv.length).map fun p => V.bl (decide (p ∈ keys (sI i)))) = ((neededA (wdOf V_ rs) (i0, j0) i).map fun p => decide (p ∈ keys (sI i))).map V.bl := by
                rw [lnv, List.take_length, List.map_map]; rfl
              rw [eb] at hDb
              have caB := caA.same sb
              refine ⟨D2, _, rfl, SqL.of hDb, _, rfl, ?_⟩
              rw [bls_all]
              have sab := sa.trans sb
              by_cases hall : ∀ p ∈ neededA (wdOf V_ rs) (i0, j0) i, p ∈ keys (sI i)
              · rw [List.all_eq_true.mpr (fun p hp => decide_eq_true (hall p hp))]
                refine iteT ?_
                refine ⟨_, rfl, A.c, A.dx, cfl A, rfl, caB.ob, cf_note A, _, rfl, _, rfl, _, rfl, Dl, nv, rfl, .inl ⟨SqL.of (sb _ _ hDa), fun l nl => ?_⟩⟩
                have sl := same_upd (o := .tup nv) nl
                refine ⟨(by show 2 ≤ sizeLine; decide), fun p2 np2 => ?_⟩
                have s2 := same_upd (o := .tup [V.str "into", .ref l]) np2
                refine ⟨V_, A, (sI i), i0, i, _, .into (neededA (wdOf V_ rs) (i0, j0) i), rfl, (caB.same sl).same s2, ⟨p2, l, nv, rfl, upd_same, s2 _ _ upd_same, PTs.tt (PTs.tt hna (Tt.same sb)) (Tt.same (sl.trans s2))⟩, O.len (gI i (by omega)).1, fun H7 k7 ca7 => ?_⟩
                refine ⟨_, _, _, rfl, ((Kp.same (((sab.trans sl).trans s2))).trans k7), ?_⟩
                have em : widenA (wdOf V_ rs) (i0, j0) (sI i) i = note (sI i) ((i0, i)) (.into (neededA (wdOf V_ rs) (i0, j0) i)) := by
                  unfold widenA; rw [if_pos ⟨eop.trans hop, hin⟩, if_pos hall]
                rw [eJ, em]; exact ca7
              · have ef : ((neededA (wdOf V_ rs) (i0, j0) i).all fun p => decide (p ∈ keys (sI i))) = false := by
                  rw [Bool.eq_false_iff]; exact fun z => hall fun p hp => of_decide_eq_true (List.all_eq_true.mp z p hp)
                rw [ef]
                refine iteF ⟨_, _, _, rfl, (Kp.same sab), ?_⟩
                have em : widenA (wdOf V_ rs) (i0, j0) (sI i) i = (sI i) := by
                  unfold widenA; rw [if_pos ⟨eop.trans hop, hin⟩, if_neg hall]
                rw [eJ, em]; exact caB
        · rw [decide_eq_false hin]
          refine iteF ⟨_, _, _, rfl, (Kp.refl _), ?_⟩
          have em : widenA (wdOf V_ rs) (i0, j0) (sI i) i = (sI i) := by
            unfold widenA; rw [if_neg fun z => hin z.2]
          rw [eJ, em]; exact ca3
      · rw [decide_eq_false hop]
        refine iteF ⟨_, _, _, rfl, (Kp.refl _), ?_⟩
        have em : widenA (wdOf V_ rs) (i0, j0) (sI i) i = (sI i) := by
          unfold widenA; rw [if_neg fun z => hop (eop.symm.trans z.1)]
        rw [eJ, em]; exact ca3
    · -- second
      rintro σ5 H5 ⟨y5, y6, y7, rfl, k5, ca5⟩
      have ht := ht.ts (ca3.tt k5).ts
      refine ⟨_, rfl, hd_op ht wft fun y e1 e2 ⟨zy, ezy⟩ => ?_⟩
      subst ezy
      refine ⟨rfl, _, rfl, ?_⟩
      rw [e2]
      by_cases hop : t.opT = some false
      · rw [decide_eq_true hop]
        refine iteT ?_
        obtain ⟨is, ei, li, fi⟩ := ca5.inn
        have eiv : is[i]? = some is[i] := List.getElem?_eq_getElem (by omega)
        obtain ⟨qi, ev1, ev2, ev3⟩ := fi i _ eiv
        refine ⟨_, rfl, _, rfl, A.c, C, A.dx, _, _, rfl, ca5.ob, T.cl, T.nI, cf_i A, _, rfl, A.ai, is, _, _, rfl, rfl, SqL.of ei, atI_nat eiv, .int _, _, .int _, .inl (by rw [ev1]; exact .lst (SqL.of ev3) DpAll.ints), sh_int _, plain_ints _, _, rfl, ?_⟩
        rw [in_ints]
        by_cases hin : i0 ∈ (wdOf V_ []).inner i
        · rw [decide_eq_true hin]
          refine iteT ?_
          refine ⟨_, rfl, A.c, C, A.dx, _, _, rfl, ca5.ob, T.cl, T.nI, cf_i A, _, rfl, A.ai, is, _, _, rfl, rfl, SqL.of ei, atI_nat eiv, qi, ev1, ⟨_, SqL.of ev3⟩, fun Dl nD => ?_⟩
          have lin : ((((wdOf V_ []).inner i).map fun n => ((n : Nat) : Int)).map V.int).length = ((wdOf V_ rs).inner i).length := by rw [List.length_map, List.length_map]; rfl
          have lin2 : ((wdOf V_ rs).inner i).length ≤ 1000 := inl i iV
          refine lcR (R := fun H v (p : Pr) => PT H v p) nD (src_list (SqL.of ev3)) (fun m => ((wdOf V_ rs).inner i |>.take m).map fun p => ((p, j0) : Pr)) rfl (fun m _ => small1000 (by rw [List.length_map, List.length_take]; omega)) (fun Ha Hb v p k hD x hx => ?_) (fun m x Ha F Gx hm sa _ hx kF kG => ?_) (fun Ha nv sa hDa hna => ?_)
          · obtain ⟨q', rfl, e'⟩ := hx
            exact ⟨q', rfl, k _ _ e' (fun z => by rw [z, hD] at e'; cases e')⟩
          · obtain ⟨pj, ej, rfl⟩ : ∃ pj : Nat, ((wdOf V_ rs).inner i)[m]? = some pj ∧ x = .int (pj : Nat) := by
              rw [List.getElem?_map, List.getElem?_map] at hx
              obtain ⟨z, hz, rfl⟩ := Option.map_eq_some_iff.mp hx
              obtain ⟨n, hn, rfl⟩ := Option.map_eq_some_iff.mp hz
              exact ⟨n, hn, rfl⟩
            refine ⟨rfl, _, rfl, _, rfl, (by show 2 ≤ sizeLine; decide), fun p np => kF _ _ _ (same_upd np) PT.new ?_⟩
            exact take_map_snoc (fun p => ((p, j0) : Pr)) ej
          · rw [lin, List.take_length] at hna
            have caA := ca5.same sa
            refine ⟨_, rfl, Dl, rfl, ⟨_, SqL.of hDa⟩, fun D2 nD2 => ?_⟩
            refine lcB nD2 (src_list (SqL.of hDa)) (fun m => ((neededB (wdOf V_ rs) (i0, j0) i).take m).map fun p => V.bl (decide (p ∈ keys (sJ i)))) rfl (fun m _ => small1000 (by rw [List.length_map, List.length_take, neededB, List.length_map]; omega)) (fun m x Hb F Gx hm sb _ hx kF kG => ?_) (fun Hb sb hDb => ?_)
            · obtain ⟨p, ep, hp⟩ := L2.paired_get hna hx
              obtain ⟨qp, rfl, eqp⟩ := hp.tt (Tt.same sb)
              obtain ⟨kvs, er, rr⟩ := (caA.same sb).rs
              refine ⟨rfl, _, rfl, _, rfl, A.c, C, A.dx, _, _, rfl, (caA.same sb).ob, T.cl, T.nR, cf_r A, A.ar, _, rfl, DGet.t (k := pk p) er eqp, ?_⟩
              rw [rr.some]
              exact kF _ _ (Same.refl _) (take_map_snoc (fun p => V.bl (decide (p ∈ keys (sJ i)))) ep)
            · have lnv : nv.length = (neededB (wdOf V_ rs) (i0, j0) i).length := PySem.Paired.length hna
              have eb : (((neededB (wdOf V_ rs) (i0, j0) i).take nv.length).map fun p => V.bl (decide (p ∈ keys (sJ i)))) = ((neededB (wdOf V_ rs) (i0, j0) i).map fun p => decide (p ∈ keys (sJ i))).map V.bl := by
                rw [lnv, List.take_length, List.map_map]; rfl
              rw [eb] at hDb
              have caB := caA.same sb
              refine ⟨D2, _, rfl, SqL.of hDb, _, rfl, ?_⟩
              rw [bls_all]
              have sab := sa.trans sb
              by_cases hall : ∀ p ∈ neededB (wdOf V_ rs) (i0, j0) i, p ∈ keys (sJ i)
              · rw [List.all_eq_true.mpr (fun p hp => decide_eq_true (hall p hp))]
                refine iteT ?_
                refine ⟨_, rfl, A.c, A.dx, cfl A, rfl, caB.ob, cf_note A, _, rfl, _, rfl, _, rfl, Dl, nv, rfl, .inl ⟨SqL.of (sb _ _ hDa), fun l nl => ?_⟩⟩
                have sl := same_upd (o := .tup nv) nl
                refine ⟨(by show 2 ≤ sizeLine; decide), fun p2 np2 => ?_⟩
                have s2 := same_upd (o := .tup [V.str "out", .ref l]) np2
                refine ⟨V_, A, (sJ i), i, j0, _, .out (neededB (wdOf V_ rs) (i0, j0) i), rfl, (caB.same sl).same s2, ⟨p2, l, nv, rfl, upd_same, s2 _ _ upd_same, PTs.tt (PTs.tt hna (Tt.same sb)) (Tt.same (sl.trans s2))⟩, O.len (gJ i (by omega)).1, fun H7 k7 ca7 => ?_⟩
                refine ⟨_, _, _, _, _, rfl, (k2.trans ((Kp.same sT).trans k5)).trans ((Kp.same (((sab.trans sl).trans s2))).trans k7), ?_⟩
                have em : widenB (wdOf V_ rs) (i0, j0) (sJ i) i = note (sJ i) ((i, j0)) (.out (neededB (wdOf V_ rs) (i0, j0) i)) := by
                  unfold widenB; rw [if_pos ⟨eop.trans hop, hin⟩, if_pos hall]
                rw [eI, em]; exact ca7
              · have ef : ((neededB (wdOf V_ rs) (i0, j0) i).all fun p => decide (p ∈ keys (sJ i))) = false := by
                  rw [Bool.eq_false_iff]; exact fun z => hall fun p hp => of_decide_eq_true (List.all_eq_true.mp z p hp)
                rw [ef]
                refine iteF ⟨_, _, _, _, _, rfl, (k2.trans ((Kp.same sT).trans k5)).trans (Kp.same sab), ?_⟩
                have em : widenB (wdOf V_ rs) (i0, j0) (sJ i) i = (sJ i) := by
                  unfold widenB; rw [if_pos ⟨eop.trans hop, hin⟩, if_neg hall]
                rw [eI, em]; exact caB
        · rw [decide_eq_false hin]
          refine iteF ⟨_, _, _, _, _, rfl, (k2.trans ((Kp.same sT).trans k5)).trans (Kp.refl _), ?_⟩
          have em : widenB (wdOf V_ rs) (i0, j0) (sJ i) i = (sJ i) := by
            unfold widenB; rw [if_neg fun z => hin z.2]
          rw [eI, em]; exact ca5
      · rw [decide_eq_false hop]
        refine iteF ⟨_, _, _, _, _, rfl, (k2.trans ((Kp.same sT).trans k5)).trans (Kp.refl _), ?_⟩
        have em : widenB (wdOf V_ rs) (i0, j0) (sJ i) i = (sJ i) := by
          unfold widenB; rw [if_neg fun z => hop (eop.symm.trans z.1)]
        rw [eI, em]; exact ca5
  · rintro σ H2 ⟨x3, x4, x5, x6, x7, rfl, k2, ca2⟩
    refine q H2 k2 ?_
    rw [lw] at ca2
    subst hsI
    exact ca2
end
end FD
end T_D7

section T_D8
set_option Elab.async false
set_option linter.all false
set_option maxRecDepth 100000
/-! The walk: finish, pairs, has_goal. -/
namespace FD
open PySem L2 FF FW
/-! ### sorted pairs -/
def LtQ (a b : Pr) : Prop := a.1 < b.1 ∨ (a.1 = b.1 ∧ a.2 < b.2)
structure SrtK (s : CSt) (ps : List Pr) : Prop where
  perm : ps.Perm (keys s)
  asc : ps.Pairwise LtQ
theorem srt_unique {s : CSt} {ps qs : List Pr} (h : SrtK s ps) (k : SrtK s qs) : ps = qs :=
  asc_unique (R := LtQ) (fun a h => by unfold LtQ at h; omega) (fun a b c h k => by unfold LtQ at *; omega) h.asc k.asc fun x => (h.perm.mem_iff).trans k.perm.mem_iff.symm
def kOf (H : Hp) : V → Int × Int
  | .ref q => match H q with
    | some (.tup [.int a, .int b]) => (a, b)
    | _ => (0, 0)
  | _ => (0, 0)
def prOf (H : Hp) (x : V) : Pr := ((kOf H x).1.toNat, (kOf H x).2.toNat)
theorem kOf_pt {H : Hp} {x : V} {p : Pr} (h : PT H x p) : kOf H x = ((p.1 : Int), (p.2 : Int)) := by
  obtain ⟨q, rfl, e⟩ := h
  simp only [kOf, e]
theorem prOf_pt {H : Hp} {x : V} {p : Pr} (h : PT H x p) : prOf H x = p := by
  unfold prOf; rw [kOf_pt h]; simp
theorem paired_map_eq {H : Hp} {os : List V} {ks : List Pr} (h : Paired (PT H) os ks) : ks = os.map (prOf H) := by
  induction h with
  | nil => rfl
  | cons a t ih => rw [List.map_cons, prOf_pt a, ← ih]
theorem paired_all {H : Hp} {os : List V} {ks : List Pr} (h : Paired (PT H) os ks) : ∀ x ∈ os, PT H x (prOf H x) := by
  induction h with
  | nil => intro x hx; simp at hx
  | cons a t ih =>
    intro x hx
    rcases List.mem_cons.mp hx with rfl | hx
    · rw [prOf_pt a]; exact a
    · exact ih x hx
theorem paired_of_all {H : Hp} : ∀ {ys : List V}, (∀ x ∈ ys, PT H x (prOf H x)) → Paired (PT H) ys (ys.map (prOf H))
  | [], _ => .nil
  | y :: ys, h => .cons (h y List.mem_cons_self) (paired_of_all fun x hx => h x (List.mem_cons_of_mem _ hx))
theorem srt_of {H : Hp} {os ys : List V} {s : CSt} (nd : (keys s).Nodup) (h : Paired (PT H) os (keys s)) (a : SrtO.Srtd (ltP (kOf H)) ys) (b : SrtO.Stb (ltP (kOf H)) ys os) : SrtK s (ys.map (prOf H)) ∧ Paired (PT H) ys (ys.map (prOf H)) := by
  have al := paired_all h
  have aly : ∀ x ∈ ys, PT H x (prOf H x) := fun x hx => al x (b.perm.mem_iff.mp hx)
  have pm : (ys.map (prOf H)).Perm (keys s) := by rw [paired_map_eq h]; exact b.perm.map _
  refine ⟨⟨pm, ?_⟩, paired_of_all aly⟩
  have nd2 : (ys.map (prOf H)).Nodup := pm.nodup_iff.mpr nd
  have a' : ys.Pairwise fun x y => ltP (kOf H) y x = false := a
  have nd3 : ys.Pairwise fun x y => prOf H x ≠ prOf H y := by
    have := nd2; unfold List.Nodup at this; rwa [List.pairwise_map] at this
  rw [List.pairwise_map]
  have key : ∀ {ys : List V}, (∀ x ∈ ys, PT H x (prOf H x)) → ys.Pairwise (fun x y => ltP (kOf H) y x = false) → ys.Pairwise (fun x y => prOf H x ≠ prOf H y) → ys.Pairwise fun x y => LtQ (prOf H x) (prOf H y) := by
    intro ys
    induction ys with
    | nil => intro _ _ _; exact .nil
    | cons y ys ih =>
      intro al p q
      obtain ⟨p1, p2⟩ := List.pairwise_cons.mp p
      obtain ⟨q1, q2⟩ := List.pairwise_cons.mp q
      refine List.pairwise_cons.mpr ⟨fun z hz => ?_, ih (fun x hx => al x (List.mem_cons_of_mem _ hx)) p2 q2⟩
      have hlt := p1 z hz
      have hne := q1 z hz
      have ky := kOf_pt (al y List.mem_cons_self)
      have kz := kOf_pt (al z (List.mem_cons_of_mem _ hz))
      have hlt' : SrtO.lexB (kOf H z) (kOf H y) = false := hlt
      rw [ky, kz] at hlt'
      have := SrtO.lexB_no.mp hlt'
      have hne' : ¬ ((prOf H y).1 = (prOf H z).1 ∧ (prOf H y).2 = (prOf H z).2) := fun e => hne (Prod.ext e.1 e.2)
      unfold LtQ
      simp only at this
      omega
  exact key aly a' nd3
theorem stepC_good {W : Wd} {s : CSt} {q : Pr} (G : Good W s) (h : q ∈ keys s) : Good W (stepC W q s) := by
  obtain ⟨⟨g1, _⟩, _⟩ := chainM_ok (W := W) (q := q) (s := s) ⟨G, h⟩
  obtain ⟨⟨g2, _⟩, _⟩ := widenM_ok g1
  exact g2.1
def doneOf (σ : List (Option V)) : Nat := match σ with
  | _ :: some (.int d) :: _ => d.toNat
  | _ => 0
section
variable {P : Program} {w : World} {K : PySem.W.Frag} {mg : Str → Option Value} {base : Heap} {C : Addr}
/-! ### has_goal -/
def spHasGoal (K : PySem.W.Frag) (w : World) (C : Addr) : Sp := fun vs H Q _ => ∃ (V_ : List Tm) (rs : List Rl) (A : Ad) (s : CSt) (g : V) (p : Tm × Tm), vs = [.ref A.c, g] ∧ CA K w C V_ A H s ∧ WOk V_ rs ∧ Dp K H g (prD2 p) ∧ p.1 ∈ V_ ∧ p.2 ∈ V_ ∧
  ∀ H', Same H H' → Q (.bl (decide ((ixW V_ p.1, ixW V_ p.2) ∈ keys s))) H'
theorem scm7 : FnScope ["self", "goal"] ["self", "goal"] (defScope (mS 7)) := ⟨rfl, rfl, rfl, by decide +kernel, rfl, by decide +kernel, by decide +kernel⟩
theorem ok_hasGoal (D : Dm K C "has_goal" "Closure.has_goal" (mS 7) ["self", "goal"]) (T : Tx K mg C) (FH : Mn P w K mg base C 1 "holds" nm1 (spHolds K w C)) : Mn P w K mg base C 2 "has_goal" ["self", "goal"] (spHasGoal K w C) := by
  refine D.ok scm7 (fun vs H Q E h => ?_) (fun f cdv A outer s H vs Q E hr h => ?_)
  · obtain ⟨V_, rs, A, s, g, p, rfl, _⟩ := h
    rfl
  obtain ⟨V_, rs, A, s, g, p, rfl, ca, O, hg, h1, h2, q⟩ := h
  have hu := hr.units
  refine ⟨_, pss_one (ps_ret (pe_mn FH T.cl hr (pv 0) (pa_cons (pe_nget hu (pe_fld (pv 0) rfl) (pe_ix ix_tup (pv 1) pe_int (fun _ _ => rfl))) (pa_cons (pe_nget hu (pe_fld (pv 0) rfl) (pe_ix ix_tup (pv 1) pe_int (fun _ _ => rfl))) pa_nil)))), ?_⟩
  obtain ⟨a, x, y, rfl, hs, hx, hy⟩ := pr_inv hg
  obtain ⟨nk, en, na, fn⟩ := ca.nu
  refine ⟨_, rfl, A.c, A.dx, cfl A, rfl, ca.ob, cf_holds A, ?_⟩
  refine ⟨_, rfl, A.c, C, A.dx, _, _, rfl, ca.ob, T.cl, T.nN, cf_n A, _, rfl, a, _, _, _, rfl, rfl, hs, atI_nat (j := 0) rfl, A.an, nk, tkey p.1, _, rfl, Rd.of en, na, hx, tk_ok (O.dp _ h1), fn _ _ (ixW_get h1), ?_⟩
  refine ⟨_, rfl, A.c, C, A.dx, _, _, rfl, ca.ob, T.cl, T.nN, cf_n A, _, rfl, a, _, _, _, rfl, rfl, hs, atI_nat (j := 1) rfl, A.an, nk, tkey p.2, _, rfl, Rd.of en, na, hy, tk_ok (O.dp _ h2), fn _ _ (ixW_get h2), ?_⟩
  exact ⟨V_, A, s, ixW V_ p.1, ixW V_ p.2, rfl, ca, q⟩
/-! ### pairs -/
def spPairs (K : PySem.W.Frag) (w : World) (C : Addr) : Sp := fun vs H Q _ => ∃ (V_ : List Tm) (rs : List Rl) (A : Ad) (s : CSt), vs = [.ref A.c] ∧ CA K w C V_ A H s ∧ WOk V_ rs ∧ Good (wdOf V_ rs) s ∧
  ∀ r ws ps H', Same H H' → H r = none → H' r = some (.lst ws) → SrtK s ps → DpAll K H' ws (ps.map fun p => prD2 (atW V_ p.1, atW V_ p.2)) → Q (.ref r) H'
abbrev nm6 : List Str := ["self", "one", "other"]
theorem scm6 : FnScope nm6 ["self"] (defScope (mS 6)) := ⟨rfl, rfl, rfl, by decide +kernel, rfl, by decide +kernel, by decide +kernel⟩
theorem ok_pairs (D : Dm K C "pairs" "Closure.pairs" (mS 6) ["self"]) (B : Bi mg) (T : Tx K mg C) : Mn P w K mg base C 1 "pairs" ["self"] (spPairs K w C) := by
  refine D.ok scm6 (fun vs H Q E h => ?_) (fun f cdv A outer s H vs Q E hr h => ?_)
  · obtain ⟨V_, rs, A, s, rfl, _⟩ := h
    rfl
  obtain ⟨V_, rs, A, s, rfl, ca, O, G, q⟩ := h
  refine ⟨_, pss_one (ps_ret (pe_lc (own := [("one", 1), ("other", 2)]) (tt := tYes) (by rfl) scm6.nd (pi_list (pe_callB cr_sortedPO (by rfl) B.sorted b_sorted (pa_cons (pe_fld (pv 0) rfl) pa_nil))) (blkOk_by (own := [("one", 1), ("other", 2)]) (N := nm6) (sc := defScope (mS 6)) (by decide +kernel))
    (fun _ _ _ _ _ => pg_tupK K 2 rfl (pgs_cons (pg_name (i := 1) scm6.nd rfl (.inl rfl)) (pgs_cons (pg_name (i := 2) scm6.nd rfl (.inl rfl)) pgs_nil))) (fun _ _ _ _ _ => pts_nil)
    (fun _ _ _ _ _ => pe_tup (pa_cons (pe_ix (ix_listK K) (pe_fldK K (pv 0) rfl) (pv 1) (fun _ _ => rfl)) (pa_cons (pe_ix (ix_listK K) (pe_fldK K (pv 0) rfl) (pv 2) (fun _ _ => rfl)) pa_nil))))), ?_⟩
  obtain ⟨os, eo, ro⟩ := ca.od
  refine ⟨_, rfl, A.c, C, A.dx, _, _, rfl, ca.ob, T.cl, T.nO, cf_o A, A.ao, os, kOf H, rfl, SqL.of eo, fun x hx => ?_, fun ys p a b np => ?_⟩
  · obtain ⟨t, e1, e2⟩ := paired_all ro x hx
    exact ⟨t, e1, by rw [kOf_pt ⟨t, e1, e2⟩]; exact e2⟩
  obtain ⟨sk, py⟩ := srt_of G.nodup ro a b
  have s1 := same_upd (o := .lst ys) np
  have py1 := PTs.tt py (Tt.same s1)
  generalize ys.map (prOf H) = ps at sk py py1
  have lp : ps.length ≤ 1000 := by rw [sk.perm.length_eq, keys_len]; exact O.len G
  have ly : ys.length = ps.length := PySem.Paired.length py
  refine ⟨p, rfl, ⟨_, SqL.of upd_same⟩, fun Dl nD => ?_⟩
  refine lcG (K := K) nD (src_list (SqL.of upd_same)) (fun i => (ps.take i).map fun p => prD2 (atW V_ p.1, atW V_ p.2)) rfl (fun i _ => ⟨flats_map (fun p : Pr => flat_prD2 (atW V_ p.1, atW V_ p.2)) _, small1000 (by rw [List.length_map, List.length_take]; omega)⟩) (fun i x H2 F Gx hi s2 _ hx kF kG => ?_) (fun H2 vs2 s2 hD2 ha2 => ?_)
  · obtain ⟨pp, ep, hp⟩ := L2.paired_get (PTs.tt py1 (Tt.same s2)) hx
    obtain ⟨t, rfl, et⟩ := hp
    have ca2 := ca.same (s1.trans s2)
    obtain ⟨ws, ew, dw⟩ := ca2.wd
    have mp : pp ∈ keys s := sk.perm.mem_iff.mp (List.mem_of_getElem? ep)
    have rg := G.rng pp mp
    have lw : ws.length = V_.length := mapD_len dw
    have r1 : pp.1 < V_.length := rg.1
    have r2 : pp.2 < V_.length := rg.2
    obtain ⟨x1, e1, d1⟩ := FW.DpAll.get dw (i := pp.1) (d := tD (atW V_ pp.1)) (by rw [tDs, List.getElem?_map, atW_get r1]; rfl)
    obtain ⟨x2, e2, d2⟩ := FW.DpAll.get dw (i := pp.2) (d := tD (atW V_ pp.2)) (by rw [tDs, List.getElem?_map, atW_get r2]; rfl)
    refine ⟨t, _, rfl, SqT.of et, rfl, _, _, rfl, _, _, rfl, rfl, rfl, ?_⟩
    refine ⟨_, rfl, A.c, C, A.dx, _, _, rfl, ca2.ob, T.cl, T.nW, cf_w A, _, rfl, A.aw, ws, _, _, rfl, rfl, SqL.of ew, atI_nat e1, ?_⟩
    refine ⟨_, rfl, A.c, C, A.dx, _, _, rfl, ca2.ob, T.cl, T.nW, cf_w A, _, rfl, A.aw, ws, _, _, rfl, rfl, SqL.of ew, atI_nat e2, ?_⟩
    refine ⟨(by show 2 ≤ sizeLine; decide), fun p3 np3 => kF _ _ _ (same_upd np3) (Dp.mk np3 (.cons d1 (.cons d2 .nil))) ?_⟩
    exact take_map_snoc (fun p : Pr => prD2 (atW V_ p.1, atW V_ p.2)) ep
  · refine q Dl vs2 ps H2 (s1.trans s2) (s1.free nD) hD2 sk ?_
    rw [ly, List.take_length] at ha2
    exact ha2
/-! ### finish -/
def spFinish (K : PySem.W.Frag) (w : World) (C : Addr) : Sp := fun vs H Q _ => ∃ (V_ : List Tm) (rs : List Rl) (A : Ad), vs = [.ref A.c] ∧ CA K w C V_ A H (beginM (wdOf V_ rs)) ∧ WOk V_ rs ∧
  ∀ H', Kp A.ar A.ao H H' → CA K w C V_ A H' (closeM (wdOf V_ rs)) → Q .non H'
abbrev nm4 : List Str := ["self", "done", "one", "other", "at"]
theorem scm4 : FnScope nm4 ["self"] (defScope (mS 4)) := ⟨rfl, rfl, rfl, by decide +kernel, rfl, by decide +kernel, by decide +kernel⟩
theorem ok_finish (D : Dm K C "finish" "Closure.finish" (mS 4) ["self"]) (B : Bi mg) (T : Tx K mg C) (FH : Mn P w K mg base C 1 "holds" nm1 (spHolds K w C)) (FN : Mn P w K mg base C 1 "note" nm2 (spNote K w C)) (FW_ : Mn P w K mg base C 2 "widen" nm1 (spWiden K w C)) :
    Mn P w K mg base C 3 "finish" ["self"] (spFinish K w C) := by
  refine D.ok scm4 (fun vs H Q E h => ?_) (fun f cdv A outer s H vs Q E hr h => ?_)
  · obtain ⟨V_, rs, A, rfl, _⟩ := h
    rfl
  obtain ⟨V_, rs, A, rfl, ca, O, q⟩ := h
  have hu := hr.units
  have hr1 : Room 1 _ := hr.mono (by decide)
  refine ⟨_, pss_cons (ps_set (i := 1) scm4.nd rfl (.inl rfl) pe_int)
    (pss_one (ps_while PassesOwn.never (pt_cmpR op_lt (pv 1) (pe_callB call_len (by rfl) B.len b_len (pa_cons (pe_fld (pv 0) rfl) pa_nil)) (nomark _))
      (pss_cons (ps_asg (pe_ix ix_list (pe_fld (pv 0) rfl) (pv 1) (fun _ _ => rfl)) (pg_tup rfl (pgs_cons (pg_name (i := 2) scm4.nd rfl (.inl rfl)) (pgs_cons (pg_name (i := 3) scm4.nd rfl (.inl rfl)) pgs_nil))))
      (pss_cons (ps_aug (i := 1) scm4.nd rfl (.inl rfl) pe_int ip_add)
      (pss_cons (ps_for PassesOwn.never rfl (pi_range1 (by rfl) B.range (pa_cons (pe_callB call_len (by rfl) B.len b_len (pa_cons (pe_fld (pv 0) rfl) pa_nil)) pa_nil)) (pg_name (i := 4) scm4.nd rfl (.inl rfl))
        (Evl.pss_cut (ps_if (pt_val (pe_mn FH T.cl hr1 (pv 0) (pa_cons (pv 3) (pa_cons (pv 4) pa_nil))))
            (pss_one (ps_expr (pe_mn FN T.cl hr1 (pv 0) (pa_cons (pv 2) (pa_cons (pv 4) (pa_cons (pe_tup (pa_cons pe_str (pa_cons (pe_tup (pa_cons (pv 2) (pa_cons (pv 3) pa_nil))) (pa_cons (pe_tup (pa_cons (pv 3) (pa_cons (pv 4) pa_nil))) pa_nil)))) pa_nil)))))) pss_nil)
          (pss_one (ps_if (pt_val (pe_mn FH T.cl hr1 (pv 0) (pa_cons (pv 4) (pa_cons (pv 2) pa_nil))))
            (pss_one (ps_expr (pe_mn FN T.cl hr1 (pv 0) (pa_cons (pv 4) (pa_cons (pv 3) (pa_cons (pe_tup (pa_cons pe_str (pa_cons (pe_tup (pa_cons (pv 4) (pa_cons (pv 2) pa_nil))) (pa_cons (pe_tup (pa_cons (pv 2) (pa_cons (pv 3) pa_nil))) pa_nil)))) pa_nil)))))) pss_nil))))
      (pss_one (ps_expr (pe_mn FW_ T.cl hr (pv 0) (pa_cons (pv 2) (pa_cons (pv 3) pa_nil)))))))))), ?_⟩
  have OK := O.ws.ok
  have lle := O.le
  obtain ⟨gB, bB⟩ := beginM_ok OK
  generalize hn : (wdOf V_ rs).n * (wdOf V_ rs).n = nn
  refine while_by (fun σ H2 => ∃ (d fu : Nat) (s : CSt) (x2 x3 x4 : Option V), σ = [some (.ref A.c), some (.int (d : Nat)), x2, x3, x4] ∧ Kp A.ar A.ao H H2 ∧ CA K w C V_ A H2 s ∧ Good (wdOf V_ rs) s ∧ fu + d = nn ∧ finM (wdOf V_ rs) fu d s = closeM (wdOf V_ rs)) (fun σ _ => nn - doneOf σ)
    ⟨0, nn, _, none, none, none, rfl, Kp.refl _, ca, gB, rfl, by rw [← hn]; rfl⟩ ?_ ?_
  · rintro σ H2 ⟨d, fu, s, x2, x3, x4, rfl, k2, ca2, g2, ef, em⟩
    obtain ⟨os, eo, ro⟩ := ca2.od
    have lo : os.length = s.length := by rw [PySem.Paired.length ro, keys_len]
    have ls := g2.len
    rw [hn] at ls
    refine ⟨_, rfl, _, rfl, A.c, C, A.dx, _, _, rfl, ca2.ob, T.cl, T.nO, cf_o A, _, os.length, rfl, .inl ⟨_, SqL.of eo, rfl⟩, _, _, rfl, rfl, _, rfl, ?_⟩
    by_cases hlt : d < s.length
    · rw [decide_eq_true (show ((d : Nat) : Int) < ((os.length : Nat) : Int) by omega)]
      refine iteT ?_
      have es : s[d]? = some s[d] := List.getElem?_eq_getElem hlt
      have eos : os[d]? = some os[d] := List.getElem?_eq_getElem (by omega)
      obtain ⟨e, ee, he⟩ := L2.paired_get ro eos
      obtain ⟨⟨⟨o, u⟩, r⟩, er⟩ : ∃ e : Pr × Rsn, s[d]? = some e := ⟨_, es⟩
      have e' : e = (o, u) := by
        have : (keys s)[d]? = some (o, u) := by unfold keys; rw [List.getElem?_map, er]; rfl
        rw [this] at ee; exact (Option.some.inj ee).symm
      subst e'
      obtain ⟨to, eto, hto⟩ := he
      have mk : (o, u) ∈ keys s := List.mem_map.mpr ⟨_, List.mem_of_getElem? er, rfl⟩
      refine ⟨_, rfl, A.c, C, A.dx, _, _, rfl, ca2.ob, T.cl, T.nO, cf_o A, _, rfl, A.ao, os, _, _, rfl, rfl, SqL.of eo, atI_nat eos, to, _, eto, SqT.of hto, rfl, _, _, rfl, _, _, rfl, rfl, ?_⟩
      refine ⟨_, rfl, _, _, rfl, rfl, ?_⟩
      obtain ⟨ws, ew, dw⟩ := ca2.wd
      have lw : ws.length = V_.length := mapD_len dw
      refine ⟨_, rfl, A.c, C, A.dx, _, _, rfl, ca2.ob, T.cl, T.nW, cf_w A, _, ws.length, rfl, .inl ⟨_, SqL.of ew, rfl⟩, (ws.length : Nat), rfl, by omega, by omega, ?_⟩
      generalize hsI : (fun i => (List.range i).foldl (turnM (o, u)) s) = sI
      have gI : ∀ i, i ≤ V_.length → GoodQ (wdOf V_ rs) (o, u) (sI i) := fun i hi => by subst hsI; exact goodC hi ⟨g2, mk⟩
      refine forS ws.length (fun i x H H' => H' = H ∧ x = .int (i : Nat)) (fun i σ H3 => ∃ y4, σ = [some (.ref A.c), some (.int ((d : Nat) + 1 : Int)), some (.int (o : Nat)), some (.int (u : Nat)), y4] ∧ Kp A.ar A.ao H2 H3 ∧ CA K w C V_ A H3 (sI i))
        ⟨_, rfl, Kp.refl _, by subst hsI; exact ca2⟩ (fun i σ H3 _ _ => ⟨fun hi => ⟨hi, fun x H' y => ⟨y.1, by rw [y.2]; simp⟩⟩, fun e => Nat.le_of_eq e.symm⟩) ?_ ?_
      · rintro i x σ H3 H4 hi ⟨y4, rfl, k4, ca4⟩ ⟨rfl, rfl⟩
        have iV : i < V_.length := by omega
        generalize hsJ : (fun i => turnA (o, u) (sI i) i) = sJ
        have gJ : ∀ i, i < V_.length → GoodQ (wdOf V_ rs) (o, u) (sJ i) := fun i hi => by
          subst hsJ
          obtain ⟨a1, a2⟩ := turnA_ok (gI i (by omega)).2 (gI i (by omega)).1 hi
          exact ⟨a1, pre_mem a2 (gI i (by omega)).2⟩
        have eJ : sJ i = turnA (o, u) (sI i) i := by subst hsJ; rfl
        have eI : sI (i + 1) = turnB (o, u) (sJ i) i := by rw [eJ]; subst hsI; exact range_fold _ _ _
        refine ⟨fun σ' H' => σ' = [some (.ref A.c), some (.int ((d : Nat) + 1 : Int)), some (.int (o : Nat)), some (.int (u : Nat)), some (.int (i : Nat))] ∧ Kp A.ar A.ao H4 H' ∧ CA K w C V_ A H' (sJ i), ?_, ?_⟩
        · skip
          refine ⟨_, rfl, A.c, A.dx, cfl A, rfl, ca4.ob, cf_holds A, _, rfl, _, rfl, V_, A, (sI i), u, i, rfl, ca4, fun H6 s6 => ⟨_, rfl, ?_⟩⟩
          have ca6 := ca4.same s6
          by_cases hin : (u, i) ∈ keys (sI i)
          · rw [decide_eq_true hin]
            refine iteT ?_
            refine ⟨_, rfl, A.c, A.dx, cfl A, rfl, ca6.ob, cf_note A, _, rfl, _, rfl, _, rfl, _, rfl, (by show 2 ≤ sizeLine; decide), fun p1 np1 => ⟨_, rfl, _, rfl, (by show 2 ≤ sizeLine; decide), fun p2 np2 => ⟨(by show 3 ≤ sizeLine; decide), fun p3 np3 => ?_⟩⟩⟩
            have t1 := same_upd (o := .tup [V.int ((o, u)).1, .int ((o, u)).2]) np1
            have t2 := same_upd (o := .tup [V.int ((u, i)).1, .int ((u, i)).2]) np2
            have t3 := same_upd (o := .tup [V.str "chain", .ref p1, .ref p2]) np3
            refine ⟨V_, A, (sI i), o, i, _, .chain ((o, u)) ((u, i)), rfl, ca6.same ((t1.trans t2).trans t3), ⟨p3, _, _, rfl, upd_same, PT.tt (PT.new (i := ((o, u)).1) (j := ((o, u)).2)) (Tt.same (t2.trans t3)), PT.tt (PT.new (i := ((u, i)).1) (j := ((u, i)).2)) (Tt.same t3)⟩, O.len (gI i (by omega)).1, fun H7 k7 ca7 => ?_⟩
            refine ⟨rfl, ((Kp.same (s6.trans ((t1.trans t2).trans t3))).trans k7), ?_⟩
            have em : turnA (o, u) (sI i) i = note (sI i) (o, i) (.chain ((o, u)) ((u, i))) := by unfold turnA; rw [if_pos hin]
            rw [eJ, em]; exact ca7
          · rw [decide_eq_false hin]
            refine iteF ⟨rfl, (Kp.same s6), ?_⟩
            have em : turnA (o, u) (sI i) i = (sI i) := by unfold turnA; rw [if_neg hin]
            rw [eJ, em]; exact ca6
        · rintro σ5 H5 ⟨rfl, k5, ca5⟩
          refine ⟨_, rfl, A.c, A.dx, cfl A, rfl, ca5.ob, cf_holds A, _, rfl, _, rfl, V_, A, (sJ i), i, o, rfl, ca5, fun H6 s6 => ⟨_, rfl, ?_⟩⟩
          have ca6 := ca5.same s6
          by_cases hin : (i, o) ∈ keys (sJ i)
          · rw [decide_eq_true hin]
            refine iteT ?_
            refine ⟨_, rfl, A.c, A.dx, cfl A, rfl, ca6.ob, cf_note A, _, rfl, _, rfl, _, rfl, _, rfl, (by show 2 ≤ sizeLine; decide), fun p1 np1 => ⟨_, rfl, _, rfl, (by show 2 ≤ sizeLine; decide), fun p2 np2 => ⟨(by show 3 ≤ sizeLine; decide), fun p3 np3 => ?_⟩⟩⟩
            have t1 := same_upd (o := .tup [V.int ((i, o)).1, .int ((i, o)).2]) np1
            have t2 := same_upd (o := .tup [V.int ((o, u)).1, .int ((o, u)).2]) np2
            have t3 := same_upd (o := .tup [V.str "chain", .ref p1, .ref p2]) np3
            refine ⟨V_, A, (sJ i), i, u, _, .chain ((i, o)) ((o, u)), rfl, ca6.same ((t1.trans t2).trans t3), ⟨p3, _, _, rfl, upd_same, PT.tt (PT.new (i := ((i, o)).1) (j := ((i, o)).2)) (Tt.same (t2.trans t3)), PT.tt (PT.new (i := ((o, u)).1) (j := ((o, u)).2)) (Tt.same t3)⟩, O.len (gJ i (by omega)).1, fun H7 k7 ca7 => ?_⟩
            refine ⟨_, rfl, k4.trans (k5.trans ((Kp.same (s6.trans ((t1.trans t2).trans t3))).trans k7)), ?_⟩
            have em : turnB (o, u) (sJ i) i = note (sJ i) (i, u) (.chain ((i, o)) ((o, u))) := by unfold turnB; rw [if_pos hin]
            rw [eI, em]; exact ca7
          · rw [decide_eq_false hin]
            refine iteF ⟨_, rfl, k4.trans (k5.trans (Kp.same s6)), ?_⟩
            have em : turnB (o, u) (sJ i) i = (sJ i) := by unfold turnB; rw [if_neg hin]
            rw [eI, em]; exact ca6
      · rintro σ H3 ⟨y4, rfl, k4, ca4⟩
        have gE := gI V_.length (Nat.le_refl _)
        rw [lw] at ca4
        refine ⟨_, rfl, A.c, A.dx, cfl A, rfl, ca4.ob, cf_widen A, _, rfl, _, rfl, V_, rs, A, sI V_.length, o, u, rfl, ca4, O, gE, fun H5 k5 ca5 => ?_⟩
        have eS : sI V_.length = chainM (wdOf V_ rs) (o, u) s := by subst hsI; rfl
        rw [eS] at ca5
        have st := stepC_good g2 mk (W := wdOf V_ rs)
        obtain ⟨fu', rfl⟩ : ∃ f', fu = f' + 1 := ⟨fu - 1, by omega⟩
        refine ⟨⟨d + 1, fu', stepC (wdOf V_ rs) (o, u) s, _, _, _, rfl, (k2.trans k4).trans k5, ca5, st, by omega, ?_⟩, ?_⟩
        · rw [← em, finM_next er]
        · show nn - (((d : Nat) : Int) + 1).toNat < nn - ((d : Nat) : Int).toNat
          omega
    · rw [decide_eq_false (show ¬ ((d : Nat) : Int) < ((os.length : Nat) : Int) by omega)]
      refine iteF ?_
      refine q H2 k2 ?_
      rw [← em, finM_end (by omega)]
      exact ca2
  · rintro σ H2 Q1 Q2 hq ⟨v, h1, v2, h2, a, C', dx, fs, v3, h3, h4, h5, h6, h7, x, n, h8, h9, i, j, h10, h11, k, h12, h13⟩
    exact ⟨v, h1, v2, h2, a, C', dx, fs, v3, h3, h4, h5, h6, h7, x, n, h8, h9, i, j, h10, h11, k, h12, hq _ _ h13⟩
end
end FD
end T_D8

section T_D9
set_option Elab.async false
set_option linter.all false
set_option maxRecDepth 100000
/-! The walk: Closure(rules, words). -/
namespace FD
open PySem L2 FF FW
section
variable {P : Program} {w : World} {K : PySem.W.Frag} {mg : Str → Option Value} {base : Heap} {C : Addr}
def spInit (K : PySem.W.Frag) (w : World) (C : Addr) : Sp := fun vs H Q _ => ∃ (V_ : List Tm) (rs : List Rl) (c dx a aw : Addr) (us ws : List V), vs = [.ref c, .ref a, .ref aw] ∧ H c = some (.ins C dx []) ∧ SqL K H a us ∧ DpAll K H us (rs.map rlD) ∧ H aw = some (.lst ws) ∧ DpAll K H ws (tDs V_) ∧ WOk V_ rs ∧
  ∀ (A : Ad) H', A.c = c → (∀ b o, H b = some o → b ≠ c → H' b = some o) → CA K w C V_ A H' (closeM (wdOf V_ rs)) → Q .non H'
abbrev nm0 : List Str := ["self", "rules", "words", "word", "at", "part"]
theorem scm0 : FnScope nm0 ["self", "rules", "words"] (defScope (mS 0)) := ⟨rfl, rfl, rfl, by decide +kernel, rfl, by decide +kernel, by decide +kernel⟩
theorem tkeys_nodup {V_ : List Tm} (nd : V_.Nodup) : (V_.map tkey).Nodup := by
  unfold List.Nodup at *
  rw [List.pairwise_map]
  exact nd.imp fun {a b} h e => h (tkey_inj a b e)
theorem ok_init (D : Dm K C "__init__" "Closure.__init__" (mS 0) ["self", "rules", "words"]) (B : Bi mg) (T : Tx K mg C) (FB : Mn P w K mg base C 2 "begin" ["self", "rules"] (spBegin K w C)) (FF_ : Mn P w K mg base C 3 "finish" ["self"] (spFinish K w C)) :
    Mn P w K mg base C 4 "__init__" ["self", "rules", "words"] (spInit K w C) := by
  refine D.ok scm0 (fun vs H Q E h => ?_) (fun f cdv A outer s H vs Q E hr h => ?_)
  · obtain ⟨V_, rs, c, dx, a, aw, us, ws, rfl, _⟩ := h
    rfl
  obtain ⟨V_, rs, c, dx, a, aw, us, ws, rfl, hc, hS, ha, ew, dw, O, q⟩ := h
  have hu := hr.units
  refine ⟨_, pss_cons (ps_fld (pv 0) (pv 2) rfl)
    (pss_cons (ps_fld (pv 0) (pe_dcG (o0 := fun D => dN w D []) (st := stN K w) (own := [("at", 4), ("word", 3)]) (tt := tYes) (fun H h hb => empty_N H h hb) (stN_ok hu) (by rfl) scm0.nd (pi_enum (by rfl) B.enum (pa_cons (pv 2) pa_nil)) (blkOk_by (own := [("at", 4), ("word", 3)]) (N := nm0) (sc := defScope (mS 0)) (by decide +kernel))
        (fun _ _ _ _ _ => pg_tupK K 2 rfl (pgs_cons (pg_name (i := 4) scm0.nd rfl (.inl rfl)) (pgs_cons (pg_name (i := 3) scm0.nd rfl (.inl rfl)) pgs_nil))) (fun _ _ _ _ _ => pts_nil) (fun _ _ _ _ _ => pv 3) (fun _ _ _ _ _ => pv 4)) rfl)
    (pss_cons (ps_fld (pv 0) pe_dnewT rfl)
    (pss_cons (ps_fld (pv 0) (pe_lst pa_nil) rfl)
    (pss_cons (ps_fld (pv 0) (pe_lc (own := [("word", 3)]) (g := gName 3) (tt := tYes) (by rfl) scm0.nd (pi_list (pv 2)) (blkOk_by (own := [("word", 3)]) (N := nm0) (sc := defScope (mS 0)) (by decide +kernel))
        (fun _ _ _ _ _ => pg_name (i := 3) scm0.nd rfl (Or.inl rfl)) (fun _ _ _ _ _ => pts_nil)
        (fun _ _ _ _ _ => pe_ifExp (pt_val (pe_callB (call_isD K) (by rfl) B.isi b_isi (pa_cons (pv 3) (pa_cons (pe_bltn (v := .ty "tuple") (by rfl) B.tup b_tup rfl) pa_nil))))
          (pe_lc (own := [("part", 5)]) (g := gName 5) (tt := tYes) (by rfl) scm0.nd (pi_tupK K (pe_slice (sl_tupK K) (pv 3) (po_some pe_int) po_none)) (blkOk_by (own := [("part", 5)]) (N := nm0) (sc := { kind := .function, names := [(".0", .local), ("word", .local), ("isinstance", .globalImplicit), ("tuple", .globalImplicit), ("self", .cell)], isGenerator := false, isCoroutine := false }) (by decide +kernel))
            (fun _ _ _ _ _ => pg_name (i := 5) scm0.nd rfl (Or.inl rfl)) (fun _ _ _ _ _ => pts_nil) (fun _ _ _ _ _ => pe_ngetK K w hu (pe_fldK K (pv 0) rfl) (pv 5)))
          (pe_lst pa_nil))) rfl)
    (pss_cons (ps_expr (pe_mn FB T.cl (hr.mono (by decide)) (pv 0) (pa_cons (pv 1) pa_nil)))
    (pss_one (ps_expr (pe_mn0 FF_ T.cl hr (pv 0))))))))), ?_⟩
  have lw : ws.length = V_.length := mapD_len dw
  have lle := O.le
  have OK := O.ws.ok
  have naw : aw ≠ c := fun z => by rw [z, hc] at ew; cases ew
  -- self.words
  refine ⟨_, rfl, _, rfl, c, C, dx, _, rfl, hc, T.cl, T.nW, (by show 0 < 1000; decide), ?_⟩
  generalize e1 : (upd H c (.ins C dx (putF "words" (.ref aw) []))) = H1
  have k1 : Kp c c H H1 := by subst e1; exact kp_upd1
  have t1 : Tt H H1 := by subst e1; exact Tt.upd hc trivial
  have c1 : H1 c = some (.ins C dx (putF "words" (.ref aw) [])) := by subst e1; exact upd_same
  have w1 : H1 aw = some (.lst ws) := k1 _ _ ew naw naw
  have dw1 := DpAll.ts t1.ts _ _ (flats_tDs _) dw
  -- self.number
  refine ⟨_, rfl, aw, ws, rfl, SqL.of w1, fun D1 nD1 => ?_⟩
  refine ⟨fun i m H2 => m = ws.length - i ∧ i ≤ ws.length ∧ Same H1 H2 ∧ ∃ kvs, H2 D1 = some (dN w D1 kvs) ∧ NAt K H2 kvs ∧ kvs.map (·.1) = (V_.take i).map tkey ∧ kvs.map (·.2.2) = (List.range i).map (fun j => V.int (j : Nat)),
    ⟨ws.length, by simp, Nat.zero_le _, same_upd nD1, [], upd_same, fun p hp => by simp at hp, rfl, rfl⟩, ?_⟩
  rintro i m H2 ⟨rfl, hi, s2, kvs, hD, na, ek, ev⟩
  by_cases hlt : i < ws.length
  · have sr := (srcE (i := i) (s2.seq (SqL.of (K := K) w1))).1 hlt
    refine .inr ⟨sr.1, fun H' => ws.length - (i + 1) = ws.length - (i + 1) ∧ i + 1 ≤ ws.length ∧ Same H1 H' ∧ ∃ kvs, H' D1 = some (dN w D1 kvs) ∧ NAt K H' kvs ∧ kvs.map (·.1) = (V_.take (i + 1)).map tkey ∧ kvs.map (·.2.2) = (List.range (i + 1)).map (fun j => V.int (j : Nat)), fun H' z => ⟨ws.length - (i + 1), by omega, z⟩, fun x H' y => ?_⟩
    obtain ⟨Tp, x, rfl, nT, rfl, hx⟩ := sr.2 _ _ y
    have sT := same_upd (o := .tup [V.int (i : Nat), x]) nT
    obtain ⟨t, et, ht⟩ := tDs_get (DpAll.same (s2.trans sT) _ _ dw1) hx
    have mt : t ∈ V_ := List.mem_of_getElem? et
    have lk : kvs.length = i := by
      have := congrArg List.length ev
      simpa using this
    refine ⟨Tp, _, rfl, SqT.of upd_same, rfl, _, _, rfl, _, _, rfl, rfl, rfl, ?_⟩
    have hD3 := sT _ _ hD
    refine ⟨_, rfl, _, rfl, kvs, tkey t, hD3, na.ts (TS.same sT), ht, tk_ok (O.dp t mt), ?_, small1000 (by omega), ?_⟩
    · rw [ek]
      intro hm
      obtain ⟨u, hu', e⟩ := List.mem_map.mp hm
      have := tkey_inj _ _ e
      subst this
      obtain ⟨j, hj⟩ := List.mem_iff_getElem?.mp hu'
      have hji : j < i := by
        have := (List.getElem?_eq_some_iff.mp hj).1
        rw [List.length_take] at this; omega
      rw [List.getElem?_take_of_lt hji] at hj
      have := (List.getElem?_inj (List.getElem?_eq_some_iff.mp hj).1 O.ws.nd).mp (hj.trans et.symm)
      omega
    · refine ⟨rfl, hlt, fun b o hb => ?_, kvs ++ [(tkey t, x, .int (i : Nat))], upd_same, ?_, ?_, ?_⟩
      · rw [upd_ne (ne_of_none hb nD1)]
        exact sT _ _ (s2 _ _ hb)
      · have t3 : FW.TS _ (upd (upd H2 Tp (.tup [V.int (i : Nat), x])) D1 (dN w D1 (kvs ++ [(tkey t, x, .int (i : Nat))]))) := TS.upd hD3 trivial
        intro p hp
        rcases List.mem_append.mp hp with hp | hp
        · exact (na.ts ((TS.same sT).trans t3)) p hp
        · have : p = (tkey t, x, .int (i : Nat)) := by simpa using hp
          subst this
          exact ⟨TmAt.ts ht t3, tk_ok (O.dp t mt)⟩
      · rw [List.map_append, ek, take_map_snoc tkey et]; rfl
      · rw [List.map_append, ev, List.range_succ, List.map_append]; rfl
  · have ei : i = ws.length := by omega
    refine .inl ⟨⟨ws, s2.seq (SqL.of w1), by omega⟩, ?_⟩
    have numOk : ∀ (j : Nat) t, V_[j]? = some t → valN kvs (tkey t) = some (.int (j : Nat)) := by
      intro j t hj
      have hjl : j < i := by have := (List.getElem?_eq_some_iff.mp hj).1; omega
      have h1 : (kvs.map (·.1))[j]? = some (tkey t) := by
        rw [ek, ei, lw, List.take_length, List.getElem?_map, hj]; rfl
      have h2 : (kvs.map (·.2.2))[j]? = some (.int (j : Nat)) := by
        rw [ev, List.getElem?_map, List.getElem?_range hjl]; rfl
      rw [List.getElem?_map] at h1 h2
      obtain ⟨p, hp, e1'⟩ := Option.map_eq_some_iff.mp h1
      rw [hp] at h2
      have e2' : p.2.2 = .int (j : Nat) := by simpa using h2
      have nd : (kvs.map (·.1)).Nodup := by
        rw [ek, ei, lw, List.take_length]; exact tkeys_nodup O.ws.nd
      have := valN_at nd (List.mem_of_getElem? hp)
      rw [e1', e2'] at this
      exact this
    have nc1 : c ≠ D1 := ne_of_none c1 nD1
    have c2 := s2 _ _ c1
    refine ⟨_, rfl, c, C, dx, _, rfl, c2, T.cl, T.nN, (by show 1 < 1000; decide), ?_⟩
    generalize e3 : (upd H2 c (.ins C dx (putF "number" (.ref D1) (putF "words" (.ref aw) [])))) = H3
    have k3 : Kp c c H2 H3 := by subst e3; exact kp_upd1
    have t3 : Tt H2 H3 := by subst e3; exact Tt.upd c2 trivial
    have c3 : H3 c = some (.ins C dx (putF "number" (.ref D1) (putF "words" (.ref aw) []))) := by subst e3; exact upd_same
    -- self.reasons
    intro ar nar
    have s4 := same_upd (o := .dT []) nar
    refine ⟨_, rfl, c, C, dx, _, rfl, s4 _ _ c3, T.cl, T.nR, (by show 2 < 1000; decide), ?_⟩
    generalize e5 : (upd (upd H3 ar (.dT [])) c (.ins C dx (putF "reasons" (.ref ar) (putF "number" (.ref D1) (putF "words" (.ref aw) []))))) = H5
    have k5 : Kp c c (upd H3 ar (.dT [])) H5 := by subst e5; exact kp_upd1
    have t5 : Tt (upd H3 ar (.dT [])) H5 := by subst e5; exact Tt.upd (s4 _ _ c3) trivial
    have c5 : H5 c = some (.ins C dx (putF "reasons" (.ref ar) (putF "number" (.ref D1) (putF "words" (.ref aw) [])))) := by subst e5; exact upd_same
    have nrc : ar ≠ c := (ne_of_none c3 nar).symm
    have r5 : H5 ar = some (.dT []) := k5 _ _ upd_same nrc nrc
    -- self.order
    refine ⟨(by show 0 ≤ sizeLine; decide), fun ao nao => ?_⟩
    have s6 := same_upd (o := .lst []) nao
    refine ⟨_, rfl, c, C, dx, _, rfl, s6 _ _ c5, T.cl, T.nO, (by show 3 < 1000; decide), ?_⟩
    generalize e7 : (upd (upd H5 ao (.lst [])) c (.ins C dx (putF "order" (.ref ao) (putF "reasons" (.ref ar) (putF "number" (.ref D1) (putF "words" (.ref aw) [])))))) = H7
    have k7 : Kp c c (upd H5 ao (.lst [])) H7 := by subst e7; exact kp_upd1
    have t7 : Tt (upd H5 ao (.lst [])) H7 := by subst e7; exact Tt.upd (s6 _ _ c5) trivial
    have c7 : H7 c = some (.ins C dx (putF "order" (.ref ao) (putF "reasons" (.ref ar) (putF "number" (.ref D1) (putF "words" (.ref aw) []))))) := by subst e7; exact upd_same
    have noc : ao ≠ c := (ne_of_none c5 nao).symm
    have o7 : H7 ao = some (.lst []) := k7 _ _ upd_same noc noc
    have r7 : H7 ar = some (.dT []) := k7 _ _ (s6 _ _ r5) nrc nrc
    have k27 : Kp c c H2 H7 := k3.trans ((Kp.same s4).trans (k5.trans ((Kp.same s6).trans k7)))
    have t27 : Tt H2 H7 := t3.trans ((Tt.same s4).trans (t5.trans ((Tt.same s6).trans t7)))
    have n7 : H7 D1 = some (dN w D1 kvs) := k27 _ _ hD nc1.symm nc1.symm
    have na7 : NAt K H7 kvs := na.ts t27.ts
    have k17 : Kp c c H1 H7 := (Kp.same s2).trans k27
    have w7 : H7 aw = some (.lst ws) := k17 _ _ w1 naw naw
    have dw7 := DpAll.ts t27.ts _ _ (flats_tDs _) (DpAll.same s2 _ _ dw1)
    have k57 : Kp c c H5 H7 := (Kp.same s6).trans k7
    have nwo : aw ≠ ao := fun z => by
      have h5 : H5 aw = some (.lst ws) := k5 _ _ (s4 _ _ (k3 _ _ (s2 _ _ w1) naw naw)) naw naw
      rw [z, nao] at h5; cases h5
    -- self.inner
    refine ⟨_, rfl, aw, rfl, ⟨_, SqL.of w7⟩, fun D2 nD2 => ?_⟩
    have inE : ∀ (j : Nat) t, V_[j]? = some t → (wdOf V_ []).inner j = t.parts.map (ixW V_) := fun j t h => wd_inner h
    refine lcR (R := fun H' v (j : Nat) => ∃ qi, v = .ref qi ∧ qi ≠ ao ∧ qi ≠ D2 ∧ H' qi = some (.lst ((((wdOf V_ []).inner j).map fun n => ((n : Nat) : Int)).map V.int))) nD2 (src_list (SqL.of w7)) (fun j => List.range j) rfl (fun j hj => small1000 (by rw [List.length_range]; omega)) (fun Ha Hb v p k hDa x hx => ?_) (fun j x Ha F Gx hj sa hDn hx kF kG => ?_) (fun Ha iv sa hDa hia => ?_)
    · obtain ⟨qi, e1, e2, e3, e4⟩ := hx
      exact ⟨qi, e1, e2, e3, k _ _ e4 e3⟩
    · obtain ⟨t, et, ht⟩ := tDs_get (DpAll.same sa _ _ dw7) hx
      have mt : t ∈ V_ := List.mem_of_getElem? et
      refine ⟨rfl, ?_⟩
      rcases TmAt.cases ht with ⟨cc, rfl, rfl⟩ | ⟨op, ts, p, vs', rfl, rfl, hp, hva⟩
      · refine ⟨_, rfl, _, "tuple", _, _, rfl, .str _, k_st, _, rfl, iteF ?_⟩
        refine ⟨(by show 0 ≤ sizeLine; decide), fun ql nql => kF _ _ j (same_upd nql) ⟨ql, rfl, fun z => ?_, fun z => ?_, ?_⟩ List.range_succ⟩
        · rw [z, sa _ _ o7] at nql; cases nql
        · rw [z] at nql; exact hDn nql
        · rw [upd_same, inE j _ et]; rfl
      · refine ⟨_, rfl, _, "tuple", _, _, rfl, dp_node ht, k_tt, _, rfl, iteT ?_⟩
        refine ⟨_, rfl, ⟨1, rfl, p, _, rfl, hp, tail_ne _ _, fun p1 np1 => ?_⟩⟩
        rw [cut_tail]
        have s9 := same_upd (o := .tup vs') np1
        refine ⟨p1, rfl, ⟨_, SqT.of upd_same⟩, fun D3 nD3 => ?_⟩
        have lts : vs'.length = ts.length := mapD_len hva
        have ltl : ts.length ≤ 24 := by
          have hjV := (List.getElem?_eq_some_iff.mp et).1
          have := O.inl j hjV
          rw [wd_inner et, List.length_map] at this
          exact this
        refine lcB nD3 (src_tup (SqT.of upd_same)) (fun m => ((ts.take m).map fun u => V.int (ixW V_ u : Nat))) rfl (fun m _ => small1000 (by rw [List.length_map, List.length_take]; omega)) (fun m y Hb F' G' hm sb _ hy kF' kG' => ?_) (fun Hb sb hDb => ?_)
        · obtain ⟨u, eu, hu'⟩ := tDs_get (DpAll.same (s9.trans sb) _ _ hva) hy
          have mu : u ∈ V_ := O.ws.part _ mt u (List.mem_of_getElem? eu)
          have sab := sa.trans (s9.trans sb)
          refine ⟨rfl, _, rfl, c, C, dx, _, _, rfl, sab _ _ c7, T.cl, T.nN, (by rfl), _, rfl, D1, kvs, tkey u, _, rfl, Rd.of (sab _ _ n7), na7.ts (TS.same sab), hu', tk_ok (O.dp u mu), numOk _ _ (ixW_get mu), ?_⟩
          exact kF' _ _ (Same.refl _) (take_map_snoc (fun u => V.int (ixW V_ u : Nat)) eu)
        · have e9 : ((ts.take vs'.length).map fun u => V.int (ixW V_ u : Nat)) = (((wdOf V_ []).inner j).map fun n => ((n : Nat) : Int)).map V.int := by
            rw [lts, List.take_length, inE j _ et]
            show _ = ((ts.map (ixW V_)).map _).map _
            rw [List.map_map, List.map_map]; rfl
          rw [e9] at hDb
          have nHa : Ha D3 = none := s9.free nD3
          refine kF _ _ j (s9.trans sb) ⟨D3, rfl, fun z => ?_, fun z => ?_, hDb⟩ List.range_succ
          · rw [z, sa _ _ o7] at nHa; cases nHa
          · rw [z] at nHa; exact hDn nHa
    · have cA := sa _ _ c7
      refine ⟨_, rfl, c, C, dx, _, rfl, cA, T.cl, T.nI, (by show 4 < 1000; decide), ?_⟩
      generalize e10 : (upd Ha c (.ins C dx (putF "inner" (.ref D2) (putF "order" (.ref ao) (putF "reasons" (.ref ar) (putF "number" (.ref D1) (putF "words" (.ref aw) []))))))) = H8
      have k8 : Kp c c Ha H8 := by subst e10; exact kp_upd1
      have t8 : Tt Ha H8 := by subst e10; exact Tt.upd cA trivial
      have c8 : H8 c = some (.ins C dx (cfl ⟨c, dx, aw, D1, ar, ao, D2⟩)) := by subst e10; exact upd_same
      have nD2c : D2 ≠ c := (ne_of_none c7 nD2).symm
      have ca8 : CA K w C V_ ⟨c, dx, aw, D1, ar, ao, D2⟩ H8 [] := by
        refine ⟨c8, ⟨ws, k8 _ _ (sa _ _ w7) naw naw, DpAll.ts t8.ts _ _ (flats_tDs _) (DpAll.same sa _ _ dw7)⟩, ⟨kvs, k8 _ _ (sa _ _ n7) nc1.symm nc1.symm, (na7.ts (TS.same sa)).ts t8.ts, numOk⟩, ⟨iv, k8 _ _ hDa nD2c nD2c, ?_, ?_⟩, ⟨nwo, (ne_of_none o7 nD2).symm⟩, ⟨[], k8 _ _ (sa _ _ r7) nrc nrc, .nil⟩, ⟨[], k8 _ _ (sa _ _ o7) noc noc, .nil⟩⟩
        · rw [PySem.Paired.length hia, List.length_range, lw]
        · intro j v hv
          obtain ⟨j', ej, qi, h1, h2, h3, h4⟩ := L2.paired_get hia hv
          have : j' = j := by
            have hj := (List.getElem?_eq_some_iff.mp ej).1
            rw [List.length_range] at hj
            have hjl : j < ws.length := by
              have := (List.getElem?_eq_some_iff.mp hv).1
              rw [PySem.Paired.length hia, List.length_range] at this
              exact this
            rw [List.getElem?_range hjl] at ej
            exact (Option.some.inj ej).symm
          subst this
          have nqc : qi ≠ c := fun z => by rw [z, cA] at h4; cases h4
          exact ⟨qi, h1, h2, k8 _ _ h4 nqc nqc⟩
      have k08 : Kp c c H H8 := k1.trans (k17.trans ((Kp.same sa).trans k8))
      have t08 : Tt H H8 := t1.trans ((Tt.same s2).trans (t27.trans ((Tt.same sa).trans t8)))
      have hS8 : SqL K H8 a us := by
        rcases hS with (h | ⟨o, h⟩) | h
        · exact .inl (.inl (k08 _ _ h (fun z => by rw [z, hc] at h; cases h) (fun z => by rw [z, hc] at h; cases h)))
        · exact .inl (.inr ⟨o, k08 _ _ h (fun z => by rw [z, hc] at h; cases h) (fun z => by rw [z, hc] at h; cases h)⟩)
        · exact .inr h
      have k02 : Kp c c H H5 := k1.trans ((Kp.same s2).trans (k3.trans ((Kp.same s4).trans k5)))
      have off : ∀ b o, H b = some o → b ≠ c → b ≠ ar ∧ b ≠ ao := fun b o hb nb => by
        have b5 : H5 b = some o := k02 _ _ hb nb nb
        have b3 : H3 b = some o := k3 _ _ (s2 _ _ (k1 _ _ hb nb nb)) nb nb
        exact ⟨ne_of_none b3 nar, ne_of_none b5 nao⟩
      have hst : ∀ H', Kp ar ao H8 H' → SqL K H' a us := fun H' k => by
        rcases hS with (h | ⟨o, h⟩) | h
        · have nc : a ≠ c := fun z => by rw [z, hc] at h; cases h
          exact .inl (.inl (k _ _ (k08 _ _ h nc nc) (off _ _ h nc).1 (off _ _ h nc).2))
        · have nc : a ≠ c := fun z => by rw [z, hc] at h; cases h
          exact .inl (.inr ⟨o, k _ _ (k08 _ _ h nc nc) (off _ _ h nc).1 (off _ _ h nc).2⟩)
        · exact .inr h
      refine ⟨_, rfl, c, dx, _, rfl, c8, (by rfl), _, rfl, V_, rs, ⟨c, dx, aw, D1, ar, ao, D2⟩, a, us, rfl, ca8, hst, DpAll.ts t08.ts _ _ (flats_map flat_rlD _) ha, O, fun H9 k9 ca9 => ?_⟩
      refine ⟨_, rfl, c, dx, _, rfl, ca9.ob, (by rfl), V_, rs, ⟨c, dx, aw, D1, ar, ao, D2⟩, rfl, ca9, O, fun H10 k10 ca10 => ?_⟩
      refine q ⟨c, dx, aw, D1, ar, ao, D2⟩ H10 rfl (fun b o hb nb => ?_) ca10
      have b5 : H5 b = some o := k02 _ _ hb nb nb
      have b8 : H8 b = some o := k08 _ _ hb nb nb
      have nbo : b ≠ ao := ne_of_none b5 nao
      have nbr : b ≠ ar := by
        have b3 : H3 b = some o := k3 _ _ (s2 _ _ (k1 _ _ hb nb nb)) nb nb
        exact ne_of_none b3 nar
      exact k10 _ _ (k9 _ _ b8 nbr nbo) nbr nbo
end
end FD
end T_D9

section T_D10
set_option Elab.async false
set_option linter.all false
set_option maxRecDepth 100000
/-! The walk: needed_before, moved. -/
namespace FD
open PySem L2 FF FW
def kindS : Rsn → Str
  | .same => "same"
  | .part => "part"
  | .rule _ => "rule"
  | .chain _ _ => "chain"
  | .into _ => "into"
  | .out _ => "out"
theorem ne_sc : ¬ ("same" : Str) = "chain" := by decide +kernel
theorem ne_pc : ¬ ("part" : Str) = "chain" := by decide +kernel
theorem ne_rc : ¬ ("rule" : Str) = "chain" := by decide +kernel
theorem ne_ic : ¬ ("into" : Str) = "chain" := by decide +kernel
theorem ne_oc : ¬ ("out" : Str) = "chain" := by decide +kernel
theorem ne_si : ¬ ("same" : Str) = "into" := by decide +kernel
theorem ne_pi : ¬ ("part" : Str) = "into" := by decide +kernel
theorem ne_ri : ¬ ("rule" : Str) = "into" := by decide +kernel
theorem ne_so : ¬ ("same" : Str) = "out" := by decide +kernel
theorem ne_po : ¬ ("part" : Str) = "out" := by decide +kernel
theorem ne_ro : ¬ ("rule" : Str) = "out" := by decide +kernel
def ioD : List PyData := [.str "into", .str "out"]
theorem io_flat : flats ioD = true := by simp [ioD, flats, flat]
theorem io_yes {z : Str} (h : z = "into" ∨ z = "out") : (ioD.any fun y => PyData.eqv y (.str z)) = true := by
  refine any_yes io_flat (flat_str _) ?_
  rcases h with rfl | rfl
  · exact List.mem_cons_self
  · exact List.mem_cons_of_mem _ List.mem_cons_self
theorem io_no {z : Str} (h1 : ¬ z = "into") (h2 : ¬ z = "out") : (ioD.any fun y => PyData.eqv y (.str z)) = false := by
  refine any_no io_flat (flat_str _) fun hm => ?_
  simp only [ioD, List.mem_cons, List.not_mem_nil, or_false, PyData.str.injEq] at hm
  rcases hm with h | h
  · exact h1 h
  · exact h2 h
theorem io_dp {K : PySem.W.Frag} {H : Hp} {p : Addr} : Dp K (L2.upd H p (.tup [.str "into", .str "out"])) (.ref p) (.tuple ioD) := .tup (SqT.of upd_same) (.cons (.str _) (.cons (.str _) .nil))
/-- the head of a reason -/
theorem RT.head {H : Hp} {v : V} {r : Rsn} (h : RT H v r) : ∃ q xs, v = .ref q ∧ H q = some (.tup (.str (kindS r) :: xs)) := by
  cases r with
  | same => obtain ⟨q, e, m⟩ := h; exact ⟨q, _, e, m⟩
  | part => obtain ⟨q, e, m⟩ := h; exact ⟨q, _, e, m⟩
  | rule nm => obtain ⟨q, e, m⟩ := h; exact ⟨q, _, e, m⟩
  | chain a b => obtain ⟨q, x, y, e, m, _⟩ := h; exact ⟨q, _, e, m⟩
  | into ps => obtain ⟨q, q2, xs, e, m, _⟩ := h; exact ⟨q, _, e, m⟩
  | out ps => obtain ⟨q, q2, xs, e, m, _⟩ := h; exact ⟨q, _, e, m⟩
theorem ofListI {l : List Nat} {K : PySem.W.Frag} {H : Hp} : DpAll K H (l.map fun n => V.int (n : Nat)) (l.map fun n => PyData.int (n : Nat)) := by
  induction l with
  | nil => exact .nil
  | cons a l ih => exact .cons (.int _) ih
/-- the data of a moved reason -/
def rsnD : RsnI → PyData
  | .same => .tuple [.str "same"]
  | .part => .tuple [.str "part"]
  | .rule nm => .tuple [.str "rule", .str (strC nm)]
  | .chain i j => .tuple [.str "chain", .int (i : Nat), .int (j : Nat)]
  | .into is => .tuple [.str "into", .tuple (is.map fun n => .int (n : Nat))]
  | .out is => .tuple [.str "out", .tuple (is.map fun n => .int (n : Nat))]
theorem flats_nat (is : List Nat) : flats (is.map fun n => PyData.int (n : Nat)) = true := flats_map (fun n => flat_int _) is
theorem flat_rsnD (r : RsnI) : flat (rsnD r) = true := by
  cases r <;> simp [rsnD, flat, flats, flats_nat]
section
variable {P : Program} {w : World} {K : PySem.W.Frag} {mg : Str → Option Value} {base : Heap} {C : Addr}
/-! ### needed_before -/
def spNeeded (K : PySem.W.Frag) : Sp := fun vs H Q _ => ∃ (v : V) (r : Rsn), vs = [v] ∧ RT H v r ∧ ∀ l xs H', Same H H' → H l = none → H' l = some (.lst xs) → Paired (PT H') xs (refs r) → Q (.ref l) H'
theorem sc33 : FnScope ["reason"] ["reason"] (defScope (topS 33)) := ⟨rfl, rfl, rfl, by decide +kernel, rfl, by decide +kernel, by decide +kernel⟩
theorem ok_needed (D : Df K mg "needed_before" (topS 33) ["reason"]) (B : Bi mg) : Fn P w K mg base 1 "needed_before" ["reason"] (spNeeded K) := by
  refine D.ok sc33 (fun vs H Q E h => ?_) (fun f cdv A outer s H vs Q E hr h => ?_)
  · obtain ⟨v, r, rfl, _⟩ := h
    rfl
  obtain ⟨v, r, rfl, hv, q⟩ := h
  have hu := hr.units
  refine ⟨_, pss_cons (ps_if (pt_cmpR op_eq (pe_ix ix_tup (pv 0) pe_int (fun _ _ => rfl)) pe_str (nomark _)) (pss_one (ps_ret (pe_callTy call_list_of (by rfl) B.lst b_lst (pa_cons (pe_slice sl_tup (pv 0) (po_some pe_int) po_none) pa_nil)))) pss_nil)
    (pss_one (ps_ret (pe_ifExp (pt_cmpR (op_inP hu) (pe_ix ix_tup (pv 0) pe_int (fun _ _ => rfl)) (pe_tup (pa_cons pe_str (pa_cons pe_str pa_nil))) (by rfl))
      (pe_callTy call_list_of (by rfl) B.lst b_lst (pa_cons (pe_ix ix_tup (pv 0) pe_int (fun _ _ => rfl)) pa_nil)) (pe_lst pa_nil)))), ?_⟩
  cases r with
  | same =>
    obtain ⟨qv, rfl, m⟩ := hv
    refine ⟨_, rfl, qv, _, _, _, rfl, rfl, SqT.of m, atI_nat (j := 0) rfl, rfl, _, rfl, ?_⟩
    rw [decide_eq_false (show ¬ V.str "same" = V.str "chain" from fun z => ne_sc (V.str.inj z))]
    refine iteF ⟨_, rfl, qv, _, _, _, rfl, rfl, SqT.of m, atI_nat (j := 0) rfl, (by show 2 ≤ sizeLine; decide), fun p np => ⟨_, ioD, .str _, .inr io_dp, sh_str _, flats_plain _ io_flat, _, rfl, ?_⟩⟩
    rw [io_no ne_si ne_so]
    refine iteF ⟨(by show 0 ≤ sizeLine; decide), fun l nl => ?_⟩
    have s1 := same_upd (o := .tup [V.str "into", V.str "out"]) np
    exact q l [] _ (s1.trans (same_upd nl)) (s1.free nl) upd_same .nil
  | part =>
    obtain ⟨qv, rfl, m⟩ := hv
    refine ⟨_, rfl, qv, _, _, _, rfl, rfl, SqT.of m, atI_nat (j := 0) rfl, rfl, _, rfl, ?_⟩
    rw [decide_eq_false (show ¬ V.str "part" = V.str "chain" from fun z => ne_pc (V.str.inj z))]
    refine iteF ⟨_, rfl, qv, _, _, _, rfl, rfl, SqT.of m, atI_nat (j := 0) rfl, (by show 2 ≤ sizeLine; decide), fun p np => ⟨_, ioD, .str _, .inr io_dp, sh_str _, flats_plain _ io_flat, _, rfl, ?_⟩⟩
    rw [io_no ne_pi ne_po]
    refine iteF ⟨(by show 0 ≤ sizeLine; decide), fun l nl => ?_⟩
    have s1 := same_upd (o := .tup [V.str "into", V.str "out"]) np
    exact q l [] _ (s1.trans (same_upd nl)) (s1.free nl) upd_same .nil
  | rule nm =>
    obtain ⟨qv, rfl, m⟩ := hv
    refine ⟨_, rfl, qv, _, _, _, rfl, rfl, SqT.of m, atI_nat (j := 0) rfl, rfl, _, rfl, ?_⟩
    rw [decide_eq_false (show ¬ V.str "rule" = V.str "chain" from fun z => ne_rc (V.str.inj z))]
    refine iteF ⟨_, rfl, qv, _, _, _, rfl, rfl, SqT.of m, atI_nat (j := 0) rfl, (by show 2 ≤ sizeLine; decide), fun p np => ⟨_, ioD, .str _, .inr io_dp, sh_str _, flats_plain _ io_flat, _, rfl, ?_⟩⟩
    rw [io_no ne_ri ne_ro]
    refine iteF ⟨(by show 0 ≤ sizeLine; decide), fun l nl => ?_⟩
    have s1 := same_upd (o := .tup [V.str "into", V.str "out"]) np
    exact q l [] _ (s1.trans (same_upd nl)) (s1.free nl) upd_same .nil
  | chain a b =>
    obtain ⟨qv, x, y, rfl, m, h1, h2⟩ := hv
    refine ⟨_, rfl, qv, _, _, _, rfl, rfl, SqT.of m, atI_nat (j := 0) rfl, rfl, _, rfl, ?_⟩
    rw [decide_eq_true (rfl : V.str "chain" = V.str "chain")]
    refine iteT ⟨_, rfl, 1, rfl, qv, _, rfl, SqT.of m, tail_ne _ _, fun p np => ?_⟩
    rw [cut_tail]
    have s1 := same_upd (o := .tup [x, y]) np
    refine ⟨p, _, rfl, .inr (SqT.of upd_same), fun l nl => ?_⟩
    have s2 := s1.trans (same_upd (o := .lst [x, y]) nl)
    exact q l [x, y] _ s2 (s1.free nl) upd_same (.cons (h1.tt (Tt.same s2)) (.cons (h2.tt (Tt.same s2)) .nil))
  | into ps =>
    obtain ⟨qv, q2, xs, rfl, m, m2, hp⟩ := hv
    refine ⟨_, rfl, qv, _, _, _, rfl, rfl, SqT.of m, atI_nat (j := 0) rfl, rfl, _, rfl, ?_⟩
    rw [decide_eq_false (show ¬ V.str "into" = V.str "chain" from fun z => ne_ic (V.str.inj z))]
    refine iteF ⟨_, rfl, qv, _, _, _, rfl, rfl, SqT.of m, atI_nat (j := 0) rfl, (by show 2 ≤ sizeLine; decide), fun p np => ⟨_, ioD, .str _, .inr io_dp, sh_str _, flats_plain _ io_flat, _, rfl, ?_⟩⟩
    rw [io_yes (.inl rfl)]
    have s1 := same_upd (o := .tup [V.str "into", V.str "out"]) np
    refine iteT ⟨_, rfl, qv, _, _, _, rfl, rfl, SqT.of (s1 _ _ m), atI_nat (j := 1) rfl, q2, xs, rfl, .inr (SqT.of (s1 _ _ m2)), fun l nl => ?_⟩
    have s2 := s1.trans (same_upd (o := .lst xs) nl)
    exact q l xs _ s2 (s1.free nl) upd_same (PTs.tt hp (Tt.same s2))
  | out ps =>
    obtain ⟨qv, q2, xs, rfl, m, m2, hp⟩ := hv
    refine ⟨_, rfl, qv, _, _, _, rfl, rfl, SqT.of m, atI_nat (j := 0) rfl, rfl, _, rfl, ?_⟩
    rw [decide_eq_false (show ¬ V.str "out" = V.str "chain" from fun z => ne_oc (V.str.inj z))]
    refine iteF ⟨_, rfl, qv, _, _, _, rfl, rfl, SqT.of m, atI_nat (j := 0) rfl, (by show 2 ≤ sizeLine; decide), fun p np => ⟨_, ioD, .str _, .inr io_dp, sh_str _, flats_plain _ io_flat, _, rfl, ?_⟩⟩
    rw [io_yes (.inr rfl)]
    have s1 := same_upd (o := .tup [V.str "into", V.str "out"]) np
    refine iteT ⟨_, rfl, qv, _, _, _, rfl, rfl, SqT.of (s1 _ _ m), atI_nat (j := 1) rfl, q2, xs, rfl, .inr (SqT.of (s1 _ _ m2)), fun l nl => ?_⟩
    have s2 := s1.trans (same_upd (o := .lst xs) nl)
    exact q l xs _ s2 (s1.free nl) upd_same (PTs.tt hp (Tt.same s2))
/-! ### moved -/
def spMoved (K : PySem.W.Frag) : Sp := fun vs H Q _ => ∃ (v : V) (r : Rsn) (d : Addr) (kvs : List (List L2.Key × V)) (kp : List Pr), vs = [v, .ref d] ∧ RT H v r ∧ H d = some (.dT kvs) ∧ (∀ p ∈ refs r, valV kvs (pk p) = some (.int (kp.idxOf p : Nat))) ∧ (refs r).length ≤ 100 ∧
  ∀ v' H', Same H H' → Dp K H' v' (rsnD (moveR kp r)) → Q v' H'
abbrev n34 : List Str := ["reason", "place_of", "one"]
theorem sc34 : FnScope n34 ["reason", "place_of"] (defScope (topS 34)) := ⟨rfl, rfl, rfl, by decide +kernel, rfl, by decide +kernel, by decide +kernel⟩
theorem ok_moved (D : Df K mg "moved" (topS 34) ["reason", "place_of"]) (B : Bi mg) : Fn P w K mg base 1 "moved" ["reason", "place_of"] (spMoved K) := by
  refine D.ok sc34 (fun vs H Q E h => ?_) (fun f cdv A outer s H vs Q E hr h => ?_)
  · obtain ⟨v, r, d, kvs, kp, rfl, _⟩ := h
    rfl
  obtain ⟨v, r, d, kvs, kp, rfl, hv, hd, hk, hl, q⟩ := h
  have hu := hr.units
  have hu1 := hu_of hr
  refine ⟨_, pss_cons (ps_if (pt_cmpR op_eq (pe_ix ix_tup (pv 0) pe_int (fun _ _ => rfl)) pe_str (nomark _)) (pss_one (ps_ret (pe_tup (pa_cons pe_str (pa_cons (pe_dget hu1 (pv 1) (pe_ix ix_tup (pv 0) pe_int (fun _ _ => rfl)) (fun _ _ => rfl)) (pa_cons (pe_dget hu1 (pv 1) (pe_ix ix_tup (pv 0) pe_int (fun _ _ => rfl)) (fun _ _ => rfl)) pa_nil)))))) pss_nil)
    (pss_cons (ps_if (pt_cmpR (op_inP hu) (pe_ix ix_tup (pv 0) pe_int (fun _ _ => rfl)) (pe_tup (pa_cons pe_str (pa_cons pe_str pa_nil))) (by rfl))
      (pss_one (ps_ret (pe_tup (pa_cons (pe_ix ix_tup (pv 0) pe_int (fun _ _ => rfl)) (pa_cons (pe_callTy call_tuple_of (by rfl) B.tup b_tup (pa_cons
        (pe_lc (own := [("one", 2)]) (g := gName 2) (tt := tYes) (by rfl) sc34.nd (pi_tup (pe_ix ix_tup (pv 0) pe_int (fun _ _ => rfl))) (blkOk_by (own := [("one", 2)]) (N := n34) (sc := defScope (topS 34)) (by decide +kernel))
          (fun _ _ _ _ _ => pg_name (i := 2) sc34.nd rfl (Or.inl rfl)) (fun _ _ _ _ _ => pts_nil) (fun _ _ _ _ _ => pe_dget hu1 (pv 1) (pv 2) (fun _ _ => rfl))) pa_nil)) pa_nil))))) pss_nil)
    (pss_one (ps_ret (pv 0)))), ?_⟩
  cases r with
  | same =>
    obtain ⟨qv, rfl, m⟩ := hv
    refine ⟨_, rfl, qv, _, _, _, rfl, rfl, SqT.of m, atI_nat (j := 0) rfl, rfl, _, rfl, ?_⟩
    rw [decide_eq_false (show ¬ V.str "same" = V.str "chain" from fun z => ne_sc (V.str.inj z))]
    refine iteF ⟨_, rfl, qv, _, _, _, rfl, rfl, SqT.of m, atI_nat (j := 0) rfl, (by show 2 ≤ sizeLine; decide), fun p np => ⟨_, ioD, .str _, .inr io_dp, sh_str _, flats_plain _ io_flat, _, rfl, ?_⟩⟩
    rw [io_no ne_si ne_so]
    have s1 := same_upd (o := .tup [V.str "into", V.str "out"]) np
    exact iteF ⟨_, rfl, q _ _ s1 (.tup (SqT.of (s1 _ _ m)) (.cons (.str _) .nil))⟩
  | part =>
    obtain ⟨qv, rfl, m⟩ := hv
    refine ⟨_, rfl, qv, _, _, _, rfl, rfl, SqT.of m, atI_nat (j := 0) rfl, rfl, _, rfl, ?_⟩
    rw [decide_eq_false (show ¬ V.str "part" = V.str "chain" from fun z => ne_pc (V.str.inj z))]
    refine iteF ⟨_, rfl, qv, _, _, _, rfl, rfl, SqT.of m, atI_nat (j := 0) rfl, (by show 2 ≤ sizeLine; decide), fun p np => ⟨_, ioD, .str _, .inr io_dp, sh_str _, flats_plain _ io_flat, _, rfl, ?_⟩⟩
    rw [io_no ne_pi ne_po]
    have s1 := same_upd (o := .tup [V.str "into", V.str "out"]) np
    exact iteF ⟨_, rfl, q _ _ s1 (.tup (SqT.of (s1 _ _ m)) (.cons (.str _) .nil))⟩
  | rule nm =>
    obtain ⟨qv, rfl, m⟩ := hv
    refine ⟨_, rfl, qv, _, _, _, rfl, rfl, SqT.of m, atI_nat (j := 0) rfl, rfl, _, rfl, ?_⟩
    rw [decide_eq_false (show ¬ V.str "rule" = V.str "chain" from fun z => ne_rc (V.str.inj z))]
    refine iteF ⟨_, rfl, qv, _, _, _, rfl, rfl, SqT.of m, atI_nat (j := 0) rfl, (by show 2 ≤ sizeLine; decide), fun p np => ⟨_, ioD, .str _, .inr io_dp, sh_str _, flats_plain _ io_flat, _, rfl, ?_⟩⟩
    rw [io_no ne_ri ne_ro]
    have s1 := same_upd (o := .tup [V.str "into", V.str "out"]) np
    exact iteF ⟨_, rfl, q _ _ s1 (.tup (SqT.of (s1 _ _ m)) (.cons (.str _) (.cons (.str _) .nil)))⟩
  | chain a b =>
    obtain ⟨qv, x, y, rfl, m, h1, h2⟩ := hv
    refine ⟨_, rfl, qv, _, _, _, rfl, rfl, SqT.of m, atI_nat (j := 0) rfl, rfl, _, rfl, ?_⟩
    rw [decide_eq_true (rfl : V.str "chain" = V.str "chain")]
    obtain ⟨qa, rfl, ea⟩ := h1
    obtain ⟨qb, rfl, eb⟩ := h2
    have ga := DGet.t (k := pk a) hd ea
    have gb := DGet.t (k := pk b) hd eb
    rw [hk a List.mem_cons_self] at ga
    rw [hk b (List.mem_cons_of_mem _ List.mem_cons_self)] at gb
    refine iteT ⟨_, rfl, _, rfl, qv, _, _, _, rfl, rfl, SqT.of m, atI_nat (j := 1) rfl, d, _, rfl, ga, _, rfl, _, rfl, qv, _, _, _, rfl, rfl, SqT.of m, atI_nat (j := 2) rfl, d, _, rfl, gb, (by show 3 ≤ sizeLine; decide), fun p np => ?_⟩
    exact q _ _ (same_upd np) (.tup (SqT.of upd_same) (.cons (.str _) (.cons (.int _) (.cons (.int _) .nil))))
  | into ps =>
    obtain ⟨qv, q2, xs, rfl, m, m2, hp⟩ := hv
    refine ⟨_, rfl, qv, _, _, _, rfl, rfl, SqT.of m, atI_nat (j := 0) rfl, rfl, _, rfl, ?_⟩
    rw [decide_eq_false (show ¬ V.str "into" = V.str "chain" from fun z => ne_ic (V.str.inj z))]
    refine iteF ⟨_, rfl, qv, _, _, _, rfl, rfl, SqT.of m, atI_nat (j := 0) rfl, (by show 2 ≤ sizeLine; decide), fun p np => ⟨_, ioD, .str _, .inr io_dp, sh_str _, flats_plain _ io_flat, _, rfl, ?_⟩⟩
    rw [io_yes (.inl rfl)]
    have s1 := same_upd (o := .tup [V.str "into", V.str "out"]) np
    refine iteT ⟨_, rfl, qv, _, _, _, rfl, rfl, SqT.of (s1 _ _ m), atI_nat (j := 0) rfl, _, rfl, qv, _, _, _, rfl, rfl, SqT.of (s1 _ _ m), atI_nat (j := 1) rfl, q2, rfl, ⟨_, SqT.of (s1 _ _ m2)⟩, fun Dl nD => ?_⟩
    have lx : xs.length = ps.length := PySem.Paired.length hp
    refine lcB nD (src_tup (SqT.of (s1 _ _ m2))) (fun i => (ps.take i).map fun p => V.int (kp.idxOf p : Nat)) rfl (fun i _ => small1000 (by rw [List.length_map, List.length_take]; have := hl; simp only [refs] at this; omega)) (fun i x H2 F G hi s2 _ hx kF kG => ?_) (fun H2 s2 hD => ?_)
    · obtain ⟨pp, ep, hpp⟩ := L2.paired_get hp hx
      obtain ⟨t, rfl, et⟩ := hpp.tt (Tt.same (s1.trans s2))
      have g := DGet.t (k := pk pp) ((s1.trans s2) _ _ hd) et
      rw [hk pp (List.mem_of_getElem? ep)] at g
      exact ⟨rfl, _, rfl, _, rfl, d, _, rfl, g, kF _ _ (Same.refl _) (take_map_snoc (fun p => V.int (kp.idxOf p : Nat)) ep)⟩
    · rw [lx, List.take_length] at hD
      refine ⟨Dl, _, rfl, .inl ⟨SqL.of hD, fun l nl => ?_⟩⟩
      have s3 := same_upd (o := .tup (ps.map fun p => V.int (kp.idxOf p : Nat))) nl
      refine ⟨(by show 2 ≤ sizeLine; decide), fun p9 np9 => ?_⟩
      have s4 := same_upd (o := .tup [V.str "into", .ref l]) np9
      refine q _ _ (((s1.trans s2).trans s3).trans s4) (.tup (SqT.of upd_same) (.cons (.str _) (.cons (.tup (SqT.of (s4 _ _ upd_same)) ?_) .nil)))
      have := ofListI (K := K) (H := L2.upd (L2.upd H2 l (.tup (ps.map fun p => V.int (kp.idxOf p : Nat)))) p9 (.tup [V.str "into", .ref l])) (l := ps.map fun p => kp.idxOf p)
      rw [List.map_map] at this
      exact this
  | out ps =>
    obtain ⟨qv, q2, xs, rfl, m, m2, hp⟩ := hv
    refine ⟨_, rfl, qv, _, _, _, rfl, rfl, SqT.of m, atI_nat (j := 0) rfl, rfl, _, rfl, ?_⟩
    rw [decide_eq_false (show ¬ V.str "out" = V.str "chain" from fun z => ne_oc (V.str.inj z))]
    refine iteF ⟨_, rfl, qv, _, _, _, rfl, rfl, SqT.of m, atI_nat (j := 0) rfl, (by show 2 ≤ sizeLine; decide), fun p np => ⟨_, ioD, .str _, .inr io_dp, sh_str _, flats_plain _ io_flat, _, rfl, ?_⟩⟩
    rw [io_yes (.inr rfl)]
    have s1 := same_upd (o := .tup [V.str "into", V.str "out"]) np
    refine iteT ⟨_, rfl, qv, _, _, _, rfl, rfl, SqT.of (s1 _ _ m), atI_nat (j := 0) rfl, _, rfl, qv, _, _, _, rfl, rfl, SqT.of (s1 _ _ m), atI_nat (j := 1) rfl, q2, rfl, ⟨_, SqT.of (s1 _ _ m2)⟩, fun Dl nD => ?_⟩
    have lx : xs.length = ps.length := PySem.Paired.length hp
    refine lcB nD (src_tup (SqT.of (s1 _ _ m2))) (fun i => (ps.take i).map fun p => V.int (kp.idxOf p : Nat)) rfl (fun i _ => small1000 (by rw [List.length_map, List.length_take]; have := hl; simp only [refs] at this; omega)) (fun i x H2 F G hi s2 _ hx kF kG => ?_) (fun H2 s2 hD => ?_)
    · obtain ⟨pp, ep, hpp⟩ := L2.paired_get hp hx
      obtain ⟨t, rfl, et⟩ := hpp.tt (Tt.same (s1.trans s2))
      have g := DGet.t (k := pk pp) ((s1.trans s2) _ _ hd) et
      rw [hk pp (List.mem_of_getElem? ep)] at g
      exact ⟨rfl, _, rfl, _, rfl, d, _, rfl, g, kF _ _ (Same.refl _) (take_map_snoc (fun p => V.int (kp.idxOf p : Nat)) ep)⟩
    · rw [lx, List.take_length] at hD
      refine ⟨Dl, _, rfl, .inl ⟨SqL.of hD, fun l nl => ?_⟩⟩
      have s3 := same_upd (o := .tup (ps.map fun p => V.int (kp.idxOf p : Nat))) nl
      refine ⟨(by show 2 ≤ sizeLine; decide), fun p9 np9 => ?_⟩
      have s4 := same_upd (o := .tup [V.str "out", .ref l]) np9
      refine q _ _ (((s1.trans s2).trans s3).trans s4) (.tup (SqT.of upd_same) (.cons (.str _) (.cons (.tup (SqT.of (s4 _ _ upd_same)) ?_) .nil)))
      have := ofListI (K := K) (H := L2.upd (L2.upd H2 l (.tup (ps.map fun p => V.int (kp.idxOf p : Nat)))) p9 (.tup [V.str "out", .ref l])) (l := ps.map fun p => kp.idxOf p)
      rw [List.map_map] at this
      exact this
end
end FD
end T_D10

section T_D11
set_option Elab.async false
set_option linter.all false
set_option maxRecDepth 100000
/-! The walk: steps_for. -/
namespace FD
open PySem L2 FF FW
theorem PT.dp {K : PySem.W.Frag} {H : Hp} {v : V} {p : Pr} (h : PT H v p) : Dp K H v (prN p) := by
  obtain ⟨q, rfl, e⟩ := h
  exact .tup (SqT.of e) (.cons (.int _) (.cons (.int _) .nil))
theorem PTs.dp {K : PySem.W.Frag} {H : Hp} {vs : List V} {ps : List Pr} (h : Paired (PT H) vs ps) : DpAll K H vs (ps.map prN) := by
  induction h with
  | nil => exact .nil
  | cons a t ih => exact .cons a.dp ih
theorem flat_prN (p : Pr) : flat (prN p) = true := by simp [prN, flat, flats]
theorem sh_prNs (ps : List Pr) : Sh (.list (ps.map prN)) := by
  refine sh_list (flats_map flat_prN ps) (Nat.le_trans (depthAll_le (n := 2) fun d hd => ?_) (by decide))
  obtain ⟨p, _, rfl⟩ := List.mem_map.mp hd
  simp [prN, PyData.depth, PyData.depthAll]
theorem sh_nil : Sh (.list []) := sh_list rfl (by simp [PyData.depthAll])
theorem eqv_nil (ds : List PyData) : PyData.eqv (.list ds) (.list []) = ds.isEmpty := by cases ds <;> simp [PyData.eqv, PyData.eqvAll]
/-- the keys of a dict of pairs -/
theorem keys_some {kvs : List (List L2.Key × V)} {nd : List Pr} (h : kvs.map (·.1) = nd.map pk) (p : Pr) : (valV kvs (pk p)).isSome = decide (p ∈ nd) := by
  rw [← valV_any]
  by_cases m : p ∈ nd
  · rw [decide_eq_true m]
    have : pk p ∈ kvs.map (·.1) := by rw [h]; exact List.mem_map.mpr ⟨p, m, rfl⟩
    obtain ⟨x, hx, e⟩ := List.mem_map.mp this
    exact List.any_eq_true.mpr ⟨x, hx, decide_eq_true e⟩
  · rw [decide_eq_false m, Bool.eq_false_iff]
    intro z
    obtain ⟨x, hx, e⟩ := List.any_eq_true.mp z
    have e : x.1 = pk p := of_decide_eq_true e
    have : pk p ∈ nd.map pk := by rw [← h, ← e]; exact List.mem_map.mpr ⟨x, hx, rfl⟩
    obtain ⟨q, hq, e2⟩ := List.mem_map.mp this
    have := pk_inj e2
    subst this
    exact m hq
/-- what the search has found so far -/
structure SI (s : CSt) (g : Pr) (cur : Option Pr) (nd wt : List Pr) : Prop where
  no : nd.Nodup
  gl : g ∈ nd
  rc : ∀ p ∈ nd, Reach s g p
  sub : ∀ p ∈ wt, p ∈ nd
  ln : wt.length ≤ nd.length
  cl : ∀ p ∈ nd, p ∈ wt ∨ some p = cur ∨ ∀ r, rsnOf s p = some r → ∀ q ∈ refs r, q ∈ nd
theorem SI.len {W : Wd} {s : CSt} {g : Pr} {cur : Option Pr} {nd wt : List Pr} (G : Good W s) (hg : g ∈ keys s) (h : SI s g cur nd wt) : nd.length ≤ s.length := by
  rw [← keys_len]
  exact nodup_le h.no fun p hp => G.reach_mem hg (h.rc p hp)
theorem SI.end {s : CSt} {g : Pr} {nd : List Pr} (h : SI s g none nd []) (p : Pr) : p ∈ nd ↔ Reach s g p := by
  refine ⟨h.rc p, fun r => ?_⟩
  induction r with
  | refl => exact h.gl
  | step h1 h2 h3 ih =>
    rcases h.cl _ ih with z | z | z
    · simp at z
    · cases z
    · exact z _ h2 _ h3
theorem kept_keys {s : CSt} {g : Pr} {nd : List Pr} (h : ∀ p, p ∈ nd ↔ Reach s g p) : (keys s).filter (fun p => decide (p ∈ nd)) = keys (kept s g) := by
  unfold keys kept
  rw [List.filter_map]
  refine congrArg _ (List.filter_congr fun e _ => ?_)
  simp only [Function.comp_apply]
  by_cases m : e.1 ∈ nd
  · rw [decide_eq_true m, keptP_iff.mpr ((h _).mp m)]
  · rw [decide_eq_false m]
    cases q : keptP s g e with
    | false => rfl
    | true => exact absurd ((h _).mpr (keptP_iff.mp q)) m
theorem filter_snoc {α : Type} {f : α → Bool} {l : List α} {i : Nat} {x : α} (h : l[i]? = some x) : (l.take (i + 1)).filter f = if f x = true then (l.take i).filter f ++ [x] else (l.take i).filter f := by
  rw [take_snoc h, List.filter_append]
  by_cases c : f x = true
  · rw [if_pos c, List.filter_cons_of_pos c]; rfl
  · rw [if_neg c, List.filter_cons_of_neg c]; simp
theorem valV_mem {kvs : List (List L2.Key × V)} (nd : (kvs.map (·.1)).Nodup) {y : List L2.Key × V} (h : y ∈ kvs) : valV kvs y.1 = some y.2 := by
  induction kvs with
  | nil => simp at h
  | cons x xs ih =>
    simp only [List.map_cons, List.nodup_cons] at nd
    rcases List.mem_cons.mp h with rfl | h
    · exact valV_pos rfl
    · have ne : ¬ x.1 = y.1 := fun e => nd.1 (by rw [e]; exact List.mem_map.mpr ⟨y, h, rfl⟩)
      rw [valV_neg ne]; exact ih nd.2 h
theorem paired_last {α β : Type} {F : α → β → Prop} {l : List α} {m : List β} {b : β} (h : Paired F l (m ++ [b])) : ∃ l' a, l = l' ++ [a] ∧ Paired F l' m ∧ F a b := by
  induction m generalizing l with
  | nil =>
    cases h with
    | cons h t => cases t; exact ⟨[], _, rfl, .nil, h⟩
  | cons x m ih =>
    cases h with
    | cons h t =>
      obtain ⟨l', a, rfl, h1, h2⟩ := ih t
      exact ⟨_ :: l', a, rfl, .cons h h1, h2⟩
theorem refs_len {V_ : List Tm} {rs : List Rl} (O : WOk V_ rs) {p : Pr} {r : Rsn} (rg : p.1 < (wdOf V_ rs).n ∧ p.2 < (wdOf V_ rs).n) (h : Fits (wdOf V_ rs) p r) : (refs r).length ≤ 100 := by
  cases r with
  | same => simp [refs]
  | part => simp [refs]
  | rule nm => simp [refs]
  | chain a b => simp [refs]
  | into ps =>
    obtain ⟨_, rfl⟩ := h
    have := O.inl p.2 rg.2
    simp only [refs, List.length_map]; omega
  | out ps =>
    obtain ⟨_, rfl⟩ := h
    have := O.inl p.1 rg.1
    simp only [refs, List.length_map]; omega
def stpD (x : Stp) : PyData := .tuple [tD x.l, tD x.r, rsnD x.w]
theorem flat_stpD (x : Stp) : flat (stpD x) = true := by simp [stpD, flat, flats, flat_tD, flat_rsnD]
def lenT : Option HO → Nat
  | some (.dT kvs) => kvs.length
  | _ => 0
def lenL : Option HO → Nat
  | some (.lst xs) => xs.length
  | _ => 0
section
variable {P : Program} {w : World} {K : PySem.W.Frag} {mg : Str → Option Value} {base : Heap} {C : Addr}
def spSteps (K : PySem.W.Frag) (w : World) (C : Addr) : Sp := fun vs H Q _ => ∃ (V_ : List Tm) (rs : List Rl) (A : Ad) (s : CSt) (x : V) (g : Pr), vs = [.ref A.c, x] ∧ CA K w C V_ A H s ∧ WOk V_ rs ∧ Good (wdOf V_ rs) s ∧ PT H x g ∧ g ∈ keys s ∧
  ∀ r ws H', Same H H' → H r = none → H' r = some (.lst ws) → DpAll K H' ws ((stepsM V_ s g).map stpD) → Q (.ref r) H'
abbrev n35 : List Str := ["closure", "pair", "needed", "waiting", "one", "kept", "place_of", "words", "at"]
theorem sc35 : FnScope n35 ["closure", "pair"] (defScope (topS 35)) := ⟨rfl, rfl, rfl, by decide +kernel, rfl, by decide +kernel, by decide +kernel⟩
theorem ok_steps (D : Df K mg "steps_for" (topS 35) ["closure", "pair"]) (B : Bi mg) (T : Tx K mg C) (FB : Fn P w K mg base 1 "needed_before" ["reason"] (spNeeded K)) (FM : Fn P w K mg base 1 "moved" ["reason", "place_of"] (spMoved K)) : Fn P w K mg base 2 "steps_for" ["closure", "pair"] (spSteps K w C) := by
  refine D.ok sc35 (fun vs H Q E h => ?_) (fun f cdv A outer s H vs Q E hr h => ?_)
  · obtain ⟨V_, rs, A, s, x, g, rfl, _⟩ := h
    rfl
  obtain ⟨V_, rs, A, st, xg, g, rfl, ca, O, G, hg, gin, q⟩ := h
  have hu := hr.units
  have hu1 := hu_of hr
  refine ⟨_, pss_cons (ps_set (i := 2) sc35.nd rfl (.inr rfl) (pe_dispT hu1 (pv 1) pe_bl))
    (pss_cons (ps_set (i := 3) sc35.nd rfl (.inl rfl) (pe_lst (pa_cons (pv 1) pa_nil)))
    (pss_cons (ps_while PassesOwn.never (pt_cmpR (op_neP hu) (pv 3) (pe_lst pa_nil) (nomark _))
      (pss_one (ps_for PassesOwn.never rfl (pi_list (pe_fn FB hr (by rfl) (pa_cons (pe_dget hu1 (pe_fld (pv 0) rfl) (pe_bm0 PySem.F.plainAttrs_list PySem.F.slot_list_pop PySem.F.type_list_pop mt_pop (pv 3)) (fun _ _ => rfl)) pa_nil))) (pg_name (i := 4) sc35.nd rfl (.inl rfl))
        (pss_one (ps_if (pt_cmp (pc_dnotin hu1 (pv 4) (pv 2))) (pss_cons (ps_dput hu1 (pv 2) (pv 4) pe_bl rfl)
          (pss_one (ps_expr (pe_bm PySem.F.plainAttrs_list PySem.F.slot_list_append PySem.F.type_list_append mt_append (pv 3) (pa_cons (pv 4) pa_nil))))) pss_nil)))))
    (pss_cons (ps_setLc (i := 5) (own := [("one", 4)]) (g := gName 4) (by rfl) sc35.nd rfl rfl (sw_true rfl rfl rfl (by decide +kernel)) (pi_list (pe_fld (pv 0) rfl)) (blkOk_by (own := [("one", 4)]) (N := n35) (sc := defScope (topS 35)) (by decide +kernel))
        (fun _ _ _ _ _ => pg_name (i := 4) sc35.nd rfl (Or.inl rfl)) (fun _ _ _ _ _ => pts_one (pt_cmp (pc_din hu1 (pv 4) (pv 2)))) (fun _ _ _ _ _ => pv 4))
    (pss_cons (ps_set (i := 6) sc35.nd rfl (.inr rfl) (pe_dcG (o0 := fun D => .dT []) (st := stT) (own := [("at", 8), ("one", 4)]) (tt := tYes) (fun H h hb => empty_T H h hb) (stT_ok hu) (by rfl) sc35.nd (pi_enum (by rfl) B.enum (pa_cons (pv 5) pa_nil)) (blkOk_by (own := [("at", 8), ("one", 4)]) (N := n35) (sc := defScope (topS 35)) (by decide +kernel))
        (fun _ _ _ _ _ => pg_tupK K 2 rfl (pgs_cons (pg_name (i := 8) sc35.nd rfl (.inl rfl)) (pgs_cons (pg_name (i := 4) sc35.nd rfl (.inl rfl)) pgs_nil))) (fun _ _ _ _ _ => pts_nil) (fun _ _ _ _ _ => pv 4) (fun _ _ _ _ _ => pv 8)))
    (pss_cons (ps_set (i := 7) sc35.nd rfl (.inr rfl) (pe_fld (pv 0) rfl))
    (pss_one (ps_ret (pe_lc (own := [("one", 4)]) (g := gName 4) (tt := tYes) (by rfl) sc35.nd (pi_list (pv 5)) (blkOk_by (own := [("one", 4)]) (N := n35) (sc := defScope (topS 35)) (by decide +kernel))
        (fun _ _ _ _ _ => pg_name (i := 4) sc35.nd rfl (Or.inl rfl)) (fun _ _ _ _ _ => pts_nil)
        (fun _ _ _ _ _ => pe_tup (pa_cons (pe_ix (ix_listK K) (pv 7) (pe_ix (ix_tupK K) (pv 4) pe_int (fun _ _ => rfl)) (fun _ _ => rfl)) (pa_cons (pe_ix (ix_listK K) (pv 7) (pe_ix (ix_tupK K) (pv 4) pe_int (fun _ _ => rfl)) (fun _ _ => rfl))
          (pa_cons (pe_fn FM hr (by rfl) (pa_cons (pe_dget hu1 (pe_fldK K (pv 0) rfl) (pv 4) (fun _ _ => rfl)) (pa_cons (pv 6) pa_nil))) pa_nil)))))))))))), ?_⟩
  obtain ⟨tg, rfl, etg⟩ := hg
  have lst := O.len G
  intro dn ndn
  have sA := same_upd (o := .dT []) ndn
  refine ⟨_, rfl, upd_same, pk g, tg, rfl, sA _ _ etg, ?_⟩
  generalize e1 : (upd (upd H dn (.dT [])) dn (.dT [(pk g, .bl true)])) = H1
  have s1 : Same H H1 := fun b o hb => by subst e1; rw [upd_ne (ne_of_none hb ndn)]; exact sA _ _ hb
  have d1 : H1 dn = some (.dT [(pk g, .bl true)]) := by subst e1; exact upd_same
  refine ⟨_, rfl, (by show 1 ≤ sizeLine; decide), fun wl nwl => ?_⟩
  have s2 := same_upd (o := .lst [.ref tg]) nwl
  have nwl0 : H wl = none := s1.free nwl
  have ndw : dn ≠ wl := ne_of_none d1 nwl
  refine while_by (fun σ H2 => ∃ (kvs : List (List L2.Key × V)) (ws : List V) (nd wt : List Pr) (x4 : Option V), σ = [some (.ref A.c), some (.ref tg), some (.ref dn), some (.ref wl), x4, none, none, none, none] ∧ Same H H2 ∧ H2 dn = some (.dT kvs) ∧ kvs.map (·.1) = nd.map pk ∧ H2 wl = some (.lst ws) ∧ Paired (PT H2) ws wt ∧ SI st g none nd wt)
    (fun _ H2 => 2 * (st.length - lenT (H2 dn)) + lenL (H2 wl))
    ⟨[(pk g, .bl true)], [.ref tg], [g], [g], none, rfl, s1.trans s2, s2 _ _ d1, rfl, upd_same, .cons ⟨tg, rfl, s2 _ _ (s1 _ _ etg)⟩ .nil,
      ⟨by simp, List.mem_cons_self, fun p hp => (List.mem_singleton.mp hp ▸ Reach.refl), fun p hp => hp, Nat.le_refl _, fun p hp => .inl hp⟩⟩ ?_ ?_
  · rintro σ H2 ⟨kvs, ws, nd, wt, x4, rfl, sH, hd, ek, hw, hp, si⟩
    have lk : kvs.length = nd.length := by have := congrArg List.length ek; simpa using this
    have lws : ws.length = wt.length := PySem.Paired.length hp
    refine ⟨_, rfl, (by show 0 ≤ sizeLine; decide), fun p np => ?_⟩
    have s3 := same_upd (o := .lst []) np
    refine ⟨_, _, Dp.same s3 _ _ (.lst (SqL.of hw) (PTs.dp hp)), .lst (SqL.of upd_same) .nil, sh_prNs wt, sh_nil, _, rfl, ?_⟩
    rw [eqv_nil]
    cases hwt : wt with
    | nil =>
      subst hwt
      refine iteF ?_
      -- nothing waits: the pairs needed are those that the goal reaches
      have sH3 := sH.trans s3
      have hd3 := s3 _ _ hd
      have ca3 := ca.same sH3
      obtain ⟨os, eo, ro⟩ := ca3.od
      have endk := kept_keys si.end
      refine ⟨_, rfl, A.c, C, A.dx, _, _, rfl, ca3.ob, T.cl, T.nO, cf_o A, A.ao, rfl, ⟨_, SqL.of eo⟩, fun D5 nD5 => ?_⟩
      have los : os.length = (keys st).length := PySem.Paired.length ro
      have lks := keys_len st
      refine lcR (R := fun H v (p : Pr) => PT H v p) nD5 (src_list (SqL.of eo)) (fun i => ((keys st).take i).filter fun p => decide (p ∈ nd)) rfl (fun i _ => small1000 (Nat.le_trans (List.length_filter_le _ _) (by rw [List.length_take]; omega))) (fun Ha Hb v p k hD x hx => ?_) (fun i x Ha F Gx hi sa _ hx kF kG => ?_) (fun H6 kv s6 hD6 hk6 => ?_)
      · obtain ⟨q', rfl, e'⟩ := hx
        exact ⟨q', rfl, k _ _ e' (fun z => by rw [z, hD] at e'; cases e')⟩
      · obtain ⟨pp, ep, hpp⟩ := L2.paired_get ro hx
        obtain ⟨tp, rfl, etp⟩ := hpp.tt (Tt.same sa)
        refine ⟨rfl, _, rfl, _, rfl, dn, _, rfl, DGet.t (k := pk pp) (sa _ _ hd3) etp, _, rfl, ?_⟩
        rw [keys_some ek]
        have fs := filter_snoc (f := fun p => decide (p ∈ nd)) ep
        by_cases m : pp ∈ nd
        · rw [decide_eq_true m]
          rw [if_pos (decide_eq_true m)] at fs
          exact iteT ⟨_, rfl, kF _ _ _ (Same.refl _) ⟨tp, rfl, etp⟩ fs⟩
        · rw [decide_eq_false m]
          rw [if_neg (by rw [decide_eq_false m]; decide)] at fs
          exact iteF (kG _ (Same.refl _) fs)
      · rw [los, List.take_length, endk] at hk6
        -- place_of
        have sH6 := sH3.trans s6
        have kpn : (keys (kept st g)).Nodup := kept_nodup G
        have lkv : kv.length = (keys (kept st g)).length := PySem.Paired.length hk6
        have lkl : (keys (kept st g)).length ≤ 1000 := by
          rw [keys_len]
          exact Nat.le_trans (List.length_filter_le _ _) lst
        refine ⟨_, rfl, D5, kv, rfl, SqL.of hD6, fun D7 nD7 => ?_⟩
        refine ⟨fun i m H7 => m = kv.length - i ∧ i ≤ kv.length ∧ Same H6 H7 ∧ ∃ rows, H7 D7 = some (.dT rows) ∧ rows.map (·.1) = ((keys (kept st g)).take i).map pk ∧ rows.map (·.2) = (List.range i).map (fun j => V.int (j : Nat)),
          ⟨kv.length, by simp, Nat.zero_le _, same_upd nD7, [], upd_same, rfl, rfl⟩, ?_⟩
        rintro i m H7 ⟨rfl, hi, s7, rows, hD, er, ev⟩
        by_cases hlt : i < kv.length
        · have sr := (srcE (i := i) (s7.seq (SqL.of (K := K) hD6))).1 hlt
          refine .inr ⟨sr.1, fun H' => kv.length - (i + 1) = kv.length - (i + 1) ∧ i + 1 ≤ kv.length ∧ Same H6 H' ∧ ∃ rows, H' D7 = some (.dT rows) ∧ rows.map (·.1) = ((keys (kept st g)).take (i + 1)).map pk ∧ rows.map (·.2) = (List.range (i + 1)).map (fun j => V.int (j : Nat)), fun H' z => ⟨kv.length - (i + 1), by omega, z⟩, fun x H' y => ?_⟩
          obtain ⟨Tp, x, rfl, nT, rfl, hx⟩ := sr.2 _ _ y
          have sT := same_upd (o := .tup [V.int (i : Nat), x]) nT
          obtain ⟨pp, ep, hpp⟩ := L2.paired_get (PTs.tt hk6 (Tt.same (s7.trans sT))) hx
          obtain ⟨tp, rfl, etp⟩ := hpp
          have lr : rows.length = i := by have := congrArg List.length ev; simpa using this
          refine ⟨Tp, _, rfl, SqT.of upd_same, rfl, _, _, rfl, _, _, rfl, rfl, rfl, ?_⟩
          have hv : valV rows (pk pp) = none := by
            have := keys_some er pp
            have nm : pp ∉ (keys (kept st g)).take i := fun hm => by
              obtain ⟨j, hj⟩ := List.mem_iff_getElem?.mp hm
              have hji : j < i := by
                have := (List.getElem?_eq_some_iff.mp hj).1
                rw [List.length_take] at this; omega
              rw [List.getElem?_take_of_lt hji] at hj
              have := (List.getElem?_inj (List.getElem?_eq_some_iff.mp hj).1 kpn).mp (hj.trans ep.symm)
              omega
            rw [decide_eq_false nm] at this
            cases e : valV rows (pk pp) with
            | none => rfl
            | some v => rw [e] at this; cases this
          refine ⟨_, rfl, _, rfl, rows, pk pp, tp, rfl, etp, sT _ _ hD, small1000 (by omega), rfl, hlt, fun b o hb => ?_, _, upd_same, ?_, ?_⟩
          · rw [upd_ne (ne_of_none hb nD7)]
            exact sT _ _ (s7 _ _ hb)
          · rw [putK_new _ hv, List.map_append, er, take_map_snoc pk ep]; rfl
          · rw [putK_new _ hv, List.map_append, ev, List.range_succ, List.map_append]; rfl
        · have ei : i = kv.length := by omega
          refine .inl ⟨⟨kv, s7.seq (SqL.of hD6), by omega⟩, ?_⟩
          have place : ∀ p ∈ keys (kept st g), valV rows (pk p) = some (.int ((keys (kept st g)).idxOf p : Nat)) := by
            intro p hp'
            have hj := List.idxOf_lt_length_of_mem hp'
            have h1 : (rows.map (·.1))[(keys (kept st g)).idxOf p]? = some (pk p) := by
              rw [er, ei, lkv, List.take_length, List.getElem?_map, List.getElem?_eq_getElem hj]; simp
            have h2 : (rows.map (·.2))[(keys (kept st g)).idxOf p]? = some (.int ((keys (kept st g)).idxOf p : Nat)) := by
              rw [ev, List.getElem?_map, List.getElem?_range (by omega)]; rfl
            rw [List.getElem?_map] at h1 h2
            obtain ⟨y, hy, e1'⟩ := Option.map_eq_some_iff.mp h1
            rw [hy] at h2
            have e2' : y.2 = .int ((keys (kept st g)).idxOf p : Nat) := by simpa using h2
            have nrd : (rows.map (·.1)).Nodup := by
              rw [er, ei, lkv, List.take_length]
              unfold List.Nodup at *
              rw [List.pairwise_map]
              exact kpn.imp fun {a b} h e => h (pk_inj e)
            rw [← e1', ← e2']
            exact valV_mem nrd (List.mem_of_getElem? hy)
          have sH7 := sH6.trans s7
          have ca7 := ca.same sH7
          -- words
          refine ⟨_, rfl, A.c, C, A.dx, _, _, rfl, ca7.ob, T.cl, T.nW, cf_w A, ?_⟩
          have hD5 := s7 _ _ hD6
          refine ⟨_, rfl, D5, rfl, ⟨_, SqL.of hD5⟩, fun D8 nD8 => ?_⟩
          refine lcG (K := K) nD8 (src_list (SqL.of hD5)) (fun i => ((stepsM V_ st g).take i).map stpD) rfl (fun i _ => ⟨flats_map flat_stpD _, small1000 (by rw [List.length_map, List.length_take]; unfold stepsM; rw [List.length_map, ← keys_len]; omega)⟩) (fun j x H8 F Gx hj s8 _ hx kF kG => ?_) (fun H8 vs8 s8 hD8 ha8 => ?_)
          · obtain ⟨pp, ep, hpp⟩ := L2.paired_get (PTs.tt hk6 (Tt.same (s7.trans s8))) hx
            obtain ⟨tp, rfl, etp⟩ := hpp
            obtain ⟨⟨pp', r⟩, ee, epp⟩ : ∃ e : Pr × Rsn, (kept st g)[j]? = some e ∧ e.1 = pp := by
              unfold keys at ep
              rw [List.getElem?_map] at ep
              exact Option.map_eq_some_iff.mp ep
            simp only at epp
            subst epp
            have me : (pp', r) ∈ st := (List.mem_filter.mp (List.mem_of_getElem? ee)).1
            obtain ⟨jj, ejj⟩ := List.mem_iff_getElem?.mp me
            have er' := rsnOf_get G.nodup ejj
            have mp : pp' ∈ keys st := List.mem_map.mpr ⟨_, me, rfl⟩
            have rg := G.rng pp' mp
            have r1 : pp'.1 < V_.length := rg.1
            have r2 : pp'.2 < V_.length := rg.2
            have ca8 := ca.same (sH7.trans s8)
            obtain ⟨ws8, ew, dw⟩ := ca8.wd
            obtain ⟨kr, erk, rr⟩ := ca8.rs
            obtain ⟨vr, evr, hvr⟩ := rr.get er'
            obtain ⟨x1, e1', d1'⟩ := FW.DpAll.get dw (i := pp'.1) (d := tD (atW V_ pp'.1)) (by rw [tDs, List.getElem?_map, atW_get r1]; rfl)
            obtain ⟨x2, e2', d2'⟩ := FW.DpAll.get dw (i := pp'.2) (d := tD (atW V_ pp'.2)) (by rw [tDs, List.getElem?_map, atW_get r2]; rfl)
            refine ⟨rfl, _, rfl, _, rfl, tp, _, _, _, rfl, rfl, SqT.of etp, atI_nat (j := 0) rfl, A.aw, ws8, _, _, rfl, rfl, SqL.of ew, atI_nat e1', ?_⟩
            refine ⟨_, rfl, _, rfl, tp, _, _, _, rfl, rfl, SqT.of etp, atI_nat (j := 1) rfl, A.aw, ws8, _, _, rfl, rfl, SqL.of ew, atI_nat e2', ?_⟩
            have gr := DGet.t (k := pk pp') erk etp
            rw [evr] at gr
            refine ⟨_, rfl, A.c, C, A.dx, _, _, rfl, ca8.ob, T.cl, T.nR, cf_r A, _, rfl, A.ar, _, rfl, gr, _, rfl, ?_⟩
            have before := fun q' hq' => G.kept_before (g := g) ee (q := q') hq'
            have fits := (G.ok jj pp' r ejj).1
            refine ⟨vr, r, D7, rows, keys (kept st g), rfl, hvr, s8 _ _ hD, fun q' hq' => ?_, refs_len O rg fits, fun v' H9 s9 hv' => ?_⟩
            · obtain ⟨i', _, e'⟩ := before q' hq'
              exact place q' (List.mem_of_getElem? e')
            · refine ⟨(by show 3 ≤ sizeLine; decide), fun p9 np9 => kF _ _ (stpD ⟨atW V_ pp'.1, atW V_ pp'.2, moveR (keys (kept st g)) r⟩) (s9.trans (same_upd np9)) (Dp.mk np9 (.cons (Dp.same s9 _ _ d1') (.cons (Dp.same s9 _ _ d2') (.cons hv' .nil)))) ?_⟩
              refine take_map_snoc stpD ?_
              unfold stepsM
              rw [List.getElem?_map, ee]; rfl
          · refine q D8 vs8 H8 (sH7.trans s8) (sH7.free nD8) hD8 ?_
            have : (stepsM V_ st g).length = kv.length := by unfold stepsM; rw [List.length_map, ← keys_len, lkv]
            rw [← this, List.take_length] at ha8
            exact ha8
    | cons w0 wr =>
      refine iteT ?_
      have nz : wt ≠ [] := by rw [hwt]; simp
      obtain ⟨wi, cur, rfl⟩ : ∃ wi cur, wt = wi ++ [cur] := ⟨wt.dropLast, wt.getLast nz, (List.dropLast_concat_getLast nz).symm⟩
      clear hwt
      have hw3 := s3 _ _ hw
      have hp3 := PTs.tt hp (Tt.same s3)
      obtain ⟨wsi, vc, rfl, hpi, hpc⟩ := paired_last hp3
      have hx : (wsi ++ [vc])[(wsi ++ [vc]).length - 1]? = some vc := by simp
      have ca3 := ca.same (sH.trans s3)
      refine ⟨_, rfl, A.c, C, A.dx, _, _, rfl, ca3.ob, T.cl, T.nR, cf_r A, _, rfl, .inl ⟨rfl, _, SqL.of hw3⟩, wl, _, _, rfl, rfl, hw3, hx, ?_⟩
      rw [List.dropLast_concat]
      generalize e4 : (upd (upd H2 p (.lst [])) wl (.lst wsi)) = H4
      have t4 : Tt (upd H2 p (.lst [])) H4 := by subst e4; exact Tt.upd hw3 trivial
      have sH4 : Same H H4 := fun b o hb => by subst e4; rw [upd_ne (ne_of_none hb nwl0)]; exact s3 _ _ (sH _ _ hb)
      have hw4 : H4 wl = some (.lst wsi) := by subst e4; exact upd_same
      have hd4 : H4 dn = some (.dT kvs) := by subst e4; rw [upd_ne ndw]; exact s3 _ _ hd
      have ca4 := ca.same sH4
      obtain ⟨kr, erk, rr⟩ := ca4.rs
      have mc : cur ∈ nd := si.sub cur (by simp)
      obtain ⟨r, er⟩ := rsnOf_some (G.reach_mem gin (si.rc cur mc))
      obtain ⟨vr, evr, hvr⟩ := rr.get er
      obtain ⟨tc, rfl, etc⟩ := hpc.tt t4
      have gr := DGet.t (k := pk cur) erk etc
      rw [evr] at gr
      refine ⟨A.ar, _, rfl, gr, vr, r, rfl, hvr, fun l xs H5 s5 nl hl hxs => ?_⟩
      refine ⟨l, rfl, ⟨_, SqL.of hl⟩, ?_⟩
      have hpi4 := PTs.tt hpi t4
      have nlw : l ≠ wl := (ne_of_none hw4 nl).symm
      have nld : l ≠ dn := (ne_of_none hd4 nl).symm
      have lxs : xs.length = (refs r).length := PySem.Paired.length hxs
      refine forS xs.length (fun i v H H' => H' = H ∧ xs[i]? = some v) (fun i σ H6 => ∃ (kvs' : List (List L2.Key × V)) (ws' : List V) (nd' wt' : List Pr) (x4 : Option V), σ = [some (.ref A.c), some (.ref tg), some (.ref dn), some (.ref wl), x4, none, none, none, none] ∧ Same H H6 ∧ Tt H5 H6 ∧ H6 l = some (.lst xs) ∧ H6 dn = some (.dT kvs') ∧ kvs'.map (·.1) = nd'.map pk ∧ H6 wl = some (.lst ws') ∧ Paired (PT H6) ws' wt' ∧ SI st g (some cur) nd' wt' ∧ cur ∈ nd' ∧ (∀ q' ∈ (refs r).take i, q' ∈ nd') ∧ 2 * (st.length - nd'.length) + wt'.length ≤ 2 * (st.length - nd.length) + wi.length)
        ⟨kvs, wsi, nd, wi, x4, rfl, sH4.trans s5, Tt.refl _, hl, s5 _ _ hd4, ek, s5 _ _ hw4, PTs.tt hpi4 (Tt.same s5), ⟨si.no, si.gl, si.rc, fun p hp' => si.sub p (List.mem_append_left _ hp'), by have := si.ln; rw [List.length_append] at this; omega, fun p hp' => ?_⟩, mc, fun q' hq' => by simp at hq', Nat.le_refl _⟩ (fun i σ H6 _ ⟨_, _, _, _, _, _, _, _, h6, _⟩ => srcL (SqL.of h6)) ?_ ?_
      · rcases si.cl p hp' with z | z | z
        · rcases List.mem_append.mp z with z | z
          · exact .inl z
          · have : p = cur := by simpa using z
            subst this
            exact .inr (.inl rfl)
        · cases z
        · exact .inr (.inr z)
      · rintro i v σ H7 H6 hi ⟨kvs', ws', nd', wt', y4, rfl, sH6, t6, hl6, hd6, ek6, hw6, hp6, si6, mc6, rf6, ms6⟩ ⟨rfl, hv⟩
        obtain ⟨pp, ep, hpp⟩ := L2.paired_get (PTs.tt hxs t6) hv
        obtain ⟨tp, rfl, etp⟩ := hpp
        have rp : Reach st g pp := .step (si.rc cur mc) er (List.mem_of_getElem? ep)
        have rt : ∀ nd'' : List Pr, (∀ q' ∈ nd', q' ∈ nd'') → pp ∈ nd'' → ∀ q' ∈ (refs r).take (i + 1), q' ∈ nd'' := fun nd'' h1 h2 q' hq' => by
          rw [take_snoc ep] at hq'
          rcases List.mem_append.mp hq' with z | z
          · exact h1 q' (rf6 q' z)
          · have : q' = pp := by simpa using z
            subst this; exact h2
        have lk6 : kvs'.length = nd'.length := by have := congrArg List.length ek6; simpa using this
        refine ⟨_, rfl, _, rfl, dn, _, rfl, DGet.t (k := pk pp) hd6 etp, _, rfl, ?_⟩
        rw [keys_some ek6]
        by_cases m : pp ∈ nd'
        · rw [decide_eq_true m]
          exact iteF ⟨kvs', ws', nd', wt', _, rfl, sH6, t6, hl6, hd6, ek6, hw6, hp6, si6, mc6, rt nd' (fun _ h => h) m, ms6⟩
        · rw [decide_eq_false m]
          have hvn : valV kvs' (pk pp) = none := by
            have := keys_some ek6 pp
            rw [decide_eq_false m] at this
            cases e : valV kvs' (pk pp) with
            | none => rfl
            | some v => rw [e] at this; cases this
          have ln : nd'.length + 1 ≤ st.length := by
            rw [← keys_len]
            have := nodup_le (l := pp :: nd') (m := keys st) (List.nodup_cons.mpr ⟨m, si6.no⟩) fun z hz => by
              rcases List.mem_cons.mp hz with rfl | hz
              · exact G.reach_mem gin rp
              · exact G.reach_mem gin (si6.rc z hz)
            simpa using this
          refine iteT ⟨_, rfl, _, rfl, dn, _, rfl, DPut.t (k := pk pp) hd6 etp (small1000 (by omega)), ?_⟩
          have t7 : Tt H6 (upd H6 dn (.dT (putK kvs' (pk pp) (.bl true)))) := Tt.upd hd6 trivial
          have hw7 : (upd H6 dn (.dT (putK kvs' (pk pp) (.bl true)))) wl = some (.lst ws') := by rw [upd_ne ndw.symm]; exact hw6
          have lw' : ws'.length = wt'.length := PySem.Paired.length hp6
          have lwt : ws'.length < sizeLine := small1000 (by have := si6.ln; omega)
          refine ⟨_, rfl, .inl ⟨rfl, _, SqL.of hw7⟩, _, rfl, wl, ws', _, rfl, rfl, hw7, lwt, ?_⟩
          have t8 : Tt _ (upd (upd H6 dn (.dT (putK kvs' (pk pp) (.bl true)))) wl (.lst (ws' ++ [V.ref tp]))) := Tt.upd hw7 trivial
          refine ⟨putK kvs' (pk pp) (.bl true), ws' ++ [.ref tp], nd' ++ [pp], wt' ++ [pp], _, rfl, fun b o hb => ?_, t6.trans (t7.trans t8), ?_, ?_, ?_, upd_same, ?_, ⟨?_, List.mem_append_left _ si6.gl, fun p hp' => ?_, fun p hp' => ?_, by have := si6.ln; rw [List.length_append, List.length_append]; simp only [List.length_cons, List.length_nil]; omega, fun p hp' => ?_⟩, List.mem_append_left _ mc6, rt _ (fun _ h => List.mem_append_left _ h) (by simp), ?_⟩
          · rw [upd_ne (ne_of_none hb nwl0), upd_ne (ne_of_none hb ndn)]
            exact sH6 _ _ hb
          · rw [upd_ne nlw, upd_ne nld]; exact hl6
          · rw [upd_ne ndw]; exact upd_same
          · rw [putK_new _ hvn, List.map_append, ek6, List.map_append]; rfl
          · refine PySem.Paired.snoc (PTs.tt hp6 (t7.trans t8)) ⟨tp, rfl, ?_⟩
            exact (t7.trans t8).tq _ _ etp
          · exact List.nodup_append.mpr ⟨si6.no, by simp, fun a ha b hb e => m (by
              have : b = pp := by simpa using hb
              rw [← this, ← e]; exact ha)⟩
          · rcases List.mem_append.mp hp' with z | z
            · exact si6.rc p z
            · have : p = pp := by simpa using z
              subst this; exact rp
          · rcases List.mem_append.mp hp' with z | z
            · exact List.mem_append_left _ (si6.sub p z)
            · exact List.mem_append_right _ z
          · rcases List.mem_append.mp hp' with z | z
            · rcases si6.cl p z with y | y | y
              · exact .inl (List.mem_append_left _ y)
              · exact .inr (.inl y)
              · exact .inr (.inr fun r hr' q' hq' => List.mem_append_left _ (y r hr' q' hq'))
            · exact .inl (List.mem_append_right _ z)
          · rw [List.length_append, List.length_append]
            simp only [List.length_cons, List.length_nil]
            omega
      · rintro σ H6 ⟨kvs', ws', nd', wt', y4, rfl, sH6, t6, hl6, hd6, ek6, hw6, hp6, si6, mc6, rf6, ms6⟩
        rw [lxs, List.take_length] at rf6
        refine ⟨⟨kvs', ws', nd', wt', _, rfl, sH6, hd6, ek6, hw6, hp6, ⟨si6.no, si6.gl, si6.rc, si6.sub, si6.ln, fun p hp' => ?_⟩⟩, ?_⟩
        · rcases si6.cl p hp' with z | z | z
          · exact .inl z
          · have : p = cur := by simpa using z
            subst this
            exact .inr (.inr fun r' hr' q' hq' => rf6 q' (by rw [er] at hr'; cases hr'; exact hq'))
          · exact .inr (.inr z)
        · have lk6 : kvs'.length = nd'.length := by have := congrArg List.length ek6; simpa using this
          have lw6 : ws'.length = wt'.length := PySem.Paired.length hp6
          show 2 * (st.length - lenT (H6 dn)) + lenL (H6 wl) < 2 * (st.length - lenT (H2 dn)) + lenL (H2 wl)
          rw [hd6, hw6, hd, hw]
          simp only [lenT, lenL]
          rw [lws]
          simp only [List.length_append, List.length_cons, List.length_nil]
          omega
  · rintro σ H2 Q1 Q2 hq ⟨v, h1, h2, h3⟩
    refine ⟨v, h1, h2, fun p np => ?_⟩
    obtain ⟨d, e, a1, a2, a3, a4, k, a5, a6⟩ := h3 p np
    exact ⟨d, e, a1, a2, a3, a4, k, a5, hq _ _ a6⟩
end
end FD
end T_D11

section T_D12
set_option Elab.async false
set_option linter.all false
set_option maxRecDepth 100000
/-! The walk: derive, table_of. -/
namespace FD
open PySem L2 FF FW
noncomputable def vocS (rs : List Rl) (p : Tm × Tm) : List Tm := wordsOf (rpairs rs p)
noncomputable def cloS (rs : List Rl) (p : Tm × Tm) : CSt := closeM (wdOf (vocS rs p) rs)
noncomputable def goalPr (rs : List Rl) (p : Tm × Tm) : Pr := (ixW (vocS rs p) p.1, ixW (vocS rs p) p.2)
section
variable {rs : List Rl} {p : Tm × Tm}
theorem SOk.voc (h : SOk rs p) : IsVoc (pairTs (rpairs rs p)) (vocS rs p) := words_is (wfp_of h.pairs)
theorem SOk.wok (h : SOk rs p) : WOk (vocS rs p) rs := by
  have v := h.voc
  have ok : ∀ t ∈ vocS rs p, TOk t := fun t ht => pairTs_ok h.pairs ((v.mem t).mp ht)
  refine ⟨⟨v.nodup, fun t ht => (ok t ht).wf, fun t ht q hq => words_part (wfp_of h.pairs) ht hq, fun r hr => ?_⟩, fun t ht => (ok t ht).dp, fun t ht => (ok t ht).sz, h.wd⟩
  have m : r.2 ∈ rpairs rs p := List.mem_append_left _ (List.mem_map.mpr ⟨r, hr, rfl⟩)
  exact ⟨(v.mem _).mpr (mem_pairTs.mpr ⟨_, m, .inl (self_walk _)⟩), (v.mem _).mpr (mem_pairTs.mpr ⟨_, m, .inr (self_walk _)⟩)⟩
theorem SOk.goal (h : SOk rs p) : p.1 ∈ vocS rs p ∧ p.2 ∈ vocS rs p := by
  have m : p ∈ rpairs rs p := List.mem_append_right _ (by simp)
  exact ⟨(h.voc.mem _).mpr (mem_pairTs.mpr ⟨_, m, .inl (self_walk _)⟩), (h.voc.mem _).mpr (mem_pairTs.mpr ⟨_, m, .inr (self_walk _)⟩)⟩
theorem SOk.closed (h : SOk rs p) : Closed (wdOf (vocS rs p) rs) (cloS rs p) := closeM_ok h.wok.ws.ok
end
section
variable {X : Cx} {k : Nat} {ps : List Str} {sp : Sp} {x : Str} {p pos : Pos} {e : Expr} {es : List Expr} {t : TA} {C : Addr}
theorem pe_mk (F : Mn X.prog X.w X.K X.mg X.base C k "__init__" ps sp) (T : Tx X.K X.mg C) (hr : Room (k + 1) X.A) (hg : Gl X "Closure") (ha : PA X (e :: es) t)
    (he : starEach (e :: es) X.env = (false, eval e X.env) :: starEach es X.env := by rfl) (hpl : (backTo pos (starEach es X.env)).any (·.1) = false := by rfl) :
    PE X (.Call (.Name "Closure" p) (e :: es) [] pos) (tMake C sp [] E0 t) := by
  obtain ⟨f, fd, F, b, m⟩ := F
  exact pe_make ⟨T.mks, m.at_, m.fn, T.kc⟩ F hr hg T.mgC b .nil pass0 ha (by decide) he hpl
end
/-! a def with its text, for calls by keywords -/
def FnS (P : Program) (w : World) (K : PySem.W.Frag) (mg : Str → Option Value) (base : Heap) (k : Nat) (x : Str) (st : Stmt) (ps : List Str) (sp : Sp) : Prop :=
  ∃ f fd, FnOk P w K mg base CX0 k f fd ps sp ∧ Fun K x x st f fd ∧ Binds K fd ps [] ∧ mg x = some (.ref f)
section
variable {P : Program} {w : World} {K : PySem.W.Frag} {mg : Str → Option Value} {base : Heap} {C : Addr}
theorem FnS.fn {k : Nat} {x : Str} {st : Stmt} {ps : List Str} {sp : Sp} (F : FnS P w K mg base k x st ps sp) : Fn P w K mg base k x ps sp := by
  obtain ⟨f, fd, F, G, b, m⟩ := F
  exact ⟨f, fd, F, b, G.kp, m⟩
theorem Df.okS {x : Str} {st : Stmt} {N ps : List Str} {k : Nat} {sp : Sp} (D : Df K mg x st ps) (S : FnScope N ps (defScope st)) (len : ∀ vs H Q E, sp vs H Q E → vs.length = ps.length)
    (hbody : ∀ (f : Addr) (cdv : Value) (A : Around) (outer : List Env) (s : Shared) (H : Hp) (vs : List V) (Q : VK) (E : XK), Room k (A.deeper (PyProof.Rows.envOfC x (defScope st) s.heap.objs.size f cdv)) → sp vs H Q E →
      ∃ t, PSs (cxOf CX0 P w K mg base N x (defScope st) f cdv A outer s H E).nox (defBody st) t ∧ t { nx := fun _ H' => Q .non H', rt := Q } (start N vs) H) : FnS P w K mg base (k + 1) x st ps sp := by
  obtain ⟨f, fd, F, b, m⟩ := D
  exact ⟨f, fd, F.ok S len (hbody f), F, b, m⟩
def spDerive (K : PySem.W.Frag) : Sp := fun vs H Q _ => ∃ (a : Addr) (g : V) (us : List V) (rs : List Rl) (p : Tm × Tm), vs = [.ref a, g] ∧ SqL K H a us ∧ DpAll K H us (rs.map rlD) ∧ Dp K H g (prD2 p) ∧ SOk rs p ∧
  (goalPr rs p ∈ keys (cloS rs p) → ∀ r ws H', Same H H' → H r = none → H' r = some (.lst ws) → DpAll K H' ws ((stepsM (vocS rs p) (cloS rs p) (goalPr rs p)).map stpD) → Q (.ref r) H') ∧ (goalPr rs p ∉ keys (cloS rs p) → ∀ H', Same H H' → Q .non H')
abbrev n36 : List Str := ["rules", "goal", "closure"]
theorem sc36 : FnScope n36 ["rules", "goal"] (defScope (topS 36)) := ⟨rfl, rfl, rfl, by decide +kernel, rfl, by decide +kernel, by decide +kernel⟩
theorem ok_derive (D : Df K mg "derive" (topS 36) ["rules", "goal"]) (T : Tx K mg C) (FI : Mn P w K mg base C 4 "__init__" ["self", "rules", "words"] (spInit K w C)) (FG : Fn P w K mg base 12 "goal_words" ["rules", "goal"] (spChecked K))
    (FH : Mn P w K mg base C 2 "has_goal" ["self", "goal"] (spHasGoal K w C)) (FS : Fn P w K mg base 2 "steps_for" ["closure", "pair"] (spSteps K w C)) : FnS P w K mg base 13 "derive" (topS 36) ["rules", "goal"] (spDerive K) := by
  refine D.okS sc36 (fun vs H Q E h => ?_) (fun f cdv A outer s H vs Q E hr h => ?_)
  · obtain ⟨a, g, us, rs, p, rfl, _⟩ := h
    rfl
  obtain ⟨a, g, us, rs, p, rfl, hS, ha, hg, ok, q1, q2⟩ := h
  have hu := hr.units
  have hr2 : Room 2 _ := hr.mono (by decide)
  refine ⟨_, pss_cons (ps_set (i := 2) sc36.nd rfl (.inl rfl) (pe_mk FI T (hr.mono (by decide)) (by rfl) (pa_cons (pv 0) (pa_cons (pe_fn FG hr (by rfl) (pa_cons (pv 0) (pa_cons (pv 1) pa_nil))) pa_nil))))
    (pss_cons (ps_if (pt_not (pt_val (pe_mn FH T.cl hr2 (pv 2) (pa_cons (pv 1) pa_nil)))) (pss_one (ps_ret pe_non)) pss_nil)
    (pss_one (ps_ret (pe_fn FS hr2 (by rfl) (pa_cons (pv 2) (pa_cons (pe_tup (pa_cons (pe_nget hu (pe_fld (pv 2) rfl) (pe_ix ix_tup (pv 1) pe_int (fun _ _ => rfl))) (pa_cons (pe_nget hu (pe_fld (pv 2) rfl) (pe_ix ix_tup (pv 1) pe_int (fun _ _ => rfl))) pa_nil))) pa_nil)))))), ?_⟩
  have O := ok.wok
  refine ⟨_, rfl, _, rfl, _, rfl, a, g, us, rs, p, rfl, hS, ha, hg, ok, fun r ws H1 s1 nr hr1 ha1 => ?_⟩
  intro x dx nx ndx nex
  have s2 : Same H1 (upd (upd H1 dx (.own x)) x (.ins C dx [])) := fun b o e => by
    rw [upd_ne (ne_of_none e nx), upd_ne (ne_of_none e ndx)]; exact e
  have s12 := s1.trans s2
  have nx0 : H x = none := s1.free nx
  refine ⟨vocS rs p, rs, x, dx, a, r, us, ws, rfl, upd_same, s12.seq hS, DpAll.same s12 _ _ ha, s2 _ _ hr1, DpAll.same s2 _ _ ha1, O, fun A_ H3 eA k3 ca => ⟨rfl, ?_⟩⟩
  subst eA
  have s3 : Same H H3 := fun b o e => k3 _ _ (s12 _ _ e) (ne_of_none e nx0)
  have hg3 := Dp.same s3 _ _ hg
  refine ⟨_, rfl, A_.c, A_.dx, cfl A_, rfl, ca.ob, cf_goal A_, _, rfl, vocS rs p, rs, A_, cloS rs p, g, p, rfl, ca, O, hg3, ok.goal.1, ok.goal.2, fun H4 s4 => ⟨_, rfl, ?_⟩⟩
  have ca4 := ca.same s4
  by_cases hin : goalPr rs p ∈ keys (cloS rs p)
  · rw [decide_eq_true (show (ixW (vocS rs p) p.1, ixW (vocS rs p) p.2) ∈ keys (cloS rs p) from hin)]
    refine iteF ?_
    obtain ⟨ag, xg, yg, rfl, hs, h1, h2⟩ := pr_inv (Dp.same s4 _ _ hg3)
    obtain ⟨nk, en, na, fn⟩ := ca4.nu
    refine ⟨_, rfl, ?_⟩
    refine ⟨_, rfl, A_.c, C, A_.dx, _, _, rfl, ca4.ob, T.cl, T.nN, cf_n A_, _, rfl, ag, _, _, _, rfl, rfl, hs, atI_nat (j := 0) rfl, A_.an, nk, tkey p.1, _, rfl, Rd.of en, na, h1, tk_ok (O.dp _ ok.goal.1), fn _ _ (ixW_get ok.goal.1), ?_⟩
    refine ⟨_, rfl, A_.c, C, A_.dx, _, _, rfl, ca4.ob, T.cl, T.nN, cf_n A_, _, rfl, ag, _, _, _, rfl, rfl, hs, atI_nat (j := 1) rfl, A_.an, nk, tkey p.2, _, rfl, Rd.of en, na, h2, tk_ok (O.dp _ ok.goal.2), fn _ _ (ixW_get ok.goal.2), ?_⟩
    refine ⟨(by show 2 ≤ sizeLine; decide), fun p5 np5 => ?_⟩
    have s5 := same_upd (o := .tup [V.int (ixW (vocS rs p) p.1 : Nat), .int (ixW (vocS rs p) p.2 : Nat)]) np5
    refine ⟨vocS rs p, rs, A_, cloS rs p, _, goalPr rs p, rfl, ca4.same s5, O, ok.closed.good, PT.new, hin, fun r6 w6 H6 s6 nr6 hr6 ha6 => ?_⟩
    exact q1 hin r6 w6 H6 (((s3.trans s4).trans s5).trans s6) (((s3.trans s4).trans s5).free nr6) hr6 ha6
  · rw [decide_eq_false (show ¬ (ixW (vocS rs p) p.1, ixW (vocS rs p) p.2) ∈ keys (cloS rs p) from hin)]
    exact iteT (q2 hin H4 (s3.trans s4))
def spTable (K : PySem.W.Frag) : Sp := fun vs H Q _ => ∃ (a : Addr) (g : V) (us : List V) (rs : List Rl) (p : Tm × Tm), vs = [.ref a, g] ∧ SqL K H a us ∧ DpAll K H us (rs.map rlD) ∧ Dp K H g (prD2 p) ∧ SOk rs p ∧
  (goalPr rs p ∈ keys (cloS rs p) → ∀ H', Same H H' → Q .non H') ∧ (goalPr rs p ∉ keys (cloS rs p) → ∀ r ws ps H', Same H H' → H r = none → H' r = some (.lst ws) → SrtK (cloS rs p) ps → DpAll K H' ws (ps.map fun q => prD2 (atW (vocS rs p) q.1, atW (vocS rs p) q.2)) → Q (.ref r) H')
theorem sc38 : FnScope n36 ["rules", "goal"] (defScope (topS 38)) := ⟨rfl, rfl, rfl, by decide +kernel, rfl, by decide +kernel, by decide +kernel⟩
theorem ok_table (D : Df K mg "table_of" (topS 38) ["rules", "goal"]) (T : Tx K mg C) (FI : Mn P w K mg base C 4 "__init__" ["self", "rules", "words"] (spInit K w C)) (FG : Fn P w K mg base 12 "goal_words" ["rules", "goal"] (spChecked K))
    (FH : Mn P w K mg base C 2 "has_goal" ["self", "goal"] (spHasGoal K w C)) (FP : Mn P w K mg base C 1 "pairs" ["self"] (spPairs K w C)) : FnS P w K mg base 13 "table_of" (topS 38) ["rules", "goal"] (spTable K) := by
  refine D.okS sc38 (fun vs H Q E h => ?_) (fun f cdv A outer s H vs Q E hr h => ?_)
  · obtain ⟨a, g, us, rs, p, rfl, _⟩ := h
    rfl
  obtain ⟨a, g, us, rs, p, rfl, hS, ha, hg, ok, q1, q2⟩ := h
  have hu := hr.units
  have hr2 : Room 2 _ := hr.mono (by decide)
  have hr1 : Room 1 _ := hr.mono (by decide)
  refine ⟨_, pss_cons (ps_set (i := 2) sc38.nd rfl (.inl rfl) (pe_mk FI T (hr.mono (by decide)) (by rfl) (pa_cons (pv 0) (pa_cons (pe_fn FG hr (by rfl) (pa_cons (pv 0) (pa_cons (pv 1) pa_nil))) pa_nil))))
    (pss_one (ps_ret (pe_ifExp (pt_val (pe_mn FH T.cl hr2 (pv 2) (pa_cons (pv 1) pa_nil))) pe_non (pe_mn0 FP T.cl hr1 (pv 2))))), ?_⟩
  have O := ok.wok
  refine ⟨_, rfl, _, rfl, _, rfl, a, g, us, rs, p, rfl, hS, ha, hg, ok, fun r ws H1 s1 nr hr1 ha1 => ?_⟩
  intro x dx nx ndx nex
  have s2 : Same H1 (upd (upd H1 dx (.own x)) x (.ins C dx [])) := fun b o e => by
    rw [upd_ne (ne_of_none e nx), upd_ne (ne_of_none e ndx)]; exact e
  have s12 := s1.trans s2
  have nx0 : H x = none := s1.free nx
  refine ⟨vocS rs p, rs, x, dx, a, r, us, ws, rfl, upd_same, s12.seq hS, DpAll.same s12 _ _ ha, s2 _ _ hr1, DpAll.same s2 _ _ ha1, O, fun A_ H3 eA k3 ca => ⟨rfl, ?_⟩⟩
  subst eA
  have s3 : Same H H3 := fun b o e => k3 _ _ (s12 _ _ e) (ne_of_none e nx0)
  have hg3 := Dp.same s3 _ _ hg
  refine ⟨_, rfl, A_.c, A_.dx, cfl A_, rfl, ca.ob, cf_goal A_, _, rfl, vocS rs p, rs, A_, cloS rs p, g, p, rfl, ca, O, hg3, ok.goal.1, ok.goal.2, fun H4 s4 => ⟨_, rfl, ?_⟩⟩
  have ca4 := ca.same s4
  by_cases hin : goalPr rs p ∈ keys (cloS rs p)
  · rw [decide_eq_true (show (ixW (vocS rs p) p.1, ixW (vocS rs p) p.2) ∈ keys (cloS rs p) from hin)]
    exact iteT (q1 hin H4 (s3.trans s4))
  · rw [decide_eq_false (show ¬ (ixW (vocS rs p) p.1, ixW (vocS rs p) p.2) ∈ keys (cloS rs p) from hin)]
    refine iteF ⟨_, rfl, A_.c, A_.dx, cfl A_, rfl, ca4.ob, cf_pairs A_, vocS rs p, rs, A_, cloS rs p, rfl, ca4, O, ok.closed.good, fun r6 w6 ps H6 s6 nr6 hr6 sk ha6 => ?_⟩
    exact q2 hin r6 w6 ps H6 ((s3.trans s4).trans s6) ((s3.trans s4).free nr6) hr6 sk ha6
end
end FD
end T_D12

section T_E1
set_option Elab.async false
set_option linter.all false
set_option maxRecDepth 100000
/-! The law: words. -/
namespace FD
open PySem L2 FF FW
section
variable {P : Program} {w : World} {K : PySem.W.Frag} {mg : Str → Option Value} {base : Heap}
/-! ### _law_parts -/
def spLParts (K : PySem.W.Frag) : Sp := fun vs H Q _ => ∃ v t, vs = [v] ∧ TmAt K H v t ∧ ∀ r ws H', Same H H' → H r = none → H' r = some (.lst ws) → DpAll K H' ws (tDs t.parts) → Q (.ref r) H'
theorem sc44 : FnScope ["_law_word"] ["_law_word"] (defScope (topS 44)) := ⟨rfl, rfl, rfl, by decide +kernel, rfl, by decide +kernel, by decide +kernel⟩
theorem ok_lparts (D : Df K mg "_law_parts" (topS 44) ["_law_word"]) (B : Bi mg) : Fn P w K mg base 1 "_law_parts" ["_law_word"] (spLParts K) := by
  refine D.ok sc44 (fun vs H Q E h => ?_) (fun f cdv A outer s H vs Q E hr h => ?_)
  · obtain ⟨v, t, rfl, _⟩ := h
    rfl
  obtain ⟨v, t, rfl, ht, q⟩ := h
  refine ⟨_, pss_one (ps_ret (pe_ifExp (pt_val (pe_callB (call_isD K) (by rfl) B.isi b_isi (pa_cons (pv 0) (pa_cons (pe_bltn (v := .ty "str") (by rfl) B.str b_str rfl) pa_nil)))) (pe_lst pa_nil) (pe_callTy call_list_of (by rfl) B.lst b_lst (pa_cons (pe_slice sl_tup (pv 0) (po_some pe_int) po_none) pa_nil)))), ?_⟩
  rcases TmAt.cases ht with ⟨c, rfl, rfl⟩ | ⟨op, ts, p, vs, rfl, rfl, hp, ha⟩
  · refine ⟨_, rfl, _, "str", _, _, rfl, .str _, k_ss, _, rfl, iteT ?_⟩
    exact ⟨(by show 0 ≤ sizeLine; decide), fun p np => q p [] _ (same_upd np) np upd_same .nil⟩
  · refine ⟨_, rfl, _, "str", _, _, rfl, dp_node ht, k_ts, _, rfl, iteF ?_⟩
    refine ⟨_, rfl, ⟨1, rfl, p, _, rfl, hp, tail_ne _ _, fun p1 np1 => ?_⟩⟩
    rw [cut_tail]
    have s1 := same_upd (o := .tup vs) np1
    refine ⟨p1, _, rfl, .inr (SqT.of upd_same), fun l nl => ?_⟩
    exact q l vs _ (s1.trans (same_upd nl)) (s1.free nl) upd_same (DpAll.same (s1.trans (same_upd nl)) _ _ ha)
/-! ### _law_text -/
abbrev n45 : List Str := ["_law_word", "_law_texts", "_law_one"]
theorem sc45 : FnScope n45 ["_law_word"] (defScope (topS 45)) := ⟨rfl, rfl, rfl, by decide +kernel, rfl, by decide +kernel, by decide +kernel⟩
theorem ok_ltext (D : Df K mg "_law_text" (topS 45) ["_law_word"]) (B : Bi mg) :
    ∀ n, Fn P w K mg base (n + 1) "_law_text" ["_law_word"] (spText K n)
  | 0 => D.none fun vs H Q E ⟨v, t, _, _, _, h, _⟩ => by have := depth_pos t; omega
  | n + 1 => by
    have ih := ok_ltext D B n
    refine D.ok sc45 (fun vs H Q E h => ?_) (fun f cdv A outer s H vs Q E hr h => ?_)
    · obtain ⟨v, t, rfl, _⟩ := h
      rfl
    obtain ⟨v, t, rfl, ht, wf, hd, hz, q⟩ := h
    refine ⟨_, pss_cons (ps_if (pt_val (pe_callB (call_isD K) (by rfl) B.isi b_isi (pa_cons (pv 0) (pa_cons (pe_bltn (v := .ty "str") (by rfl) B.str b_str rfl) pa_nil)))) (pss_one (ps_ret (pv 0))) pss_nil)
      (pss_cons (ps_setLc (i := 1) (own := [("_law_one", 2)]) (g := gName 2) (tt := tYes) (by rfl) sc45.nd rfl rfl (sw_true rfl rfl rfl (by decide +kernel)) (pi_tup (pe_slice sl_tup (pv 0) (po_some pe_int) po_none)) (blkOk_by (own := [("_law_one", 2)]) (N := n45) (sc := defScope (topS 45)) (by decide +kernel))
          (fun _ _ _ _ _ => pg_name (i := 2) sc45.nd rfl (Or.inl rfl)) (fun _ _ _ _ _ => pts_nil)
          (fun _ _ _ _ _ => pe_ifExp (pt_val (pe_callB (call_isD K) (by rfl) B.isi b_isi (pa_cons (pv 2) (pa_cons (pe_bltn (v := .ty "str") (by rfl) B.str b_str rfl) pa_nil)))) (pv 2)
            (pe_op op_add_str (pe_op op_add_str pe_str (pe_fn ih hr (by rfl) (pa_cons (pv 2) pa_nil))) pe_str)))
      (pss_one (ps_ret (pe_join (pe_op op_add_str (pe_op op_add_str pe_str (pe_ix ix_tup (pv 0) pe_int (fun _ _ => rfl))) pe_str) (pv 1))))), ?_⟩
    rcases TmAt.cases ht with ⟨c, rfl, rfl⟩ | ⟨op, ts, p, vs, rfl, rfl, hp, ha⟩
    · refine ⟨_, rfl, _, "str", _, _, rfl, .str _, k_ss, _, rfl, iteT ?_⟩
      exact ⟨_, rfl, q H (Same.refl _)⟩
    · refine ⟨_, rfl, _, "str", _, _, rfl, dp_node ht, k_ts, _, rfl, iteF ?_⟩
      refine ⟨_, rfl, ⟨1, rfl, p, _, rfl, hp, tail_ne _ _, fun l nl => ?_⟩⟩
      rw [cut_tail]
      have s1 : Same H (upd H l (.tup vs)) := same_upd nl
      have wl : 2 ≤ ts.length ∧ WFs ts := wf
      have hl : vs.length = ts.length := mapD_len ha
      have sm : sizes ts ≤ 1000 := hz
      have le := sizes_len wl.2
      have hdt : depths ts ≤ n := Nat.le_of_succ_le_succ (show depths ts + 1 ≤ n + 1 from hd)
      refine ⟨l, rfl, ⟨_, SqT.of upd_same⟩, fun Dl nD => ?_⟩
      refine lcB nD (src_tup (SqT.of upd_same)) (fun i => (ts.take i).map fun t : Tm => V.str (strC t.ptx)) rfl (fun i _ => small1000 (by rw [List.length_map, List.length_take]; omega)) (fun i x H2 F G hi s2 _ hx kF kG => ?_) (fun H2 s2 hD => ?_)
      · have ha2 := DpAll.same (s1.trans s2) _ _ ha
        obtain ⟨t, e1, htx⟩ := tDs_get ha2 hx
        have mt : t ∈ ts := List.mem_of_getElem? e1
        have wt := (wfs_iff ts).mp wl.2 t mt
        have zt := sizes_mem mt
        have lt := txt_len t wt
        refine ⟨rfl, ?_⟩
        rcases TmAt.cases htx with ⟨c, rfl, rfl⟩ | ⟨op', ts', p', vs', rfl, rfl, hp', ha'⟩
        · refine ⟨_, rfl, _, "str", _, _, rfl, .str _, k_ss, _, rfl, iteT ?_⟩
          exact ⟨_, rfl, kF _ _ (Same.refl _) (take_map_snoc (fun t : Tm => V.str (strC t.ptx)) e1)⟩
        · refine ⟨_, rfl, _, "str", _, _, rfl, dp_node htx, k_ts, _, rfl, iteF ?_⟩
          refine ⟨_, rfl, _, _, rfl, htx, wt, depths_mem hdt mt, by omega, fun H3 s3 => ⟨_, _, rfl, rfl, ?_, _, _, rfl, rfl, ?_, ?_⟩⟩
          · rw [lp_eq, strC_len, strC_len]
            simp only [List.length_cons, List.length_nil]
            exact Nat.le_trans (show _ ≤ 6001 by omega) (by show 6001 ≤ sizeLine; decide)
          · rw [lp_eq, rp_eq, strC_app, strC_len, strC_len]
            simp only [List.length_append, List.length_cons, List.length_nil]
            exact Nat.le_trans (show _ ≤ 6002 by omega) (by show 6002 ≤ sizeLine; decide)
          · refine kF _ _ s3 ?_
            rw [lp_eq, rp_eq, ← ptx_txt]
            exact take_map_snoc (fun t : Tm => V.str (strC t.ptx)) e1
      · have el : (ts.take vs.length).map (fun t : Tm => V.str (strC t.ptx)) = (ts.map fun t => strC t.ptx).map V.str := by
          rw [hl, List.take_length, List.map_map]; rfl
        rw [el] at hD
        have sep : (" " : Str) ++ opS op ++ (" " : Str) = sepT op := by
          rw [sp_eq, opS, strC_app, strC_app]; rfl
        have hp2 := SqT.same (s1.trans s2) hp
        refine ⟨_, rfl, p, _, _, _, rfl, rfl, hp2, atI_nat (j := 0) rfl, _, _, rfl, rfl, ?_, _, _, rfl, rfl, ?_, ⟨_, rfl⟩, _, rfl, _, Dl, (ts.map fun t => strC t.ptx), rfl, rfl, .inl (SqL.of hD), ?_, ?_⟩
        · rw [sp_eq, opS, strC_len, strC_len]; show 2 ≤ sizeLine; decide
        · rw [sp_eq, opS, strC_app, strC_len, strC_len]; show 3 ≤ sizeLine; decide
        · have := ptx_sum ts wl.2
          rw [sep, sepT, strC_len, List.length_map]
          simp only [List.length_cons, List.length_nil]
          omega
        · rw [sep, TL.join_eq, join_txt]
          exact q H2 (s1.trans s2)
/-! ### _law_walk -/
abbrev n46 : List Str := ["_law_word", "_law_found", "_law_one"]
theorem sc46 : FnScope n46 ["_law_word"] (defScope (topS 46)) := ⟨rfl, rfl, rfl, by decide +kernel, rfl, by decide +kernel, by decide +kernel⟩
theorem ok_lwalk (D : Df K mg "_law_walk" (topS 46) ["_law_word"]) (FP : Fn P w K mg base 1 "_law_parts" ["_law_word"] (spLParts K)) :
    ∀ n, Fn P w K mg base (n + 1) "_law_walk" ["_law_word"] (spWalked K n)
  | 0 => D.none fun vs H Q E ⟨v, t, _, _, _, h, _⟩ => by have := depth_pos t; omega
  | n + 1 => by
    have ih := ok_lwalk D FP n
    refine D.ok sc46 (fun vs H Q E h => ?_) (fun f cdv A outer s H vs Q E hr h => ?_)
    · obtain ⟨v, t, rfl, _⟩ := h
      rfl
    obtain ⟨v, t, rfl, ht, wf, hd, hz, q⟩ := h
    have hr1 : Room 1 _ := hr.mono (by omega)
    refine ⟨_, pss_cons (ps_set (i := 1) sc46.nd rfl (.inl rfl) (pe_lst (pa_cons (pv 0) pa_nil)))
      (pss_cons (ps_for PassesOwn.never rfl (pi_list (pe_fn FP hr1 (by rfl) (pa_cons (pv 0) pa_nil))) (pg_name (i := 2) sc46.nd rfl (.inl rfl))
        (pss_one (ps_set (i := 1) sc46.nd rfl (.inl rfl) (pe_op op_cat (pv 1) (pe_fn ih hr (by rfl) (pa_cons (pv 2) pa_nil))))))
      (pss_one (ps_ret (pv 1)))), ?_⟩
    refine ⟨_, rfl, (by show 1 ≤ sizeLine; decide), fun l nl => ?_⟩
    have s1 : Same H (upd H l (.lst [v])) := same_upd nl
    have ht1 : TmAt K (upd H l (.lst [v])) v t := Dp.same s1 _ _ ht
    refine ⟨_, rfl, v, t, rfl, ht1, fun p ws H2 s2 np hp ha => ?_⟩
    refine ⟨p, rfl, ⟨_, SqL.of hp⟩, for_list (K := K) (a := p) (xs := ws) (fun i σ H3 => ∃ x l2 acc, σ = [some v, some (.ref l2), x] ∧ Same H2 H3 ∧ H l2 = none ∧ H3 l2 = some (.lst acc) ∧ DpAll K H3 acc (tDs (t :: walks (t.parts.take i))))
      ⟨none, l, [v], rfl, Same.refl _, nl, s2 _ _ upd_same, .cons (Dp.same s2 _ _ ht1) .nil⟩ (fun i σ H3 _ ⟨_, _, _, _, t3, _⟩ => SqL.of (t3 _ _ hp)) ?_ ?_⟩
    · rintro i x σ H3 hx ⟨y, l2, acc, rfl, t3, n2, hl, hac⟩
      have wfs : WFs t.parts := by cases t with
        | leaf c => trivial
        | node op ts => exact wf.2
      have hps : sizes t.parts ≤ 1000 := by cases t with
        | leaf c => exact Nat.zero_le _
        | node op ts => exact hz
      obtain ⟨u, e1, hu⟩ := tDs_get (DpAll.same t3 _ _ ha) hx
      have mu : u ∈ t.parts := List.mem_of_getElem? e1
      have du : u.depth ≤ n := by cases t with
        | leaf c => simp [Tm.parts] at mu
        | node op ts => exact depths_mem (show depths ts ≤ n from Nat.le_of_succ_le_succ hd) mu
      have zu := sizes_mem mu
      refine ⟨_, rfl, _, rfl, x, u, rfl, hu, (wfs_iff _).mp wfs u mu, du, by omega, fun p2 w2 H4 s4 np2 hp2 ha2 => ?_⟩
      have hl4 := s4 _ _ hl
      have l1 : acc.length = (walks (t.parts.take i)).length + 1 := by rw [DpAll.length hac]; simp [tDs]
      have l2' : w2.length = u.walk.length := mapD_len ha2
      have b1 := walks_take_len wfs i
      have b2 := walk_len u ((wfs_iff _).mp wfs u mu)
      refine ⟨l2, p2, acc, w2, rfl, rfl, hl4, hp2, Nat.le_trans (show acc.length + w2.length ≤ 10000 by omega) (by show 10000 ≤ sizeLine; decide), fun r nr => ?_⟩
      have s5 := same_upd (o := .lst (acc ++ w2)) nr
      refine ⟨_, r, _, rfl, (t3.trans s4).trans s5, s1.free (s2.free (t3.free (s4.free nr))), upd_same, ?_⟩
      rw [walks_take e1, ← List.cons_append, tDs_app]
      exact DpAll.append (DpAll.same (s4.trans s5) _ _ hac) (DpAll.same s5 _ _ ha2)
    · rintro σ H3 ⟨y, l2, acc, rfl, t3, n2, hl, hac⟩
      have lw : ws.length = t.parts.length := mapD_len ha
      refine ⟨_, rfl, q l2 acc H3 ((s1.trans s2).trans t3) n2 hl ?_⟩
      rw [walk_cons]
      rw [lw, List.take_length] at hac
      exact hac
/-! ### _law_by_text -/
def RwT (K : PySem.W.Frag) (H : Hp) (v : V) (t : Tm) : Prop := ∃ q x, v = .ref q ∧ H q = some (.tup [.str (strC t.txt), x]) ∧ TmAt K H x t
theorem rows_of {H : Hp} {vs : List V} {ts : List Tm} (h : Paired (RwT K H) vs ts) : ∃ (ps : List Addr) (kvs : List (L2.Key × V)), vs = ps.map V.ref ∧ Paired (fun p (kv : L2.Key × V) => SqT K H p [kV kv.1, kv.2]) ps kvs ∧ Paired (fun (kv : L2.Key × V) t => kv.1 = tk t ∧ TmAt K H kv.2 t) kvs ts := by
  induction h with
  | nil => exact ⟨[], [], rfl, .nil, .nil⟩
  | @cons v t vs ts a b ih =>
    obtain ⟨ps, kvs, rfl, h1, h2⟩ := ih
    obtain ⟨q, x, rfl, hq, hx⟩ := a
    exact ⟨q :: ps, (tk t, x) :: kvs, rfl, .cons (SqT.of hq) h1, .cons ⟨rfl, hx⟩ h2⟩
theorem TD.merge {H : Hp} {more : List (L2.Key × V)} {ts2 : List Tm} (h : Paired (fun (kv : L2.Key × V) t => kv.1 = tk t ∧ TmAt K H kv.2 t) more ts2) : ∀ {ts1 : List Tm} {kvs : List (L2.Key × V)}, TD K H ts1 kvs → WFs (ts1 ++ ts2) → TD K H (ts1 ++ ts2) (mergeK kvs more) := by
  induction h with
  | nil => intro ts1 kvs td _; rw [List.append_nil]; exact td
  | @cons kv t more ts2 a b ih =>
    intro ts1 kvs td w
    have e : ts1 ++ t :: ts2 = (ts1 ++ [t]) ++ ts2 := by simp
    rw [e] at w ⊢
    have := td.put a.2 (wfs_app.mp w).1
    rw [← a.1] at this
    exact ih this w
def spByText (K : PySem.W.Frag) : Sp := fun vs H Q _ => ∃ (a : Addr) (us : List V) (ts : List Tm), vs = [.ref a] ∧ SqL K H a us ∧ DpAll K H us (tDs ts) ∧ (∀ t ∈ ts, TOk t) ∧ ts.length ≤ 60000 ∧ (vocab ts).length < 64 ∧
  ∀ r ws H', Same H H' → H r = none → H' r = some (.lst ws) → DpAll K H' ws (tDs (vocab ts)) → Q (.ref r) H'
abbrev n47 : List Str := ["_law_row", "_law_texts", "_law_one", "_law_text_here"]
theorem sc47 : FnScope n47 ["_law_row"] (defScope (topS 47)) := ⟨rfl, rfl, rfl, by decide +kernel, rfl, by decide +kernel, by decide +kernel⟩
theorem big60 {n : Nat} (h : n ≤ 60000) : n < sizeLine := Nat.lt_of_le_of_lt h (by decide)
theorem ok_byText (D : Df K mg "_law_by_text" (topS 47) ["_law_row"]) (B : Bi mg) (FT : Fn P w K mg base 6 "_law_text" ["_law_word"] (spText K 5)) : Fn P w K mg base 7 "_law_by_text" ["_law_row"] (spByText K) := by
  refine D.ok sc47 (fun vs H Q E h => ?_) (fun f cdv A outer s H vs Q E hr h => ?_)
  · obtain ⟨a, us, ts, rfl, _⟩ := h
    rfl
  obtain ⟨a, us, ts, rfl, hS, ha, ok, hl, h64, q⟩ := h
  have hu1 := hu_of hr
  refine ⟨_, pss_cons (ps_set (i := 1) sc47.nd rfl (.inr rfl) (pe_callTy (call_dictP rfl) (by rfl) B.dict b_dict (pa_cons (pe_lc (own := [("_law_one", 2)]) (g := gName 2) (tt := tYes) (by rfl) sc47.nd (pi_list (pv 0)) (blkOk_by (own := [("_law_one", 2)]) (N := n47) (sc := defScope (topS 47)) (by decide +kernel))
      (fun _ _ _ _ _ => pg_name (i := 2) sc47.nd rfl (Or.inl rfl)) (fun _ _ _ _ _ => pts_nil) (fun _ _ _ _ _ => pe_tup (pa_cons (pe_fn FT hr (by rfl) (pa_cons (pv 2) pa_nil)) (pa_cons (pv 2) pa_nil)))) pa_nil)))
    (pss_one (ps_ret (pe_lc (own := [("_law_text_here", 3)]) (g := gName 3) (tt := tYes) (by rfl) sc47.nd (pi_list (pe_callB (call_sortedD rfl) (by rfl) B.sorted b_sorted (pa_cons (pv 1) pa_nil))) (blkOk_by (own := [("_law_text_here", 3)]) (N := n47) (sc := defScope (topS 47)) (by decide +kernel))
      (fun _ _ _ _ _ => pg_name (i := 3) sc47.nd rfl (Or.inl rfl)) (fun _ _ _ _ _ => pts_nil) (fun _ _ _ _ _ => pe_dget hu1 (pv 1) (pv 3) (fun _ _ => rfl))))), ?_⟩
  have hul : us.length = ts.length := mapD_len ha
  have wf : WFs ts := (wfs_iff _).mpr fun t ht => (ok t ht).wf
  refine ⟨_, rfl, a, rfl, ⟨_, hS⟩, fun Dl nD => ?_⟩
  refine lcR (R := RwT K) nD (src_list hS) (fun i => ts.take i) rfl (fun i _ => big60 (by rw [List.length_take]; omega)) (fun Ha Hb v t k hD x hx => ?_) (fun i x Ha F G hi sa _ hx kF kG => ?_) (fun H1 vs1 s1 hD1 hp1 => ?_)
  · obtain ⟨q', y, rfl, e, hy⟩ := hx
    have t1 : FW.TS Ha Hb := by
      intro b xs h
      rcases h with h | ⟨o, h⟩
      · exact .inl (k _ _ h (fun z => by rw [z, hD] at h; cases h))
      · exact .inr ⟨o, k _ _ h (fun z => by rw [z, hD] at h; cases h)⟩
    exact ⟨q', y, rfl, k _ _ e (fun z => by rw [z, hD] at e; cases e), TmAt.ts hy t1⟩
  · obtain ⟨t, et, ht⟩ := tDs_get (DpAll.same sa _ _ ha) hx
    have okt := ok t (List.mem_of_getElem? et)
    refine ⟨rfl, _, rfl, x, t, rfl, ht, okt.wf, okt.dp, by have := okt.sz; omega, fun H3 s3 => ?_⟩
    refine ⟨_, rfl, (by show 2 ≤ sizeLine; decide), fun p np => kF _ _ t (s3.trans (same_upd np)) ⟨p, x, rfl, upd_same, Dp.same (s3.trans (same_upd np)) _ _ ht⟩ (take_snoc et)⟩
  · rw [hul, List.take_length] at hp1
    obtain ⟨ps, kvs, rfl, h1, h2⟩ := rows_of hp1
    refine ⟨Dl, ps, kvs, rfl, SqL.of hD1, h1, fun d nd => ?_⟩
    have s2 := same_upd (o := .dK (mergeK [] kvs)) nd
    have td0 : TD K H1 ([] ++ ts) (mergeK [] kvs) := TD.merge h2 TD.nil wf
    rw [List.nil_append] at td0
    have td := td0.ts (TS.same s2)
    have hdd : (upd H1 d (.dK (mergeK [] kvs))) d = some (.dK (mergeK [] kvs)) := upd_same
    generalize mergeK [] kvs = rows at td hdd s2 ⊢
    obtain ⟨ks, ek, hk⟩ := td.keys
    have lk := td.len wf
    have lk2 : ks.length = rows.length := by have := congrArg List.length ek; simpa using this.symm
    refine ⟨_, rfl, d, rows, ks.map (fun t => strC t.txt), rfl, Rd.of hdd, by rw [ek, List.map_map]; rfl, by rw [List.length_map]; omega, fun ys p hp hs np => ?_⟩
    have ey := td.sorted wf ek hk hp hs
    subst ey
    have s3 := same_upd (o := .lst (((vocab ts).map fun t => strC t.txt).map V.str)) np
    refine ⟨p, rfl, ⟨_, SqL.of upd_same⟩, fun D2 nD2 => ?_⟩
    have len2 : (((vocab ts).map fun t => strC t.txt).map V.str).length = (vocab ts).length := by simp
    refine lcG (K := K) nD2 (src_list (SqL.of upd_same)) (fun i => tDs ((vocab ts).take i)) rfl (fun i _ => ⟨flats_tDs _, small1000 (by simp only [tDs, List.length_map, List.length_take]; omega)⟩) (fun i x H4 F G hi s4 _ hx kF kG => ?_) (fun H4 vs4 s4 hD4 ha4 => ?_)
    · rw [len2] at hi
      have ei : (vocab ts)[i]? = some (vocab ts)[i] := List.getElem?_eq_getElem hi
      have hx' : x = .str (strC ((vocab ts)[i]).txt) := by
        rw [List.getElem?_map, List.getElem?_map, ei] at hx
        simpa using hx.symm
      subst hx'
      obtain ⟨v, ev, hv⟩ := td.val _ (((vocab_is _ wf).mem _).mp (List.getElem_mem hi))
      refine ⟨rfl, _, rfl, _, rfl, d, v, rfl, ?_, kF _ _ _ (Same.refl _) ((hv.ts (TS.same s3)).ts (TS.same s4)) ?_⟩
      · have := DGet.k (k := tk (vocab ts)[i]) (s4 _ _ (s3 _ _ hdd))
        rw [ev] at this
        exact this
      · rw [take_snoc ei, tDs_app]; rfl
    · refine q D2 vs4 H4 (((s1.trans s2).trans s3).trans s4) (s1.free (s2.free (s3.free nD2))) hD4 ?_
      rw [len2, List.take_length] at ha4
      exact ha4
end
end FD
end T_E1

section T_E2
set_option Elab.async false
set_option linter.all false
set_option maxRecDepth 100000
/-! The law: pairs, words, index, long. -/
namespace FD
open PySem L2 FF FW
section
variable {P : Program} {w : World} {K : PySem.W.Frag} {mg : Str → Option Value} {base : Heap}
/-! ### _law_pairs -/
abbrev n48 : List Str := ["_law_premises_here", "_law_aim", "_law_name", "_law_left", "_law_right"]
theorem sc48 : FnScope n48 ["_law_premises_here", "_law_aim"] (defScope (topS 48)) := ⟨rfl, rfl, rfl, by decide +kernel, rfl, by decide +kernel, by decide +kernel⟩
theorem ok_lpairs (D : Df K mg "_law_pairs" (topS 48) ["_law_premises_here", "_law_aim"]) : Fn P w K mg base 1 "_law_pairs" ["_law_premises_here", "_law_aim"] (spPairsIn K) := by
  refine D.ok sc48 (fun vs H Q E h => ?_) (fun f cdv A outer s H vs Q E hr h => ?_)
  · obtain ⟨a, g, us, rs, p, rfl, _⟩ := h
    rfl
  obtain ⟨a, g, us, rs, p, rfl, hS, ha, hg, hl, q⟩ := h
  refine ⟨_, pss_one (ps_ret (pe_op op_cat (pe_lc (own := [("_law_name", 2), ("_law_left", 3), ("_law_right", 4)]) (tt := tYes) (by rfl) sc48.nd (pi_list (pv 0)) (blkOk_by (own := [("_law_name", 2), ("_law_left", 3), ("_law_right", 4)]) (N := n48) (sc := defScope (topS 48)) (by decide +kernel))
      (fun _ _ _ _ _ => pg_tupK K 3 rfl (pgs_cons (pg_name (i := 2) sc48.nd rfl (.inl rfl)) (pgs_cons (pg_name (i := 3) sc48.nd rfl (.inl rfl)) (pgs_cons (pg_name (i := 4) sc48.nd rfl (.inl rfl)) pgs_nil)))) (fun _ _ _ _ _ => pts_nil) (fun _ _ _ _ _ => pe_tup (pa_cons (pv 3) (pa_cons (pv 4) pa_nil))))
    (pe_lst (pa_cons (pv 1) pa_nil)))), ?_⟩
  have hul := mapD_len ha
  refine ⟨_, rfl, a, rfl, ⟨_, hS⟩, fun Dl nD => ?_⟩
  refine lcG (K := K) nD (src_list hS) (fun i => ((rs.take i).map (·.2)).map prD2) rfl (fun i _ => ⟨flats_map flat_prD2 _, small1000 (by simp only [List.length_map, List.length_take]; omega)⟩) (fun i x H2 F G hi s2 _ hx kF kG => ?_) (fun H2 vs2 s2 hD2 ha2 => ?_)
  · obtain ⟨r, er, hr⟩ := mapD_get (DpAll.same s2 _ _ ha) hx
    obtain ⟨t, x1, y1, rfl, ht, h1, h2⟩ := rl_inv hr
    refine ⟨t, _, rfl, ht, rfl, _, _, rfl, _, _, rfl, _, _, rfl, rfl, rfl, ?_⟩
    refine ⟨_, rfl, _, rfl, (by show 2 ≤ sizeLine; decide), fun p2 np2 => ?_⟩
    have s3 := same_upd (o := .tup [x1, y1]) np2
    refine kF _ _ (prD2 r.2) s3 (Dp.mk np2 (.cons h1 (.cons h2 .nil))) ?_
    rw [take_snoc er, List.map_append, List.map_append]; rfl
  · refine ⟨_, rfl, (by show 1 ≤ sizeLine; decide), fun p2 np2 => ?_⟩
    have s3 := same_upd (o := .lst [g]) np2
    have l2 := mapD_len ha2
    have lv : vs2.length = rs.length := by rw [l2]; simp only [List.length_map, List.length_take]; omega
    refine ⟨Dl, p2, vs2, [g], rfl, rfl, s3 _ _ hD2, upd_same, small (by simp only [List.length_cons, List.length_nil]; omega), fun r nr => ?_⟩
    have s4 := s3.trans (same_upd (o := .lst (vs2 ++ [g])) nr)
    refine q r _ _ (s2.trans s4) ((s2.trans s3).free nr) upd_same ?_
    rw [rpairs, List.map_append]
    rw [hul, List.take_length] at ha2
    exact DpAll.append (DpAll.same s4 _ _ ha2) (.cons (Dp.same (s2.trans s4) _ _ hg) .nil)
/-! ### _law_words -/
def spLWords (K : PySem.W.Frag) : Sp := fun vs H Q _ => ∃ (a : Addr) (us : List V) (ps : List (Tm × Tm)), vs = [.ref a] ∧ SqL K H a us ∧ DpAll K H us (ps.map prD2) ∧ (∀ p ∈ ps, POk p) ∧ ps.length ≤ 600 ∧ (wordsOf ps).length < 64 ∧
  ∀ r ws H', Same H H' → H r = none → H' r = some (.lst ws) → DpAll K H' ws (tDs (wordsOf ps)) → Q (.ref r) H'
abbrev n49 : List Str := ["_law_pairs_here", "_law_found", "_law_left", "_law_right"]
theorem sc49 : FnScope n49 ["_law_pairs_here"] (defScope (topS 49)) := ⟨rfl, rfl, rfl, by decide +kernel, rfl, by decide +kernel, by decide +kernel⟩
theorem ok_lwords (D : Df K mg "_law_words" (topS 49) ["_law_pairs_here"]) (FW_ : Fn P w K mg base 6 "_law_walk" ["_law_word"] (spWalked K 5)) (FB : Fn P w K mg base 7 "_law_by_text" ["_law_row"] (spByText K)) : Fn P w K mg base 8 "_law_words" ["_law_pairs_here"] (spLWords K) := by
  refine D.ok sc49 (fun vs H Q E h => ?_) (fun f cdv A outer s H vs Q E hr h => ?_)
  · obtain ⟨a, us, ps, rfl, _⟩ := h
    rfl
  obtain ⟨a, us, ps, rfl, hS, ha, ok, hl, h64, q⟩ := h
  have hr6 : Room 6 _ := hr.mono (by decide)
  refine ⟨_, pss_cons (ps_set (i := 1) sc49.nd rfl (.inl rfl) (pe_lst pa_nil))
    (pss_cons (ps_for PassesOwn.never rfl (pi_list (pv 0)) (pg_tup rfl (pgs_cons (pg_name (i := 2) sc49.nd rfl (.inl rfl)) (pgs_cons (pg_name (i := 3) sc49.nd rfl (.inl rfl)) pgs_nil)))
      (pss_one (ps_set (i := 1) sc49.nd rfl (.inl rfl) (pe_op op_cat (pe_op op_cat (pv 1) (pe_fn FW_ hr6 (by rfl) (pa_cons (pv 2) pa_nil))) (pe_fn FW_ hr6 (by rfl) (pa_cons (pv 3) pa_nil))))))
    (pss_one (ps_ret (pe_fn FB hr (by rfl) (pa_cons (pv 1) pa_nil))))), ?_⟩
  have hul := mapD_len ha
  refine ⟨(by show 0 ≤ sizeLine; decide), fun l nl => ?_⟩
  have s1 := same_upd (o := .lst []) nl
  refine ⟨_, rfl, a, rfl, ⟨_, s1.seq hS⟩, for_list (K := K) (a := a) (xs := us) (fun i σ H3 => ∃ x y l2 acc, σ = [some (.ref a), some (.ref l2), x, y] ∧ Same H H3 ∧ H3 l2 = some (.lst acc) ∧ DpAll K H3 acc (tDs (pairTs (ps.take i))))
    ⟨none, none, l, [], rfl, s1, upd_same, .nil⟩ (fun i σ H3 _ ⟨_, _, _, _, _, t3, _⟩ => t3.seq hS) ?_ ?_⟩
  · rintro i x σ H3 hx ⟨y0, z0, l2, acc, rfl, t3, hl2, hac⟩
    have hi : i < us.length := (List.getElem?_eq_some_iff.mp hx).1
    obtain ⟨p, ep, hp⟩ := mapD_get (DpAll.same t3 _ _ ha) hx
    have okp := ok p (List.mem_of_getElem? ep)
    obtain ⟨t, x1, y1, rfl, ht, h1, h2⟩ := pr_inv hp
    refine ⟨t, _, rfl, ht, rfl, _, _, rfl, _, _, rfl, rfl, ?_⟩
    have lacc : acc.length ≤ 60000 := by
      rw [mapD_len hac]
      have := pairTs_len (ps.take i) fun q hq => ok q (List.mem_of_mem_take hq)
      have l2 : (ps.take i).length ≤ 600 := by rw [List.length_take]; omega
      omega
    refine ⟨_, rfl, _, rfl, x1, p.1, rfl, h1, okp.l.wf, okp.l.dp, by have := okp.l.sz; omega, fun r1 w1 H4 s4 nr1 hr1 ha1 => ?_⟩
    have lw1 : w1.length ≤ 47 := by rw [mapD_len ha1]; exact walkOk okp.l
    refine ⟨l2, r1, acc, w1, rfl, rfl, s4 _ _ hl2, hr1, Nat.le_trans (show acc.length + w1.length ≤ 70000 by omega) (by show 70000 ≤ sizeLine; decide), fun r2 nr2 => ?_⟩
    have s5 := same_upd (o := .lst (acc ++ w1)) nr2
    refine ⟨_, rfl, y1, p.2, rfl, Dp.same (s4.trans s5) _ _ h2, okp.r.wf, okp.r.dp, by have := okp.r.sz; omega, fun r3 w3 H6 s6 nr3 hr3 ha3 => ?_⟩
    have lw3 : w3.length ≤ 47 := by rw [mapD_len ha3]; exact walkOk okp.r
    refine ⟨r2, r3, acc ++ w1, w3, rfl, rfl, s6 _ _ upd_same, hr3, Nat.le_trans (show (acc ++ w1).length + w3.length ≤ 70000 by rw [List.length_append]; omega) (by show 70000 ≤ sizeLine; decide), fun r4 nr4 => ?_⟩
    have s7 := same_upd (o := .lst (acc ++ w1 ++ w3)) nr4
    refine ⟨_, _, r4, _, rfl, t3.trans (s4.trans (s5.trans (s6.trans s7))), upd_same, ?_⟩
    rw [pairTs_take ep, ← List.append_assoc, tDs_app, tDs_app]
    exact DpAll.append (DpAll.append (DpAll.same (s4.trans (s5.trans (s6.trans s7))) _ _ hac) (DpAll.same (s5.trans (s6.trans s7)) _ _ ha1)) (DpAll.same s7 _ _ ha3)
  · rintro σ H3 ⟨y0, z0, l2, acc, rfl, t3, hl2, hac⟩
    rw [hul, List.take_length] at hac
    have lp := pairTs_len ps ok
    refine ⟨_, rfl, l2, acc, pairTs ps, rfl, SqL.of hl2, hac, fun t ht => pairTs_ok ok ht, by omega, h64, fun r ws H4 s4 nr hr4 ha4 => q r ws H4 (t3.trans s4) (t3.free nr) hr4 ha4⟩
/-! ### _law_index -/
def spIndex (K : PySem.W.Frag) : Sp := fun vs H Q _ => ∃ (i n : Nat), vs = [.int i, .int n] ∧ i < n ∧ ∀ H', Same H H' → Q (.bl true) H'
theorem sc58 : FnScope ["_law_one", "_law_at"] ["_law_one", "_law_at"] (defScope (topS 58)) := ⟨rfl, rfl, rfl, by decide +kernel, rfl, by decide +kernel, by decide +kernel⟩
theorem ok_index (D : Df K mg "_law_index" (topS 58) ["_law_one", "_law_at"]) (B : Bi mg) : Fn P w K mg base 1 "_law_index" ["_law_one", "_law_at"] (spIndex K) := by
  refine D.ok sc58 (fun vs H Q E h => ?_) (fun f cdv A outer s H vs Q E hr h => ?_)
  · obtain ⟨i, n, rfl, _⟩ := h
    rfl
  obtain ⟨i, n, rfl, hi, q⟩ := h
  refine ⟨_, pss_one (ps_ret (pe_and (pe_callB (call_isD K) (by rfl) B.isi b_isi (pa_cons (pv 0) (pa_cons (pe_bltn (v := .ty "int") (by rfl) B.int b_int rfl) pa_nil)))
    (pe_and (pe_not (pe_callB (call_isD K) (by rfl) B.isi b_isi (pa_cons (pv 0) (pa_cons (pe_bltn (v := .ty "bool") (by rfl) B.bool b_bool rfl) pa_nil))))
    (pe_one (pe_chain op_le op_lt pe_int (pv 0) (pv 1)))))), ?_⟩
  refine ⟨_, rfl, _, "int", _, _, rfl, .int _, k_ii, _, rfl, iteT ?_⟩
  refine ⟨_, rfl, _, "bool", _, _, rfl, .int _, k_ib, _, rfl, _, rfl, iteT ?_⟩
  refine ⟨_, rfl, _, _, rfl, rfl, _, rfl, ?_⟩
  rw [decide_eq_true (show (0 : Int) ≤ (i : Nat) by omega)]
  refine iteT ⟨_, rfl, _, _, rfl, rfl, ?_⟩
  show Q (.bl (decide (((i : Nat) : Int) < ((n : Nat) : Int)))) H
  rw [decide_eq_true (show ((i : Nat) : Int) < ((n : Nat) : Int) by omega)]
  exact q H (Same.refl _)
/-! ### _law_long -/
def spLong (K : PySem.W.Frag) (n : Nat) : Sp := fun vs H Q _ => ∃ v t m, vs = [v, .int m] ∧ TmAt K H v t ∧ t.WF ∧ t.depth ≤ n ∧ (t.depth : Int) ≤ m ∧ t.size ≤ 1000 ∧ ∀ H', Same H H' → Q (.bl true) H'
abbrev n59 : List Str := ["_law_word", "_law_deep", "_law_one"]
theorem sc59 : FnScope n59 ["_law_word", "_law_deep"] (defScope (topS 59)) := ⟨rfl, rfl, rfl, by decide +kernel, rfl, by decide +kernel, by decide +kernel⟩
theorem ops_dp {H : Hp} {p : Addr} : Dp K (L2.upd H p (.tup [.str "&", .str "|"])) (.ref p) (.tuple opsD) := .tup (SqT.of upd_same) (.cons (.str _) (.cons (.str _) .nil))
theorem ok_long (D : Df K mg "_law_long" (topS 59) ["_law_word", "_law_deep"]) (B : Bi mg) :
    ∀ n, Fn P w K mg base (n + 1) "_law_long" ["_law_word", "_law_deep"] (spLong K n)
  | 0 => D.none fun vs H Q E ⟨v, t, m, _, _, _, h, _⟩ => by have := depth_pos t; omega
  | n + 1 => by
    have ih := ok_long D B n
    refine D.ok sc59 (fun vs H Q E h => ?_) (fun f cdv A outer s H vs Q E hr h => ?_)
    · obtain ⟨v, t, m, rfl, _⟩ := h
      rfl
    obtain ⟨v, t, m, rfl, ht, wf, hd, hm, hz, q⟩ := h
    have hu := hr.units
    refine ⟨_, pss_cons (ps_if (pt_val (pe_callB (call_isD K) (by rfl) B.isi b_isi (pa_cons (pv 0) (pa_cons (pe_bltn (v := .ty "str") (by rfl) B.str b_str rfl) pa_nil)))) (pss_one (ps_ret (pe_and (pe_cmpR op_eq (pe_callB call_len (by rfl) B.len b_len (pa_cons (pv 0) pa_nil)) pe_int (nomark _)) (pe_one (pe_cmpR op_in_sign (pv 0) pe_str rfl))))) pss_nil)
      (pss_cons (ps_if (PW.pt (pw_or (pt_cmpR op_lt (pv 1) pe_int (nomark _)) (pw_or (pt_not (pt_val (pe_callB (call_isD K) (by rfl) B.isi b_isi (pa_cons (pv 0) (pa_cons (pe_bltn (v := .ty "tuple") (by rfl) B.tup b_tup rfl) pa_nil)))))
          (pw_or (pt_cmpR op_lt (pe_callB call_len (by rfl) B.len b_len (pa_cons (pv 0) pa_nil)) pe_int (nomark _))
          (pw_or1 (pt_cmpR (op_notInP hu) (pe_ix ix_tup (pv 0) pe_int (fun _ _ => rfl)) (pe_tup (pa_cons pe_str (pa_cons pe_str pa_nil))) (by rfl))))))) (pss_one (ps_ret pe_bl)) pss_nil)
      (pss_one (ps_ret (pe_callB (cr_all rfl) (by rfl) B.all b_all (pa_cons (pe_lc (own := [("_law_one", 2)]) (g := gName 2) (tt := tYes) (by rfl) sc59.nd (pi_tup (pe_slice sl_tup (pv 0) (po_some pe_int) po_none)) (blkOk_by (own := [("_law_one", 2)]) (N := n59) (sc := defScope (topS 59)) (by decide +kernel))
          (fun _ _ _ _ _ => pg_name (i := 2) sc59.nd rfl (Or.inl rfl)) (fun _ _ _ _ _ => pts_nil) (fun _ _ _ _ _ => pe_fn ih hr (by rfl) (pa_cons (pv 2) (pa_cons (pe_op op_sub (pv 1) pe_int) pa_nil)))) pa_nil))))), ?_⟩
    rcases TmAt.cases ht with ⟨c, rfl, rfl⟩ | ⟨op, ts, p, vs, rfl, rfl, hp, ha⟩
    · refine ⟨_, rfl, _, "str", _, _, rfl, .str _, k_ss, _, rfl, iteT ?_⟩
      refine ⟨_, rfl, _, 1, rfl, ⟨by show 1 ≤ sizeLine; decide, rfl⟩, rfl, _, rfl, iteT ?_⟩
      refine ⟨_, rfl, c, _, rfl, rfl, ?_⟩
      rw [decide_eq_true (letter_in wf)]
      exact q H (Same.refl _)
    · refine ⟨_, rfl, _, "str", _, _, rfl, dp_node ht, k_ts, _, rfl, iteF ?_⟩
      have wl : 2 ≤ ts.length ∧ WFs ts := wf
      have hl : vs.length = ts.length := mapD_len ha
      have hdt : depths ts + 1 ≤ n + 1 := hd
      have hmt : ((depths ts + 1 : Nat) : Int) ≤ m := hm
      have sm : sizes ts ≤ 1000 := hz
      have le := sizes_len wl.2
      have d2 : 1 ≤ depths ts := by
        cases ts with
        | nil => simp at wl
        | cons u us => simp only [depths]; have := depth_pos u; omega
      refine ⟨_, rfl, _, _, rfl, rfl, _, rfl, ?_⟩
      rw [decide_eq_false (show ¬ m < 2 by omega)]
      refine iteF ⟨_, rfl, _, "tuple", _, _, rfl, dp_node ht, k_tt, _, rfl, iteF ?_⟩
      refine ⟨_, rfl, _, _, rfl, .inr ⟨_, hp, rfl⟩, _, _, rfl, rfl, _, rfl, ?_⟩
      rw [decide_eq_false (show ¬ (((V.str (opS op) :: vs).length : Nat) : Int) < 3 by rw [List.length_cons, hl]; omega)]
      refine iteF ?_
      refine ⟨_, rfl, p, _, _, _, rfl, rfl, hp, atI_nat (j := 0) rfl, (by show 2 ≤ sizeLine; decide), fun p0 np0 => ⟨_, opsD, .str _, .inr ops_dp, sh_str _, by simp [opsD, PyData.plainAll, PyData.plain], _, rfl, ?_⟩⟩
      rw [op_known]
      have s0 := same_upd (o := .tup [V.str "&", .str "|"]) np0
      refine iteF ⟨_, rfl, ⟨1, rfl, p, _, rfl, SqT.same s0 hp, tail_ne _ _, fun p1 np1 => ?_⟩⟩
      rw [cut_tail]
      have s1 := s0.trans (same_upd (o := .tup vs) np1)
      refine ⟨p1, rfl, ⟨_, SqT.of upd_same⟩, fun Dl nD => ?_⟩
      refine lcB nD (src_tup (SqT.of upd_same)) (fun i => List.replicate i (V.bl true)) rfl (fun i _ => small1000 (by rw [List.length_replicate]; omega)) (fun i x H2 F G hi s2 _ hx kF kG => ?_) (fun H2 s2 hD => ?_)
      · obtain ⟨t, e1, htx⟩ := tDs_get (DpAll.same (s1.trans s2) _ _ ha) hx
        have mt : t ∈ ts := List.mem_of_getElem? e1
        refine ⟨rfl, _, rfl, _, rfl, _, _, rfl, rfl, x, t, _, rfl, htx, (wfs_iff ts).mp wl.2 t mt, depths_mem (by omega) mt, ?_, ?_, fun H3 s3 => kF _ _ s3 (replicate_snoc _ _)⟩
        · have := depths_mem (Nat.le_refl _) mt; omega
        · have := sizes_mem mt; omega
      · rw [bls_true] at hD
        refine ⟨_, _, rfl, SqL.of hD, ?_⟩
        rw [all_true]
        exact q H2 (s1.trans s2)
end
end FD
end T_E2

section T_F1
set_option Elab.async false
set_option linter.all false
set_option maxRecDepth 100000
set_option maxHeartbeats 2000000
/-! The law: steps that are right. -/
namespace FD
open PySem L2 FF FW
theorem ne_oi : ¬ ("out" : Str) = "into" := by decide +kernel
/-- what the steps are made of -/
def SOkT (S : List Stp) : Prop := ∀ x ∈ S, TOk x.l ∧ TOk x.r
section
variable {P : Program} {w : World} {K : PySem.W.Frag} {mg : Str → Option Value} {base : Heap}
def spMany (K : PySem.W.Frag) : Sp := fun vs H Q _ => ∃ (a : Addr) (us : List V) (S : List Stp) (rs : List Rl) (k : Nat) (y : V) (x : Stp) (is : List Nat), vs = [.ref a, .int k, y] ∧ SqL K H a us ∧ DpAll K H us (S.map stpD) ∧ SOkT S ∧ S[k]? = some x ∧ StpOk rs S k x ∧ (x.w = .into is ∨ x.w = .out is) ∧ Dp K H y (.tuple (is.map fun n => .int (n : Nat))) ∧ ∀ H', Same H H' → Q (.bl true) H'
abbrev n60 : List Str := ["_law_steps", "_law_at", "_law_indexes", "_law_left", "_law_right", "_law_reason", "_law_whole", "_law_sign", "_law_due", "_law_one"]
theorem sc60 : FnScope n60 ["_law_steps", "_law_at", "_law_indexes"] (defScope (topS 60)) := ⟨rfl, rfl, rfl, by decide +kernel, rfl, by decide +kernel, by decide +kernel⟩
theorem ok_many (D : Df K mg "_law_many_right" (topS 60) ["_law_steps", "_law_at", "_law_indexes"]) (B : Bi mg) (FI : Fn P w K mg base 1 "_law_index" ["_law_one", "_law_at"] (spIndex K)) : Fn P w K mg base 2 "_law_many_right" ["_law_steps", "_law_at", "_law_indexes"] (spMany K) := by
  refine D.ok sc60 (fun vs H Q E h => ?_) (fun f cdv A outer s H vs Q E hr h => ?_)
  · obtain ⟨a, us, S, rs, k, y, x, is, rfl, _⟩ := h
    rfl
  obtain ⟨a, us, S, rs, k, y, x, is, rfl, hS, ha, okS, ex, so, ew, hy, q⟩ := h
  have hu := hr.units
  refine ⟨_, pss_cons (ps_asg (pe_ix ix_list (pv 0) (pv 1) (fun _ _ => rfl)) (pg_tup rfl (pgs_cons (pg_name (i := 3) sc60.nd rfl (.inr rfl)) (pgs_cons (pg_name (i := 4) sc60.nd rfl (.inr rfl)) (pgs_cons (pg_name (i := 5) sc60.nd rfl (.inl rfl)) pgs_nil)))))
    (pss_cons (ps_asg (pe_ifExp (pt_cmpR op_eq (pe_ix ix_tup (pv 5) pe_int (fun _ _ => rfl)) pe_str (nomark _)) (pe_tup (pa_cons (pv 4) (pa_cons pe_str pa_nil))) (pe_tup (pa_cons (pv 3) (pa_cons pe_str pa_nil)))) (pg_tup rfl (pgs_cons (pg_name (i := 6) sc60.nd rfl (.inl rfl)) (pgs_cons (pg_name (i := 7) sc60.nd rfl (.inr rfl)) pgs_nil))))
    (pss_cons (ps_if (PW.pt (pw_or (pt_val (pe_callB (call_isD K) (by rfl) B.isi b_isi (pa_cons (pv 6) (pa_cons (pe_bltn (v := .ty "str") (by rfl) B.str b_str rfl) pa_nil)))) (pw_or (pt_cmpR op_ne (pe_ix ix_tup (pv 6) pe_int (fun _ _ => rfl)) (pv 7) (nomark _))
        (pw_or1 (pt_not (pt_val (pe_callB (call_isD K) (by rfl) B.isi b_isi (pa_cons (pv 2) (pa_cons (pe_bltn (v := .ty "tuple") (by rfl) B.tup b_tup rfl) pa_nil))))))))) (pss_one (ps_ret pe_bl)) pss_nil)
    (pss_cons (ps_if (PW.pt (pw_or (pt_cmpR op_ne (pe_callB call_len (by rfl) B.len b_len (pa_cons (pv 2) pa_nil)) (pe_op op_sub (pe_callB call_len (by rfl) B.len b_len (pa_cons (pv 6) pa_nil)) pe_int) (nomark _))
        (pw_or1 (pt_not (pt_val (pe_callB (cr_all rfl) (by rfl) B.all b_all (pa_cons (pe_lc (own := [("_law_one", 9)]) (g := gName 9) (tt := tYes) (by rfl) sc60.nd (pi_tup (pv 2)) (blkOk_by (own := [("_law_one", 9)]) (N := n60) (sc := defScope (topS 60)) (by decide +kernel))
          (fun _ _ _ _ _ => pg_name (i := 9) sc60.nd rfl (Or.inl rfl)) (fun _ _ _ _ _ => pts_nil) (fun _ _ _ _ _ => pe_fn FI hr (by rfl) (pa_cons (pv 9) (pa_cons (pv 1) pa_nil)))) pa_nil))))))) (pss_one (ps_ret pe_bl)) pss_nil)
    (pss_cons (ps_setLc (i := 8) (own := [("_law_one", 9)]) (g := gName 9) (tt := tYes) (by rfl) sc60.nd rfl rfl (sw_true rfl rfl rfl (by decide +kernel)) (pi_tup (pe_slice sl_tup (pv 6) (po_some pe_int) po_none)) (blkOk_by (own := [("_law_one", 9)]) (N := n60) (sc := defScope (topS 60)) (by decide +kernel))
          (fun _ _ _ _ _ => pg_name (i := 9) sc60.nd rfl (Or.inl rfl)) (fun _ _ _ _ _ => pts_nil) (fun _ _ _ _ _ => pe_ifExp (pt_cmpR op_eq (pv 7) pe_str (nomark _)) (pe_tup (pa_cons (pv 3) (pa_cons (pv 9) pa_nil))) (pe_tup (pa_cons (pv 9) (pa_cons (pv 4) pa_nil)))))
    (pss_one (ps_ret (pe_cmpR (op_eqP hu) (pe_lc (own := [("_law_one", 9)]) (g := gName 9) (tt := tYes) (by rfl) sc60.nd (pi_tup (pv 2)) (blkOk_by (own := [("_law_one", 9)]) (N := n60) (sc := defScope (topS 60)) (by decide +kernel))
          (fun _ _ _ _ _ => pg_name (i := 9) sc60.nd rfl (Or.inl rfl)) (fun _ _ _ _ _ => pts_nil) (fun _ _ _ _ _ => pe_slice (sl_tupK K) (pe_ix (ix_listK K) (pv 0) (pv 9) (fun _ _ => rfl)) po_none (po_some pe_int))) (pv 8) (nomark _)))))))), ?_⟩
  have mx : x ∈ S := List.mem_of_getElem? ex
  obtain ⟨vx, evx, hvx⟩ := FW.DpAll.get ha (i := k) (d := stpD x) (by rw [List.getElem?_map, ex]; rfl)
  obtain ⟨qx, vsx, rfl, hqx, hax⟩ := FD.Dp.tupInv hvx
  obtain ⟨vl, vr, vw, rfl, h1, h2, h3⟩ := FD.DpAll.three hax
  refine ⟨_, rfl, _, rfl, a, us, _, _, rfl, rfl, hS, atI_nat evx, qx, _, rfl, hqx, rfl, _, _, rfl, _, _, rfl, _, _, rfl, rfl, ?_⟩
  rcases ew with ew | ew
  · rw [ew] at h3
    obtain ⟨hwr, hvs3, rfl, mr, ha3⟩ := FD.Dp.tupInv h3
    obtain ⟨y0, y1, rfl, hy0, _⟩ := FD.DpAll.two ha3
    have e0 := FD.Dp.strInv hy0
    subst e0
    obtain ⟨ts, et, el, hm⟩ : ∃ ts, x.r = .node true ts ∧ is.length = ts.length ∧ ∀ (m i : Nat) (t : Tm), is[m]? = some i → ts[m]? = some t → i < k ∧ ∃ a, S[i]? = some a ∧ a.l = x.l ∧ a.r = t := by
      unfold StpOk at so
      rw [ew] at so
      exact so
    have hw : TmAt K H vr (.node true ts) := by rw [← et]; exact h2
    have okw : (Tm.node true ts).depth ≤ 5 ∧ (Tm.node true ts).size ≤ 24 ∧ (Tm.node true ts).WF := by rw [← et]; exact ⟨(okS x mx).2.dp, (okS x mx).2.sz, (okS x mx).2.wf⟩
    have wl : 2 ≤ ts.length ∧ WFs ts := okw.2.2
    have lts : ts.length ≤ 24 := by
      have := sizes_len wl.2
      have z : sizes ts ≤ 24 := okw.2.1
      omega
    have lis : is.length ≤ 24 := by omega
    obtain ⟨iv, ivs, rfl, his, hia⟩ := FD.Dp.tupInv hy
    have livs : ivs.length = is.length := mapD_len hia
    rcases TmAt.cases hw with ⟨c, e0, _⟩ | ⟨op', ts', p, vs', e0, e1, hp, hva⟩
    · cases e0
    cases e0
    subst e1
    refine ⟨_, rfl, hwr, _, _, _, rfl, rfl, mr, atI_nat (j := 0) rfl, rfl, _, rfl, ?_⟩
    rw [decide_eq_true (show V.str "into" = V.str "into" from rfl)]
    refine iteT ⟨_, rfl, (by show 2 ≤ sizeLine; decide), fun p0 np0 => ?_⟩
    have s0 := same_upd (o := .tup [V.ref p, V.str "&"]) np0
    refine ⟨p0, _, rfl, SqT.of upd_same, rfl, _, _, rfl, _, _, rfl, rfl, ?_⟩
    have hw0 := Dp.same s0 _ _ hw
    refine ⟨_, rfl, _, "str", _, _, rfl, dp_node hw0, k_ts, _, rfl, iteF ?_⟩
    refine ⟨_, rfl, p, _, _, _, rfl, rfl, SqT.same s0 hp, atI_nat (j := 0) rfl, _, rfl, rfl, _, rfl, ?_⟩
    rw [show (!decide (V.str (opS true) = V.str "&")) = false from by rw [opS_and]; rfl]
    refine iteF ⟨_, rfl, _, "tuple", _, _, rfl, Dp.same s0 _ _ hy, k_tt, _, rfl, iteF ?_⟩
    have s0' : Same H _ := s0
    refine ⟨_, rfl, _, ivs.length, rfl, .inr ⟨_, SqT.same s0 his, rfl⟩, _, rfl, _, _, rfl, .inr ⟨_, SqT.same s0 hp, rfl⟩, _, _, rfl, rfl, rfl, _, rfl, ?_⟩
    have lvs' : vs'.length = ts.length := mapD_len hva
    rw [show (!decide (V.int (ivs.length : Nat) = V.int ((((V.str (opS true) :: vs').length : Nat) : Int) - 1))) = false from by
      rw [decide_eq_true (by rw [List.length_cons, lvs', livs, el]; exact congrArg V.int (by omega))]; rfl]
    refine iteF ⟨_, rfl, iv, rfl, ⟨_, SqT.same s0 his⟩, fun D1 nD1 => ?_⟩
    refine lcB nD1 (src_tup (SqT.same s0 his)) (fun i => List.replicate i (V.bl true)) rfl (fun i _ => small1000 (by rw [List.length_replicate]; omega)) (fun i z H2 F G hi s2 _ hz kF kG => ?_) (fun H2 s2 hD => ?_)
    · obtain ⟨n, en, hn⟩ := mapD_get hia hz
      cases hn
      obtain ⟨t, et'⟩ : ∃ t, ts[i]? = some t := ⟨ts[i]'(by omega), List.getElem?_eq_getElem _⟩
      refine ⟨rfl, _, rfl, _, rfl, n, k, rfl, (hm i n t en et').1, fun H3 s3 => kF _ _ s3 (replicate_snoc _ _)⟩
    rw [bls_true] at hD
    refine ⟨D1, _, rfl, SqL.of hD, _, rfl, ?_⟩
    rw [all_true]
    refine iteF ?_
    -- due
    have s02 := s0.trans s2
    refine ⟨_, rfl, ⟨1, rfl, p, _, rfl, SqT.same s02 hp, tail_ne _ _, fun p3 np3 => ?_⟩⟩
    rw [cut_tail]
    have s3 := same_upd (o := .tup vs') np3
    have s03 := s02.trans s3
    refine ⟨p3, rfl, ⟨_, SqT.of upd_same⟩, fun D4 nD4 => ?_⟩
    refine lcG (K := K) nD4 (src_tup (SqT.of upd_same)) (fun i => (ts.take i).map fun t => prD2 (x.l, t)) rfl (fun i _ => ⟨flats_map (fun t => flat_prD2 (x.l, t)) _, small1000 (by rw [List.length_map, List.length_take]; omega)⟩) (fun i z H5 F G hi s5 _ hz kF kG => ?_) (fun H5 dv s5 hD5 hd5 => ?_)
    · obtain ⟨t, et', ht⟩ := tDs_get (DpAll.same (s03.trans s5) _ _ hva) hz
      refine ⟨rfl, _, rfl, rfl, _, rfl, ?_⟩
      rw [decide_eq_true (show V.str "&" = V.str "&" from rfl)]
      refine iteT ⟨_, rfl, _, rfl, (by show 2 ≤ sizeLine; decide), fun p6 np6 => kF _ _ _ (same_upd np6) (Dp.mk np6 (.cons (Dp.same (s03.trans s5) _ _ h1) (.cons ht .nil))) ?_⟩
      exact take_map_snoc (fun t => prD2 (x.l, t)) et'
    rw [lvs', List.take_length] at hd5
    have s05 := s03.trans s5
    refine ⟨_, rfl, iv, rfl, ⟨_, SqT.same s05 his⟩, fun D6 nD6 => ?_⟩
    refine lcG (K := K) nD6 (src_tup (SqT.same s05 his)) (fun i => (ts.take i).map fun t => prD2 (x.l, t)) rfl (fun i _ => ⟨flats_map (fun t => flat_prD2 (x.l, t)) _, small1000 (by rw [List.length_map, List.length_take]; omega)⟩) (fun i z H7 F G hi s7 _ hz kF kG => ?_) (fun H7 dv7 s7 hD7 hd7 => ?_)
    · obtain ⟨n, en, hn⟩ := mapD_get hia hz
      cases hn
      obtain ⟨t, et'⟩ : ∃ t, ts[i]? = some t := ⟨ts[i]'(by omega), List.getElem?_eq_getElem _⟩
      obtain ⟨hnk, a', ea, eal, ear⟩ := hm i n t en et'
      have s07 := s05.trans s7
      obtain ⟨v', ev', hv'⟩ := FW.DpAll.get (DpAll.same s07 _ _ ha) (i := n) (d := stpD a') (by rw [List.getElem?_map, ea]; rfl)
      obtain ⟨q', vs3, rfl, hq', hq3⟩ := FD.Dp.tupInv hv'
      obtain ⟨l3, r3, w3, rfl, d1, d2, d3⟩ := FD.DpAll.three hq3
      refine ⟨rfl, _, rfl, _, rfl, a, us, _, _, rfl, rfl, s07.seq hS, atI_nat ev', 2, rfl, q', _, rfl, hq', fun h => absurd (show (2 : Nat) = 3 from h.2) (by decide), fun p8 np8 => ?_⟩
      refine kF _ _ (prD2 (x.l, t)) (same_upd np8) ?_ (take_map_snoc (fun t => prD2 (x.l, t)) et')
      have : (prD2 (x.l, t)) = .tuple [tD a'.l, tD a'.r] := by rw [eal, ear]; rfl
      rw [this]
      exact Dp.mk np8 (.cons d1 (.cons d2 .nil))
    rw [livs, el, List.take_length] at hd7
    have shl : Sh (.list (ts.map fun t => prD2 (x.l, t))) := by
      refine sh_list (flats_map (fun t => flat_prD2 (x.l, t)) _) (Nat.le_trans (depthAll_le (n := 10) fun d hd => ?_) (by decide))
      obtain ⟨t, ht, rfl⟩ := List.mem_map.mp hd
      have b1 := tD_depth x.l
      have b2 := (okS x mx).1.dp
      have b3 := tD_depth t
      have b4 := depths_mem (Nat.le_refl (depths ts)) ht
      have b5 : depths ts + 1 ≤ 5 := okw.1
      simp only [prD2, PyData.depth, PyData.depthAll]
      omega
    refine ⟨_, rfl, _, _, .lst (SqL.of hD7) hd7, Dp.same s7 _ _ (.lst (SqL.of hD5) hd5), shl, shl, ?_⟩
    rw [show PyData.eqv (.list (ts.map fun t => prD2 (x.l, t))) (.list (ts.map fun t => prD2 (x.l, t))) = true from by
      simp only [PyData.eqv]; exact eqvs_self _ (flats_map (fun t => flat_prD2 (x.l, t)) _)]
    exact q H7 (s05.trans s7)
  · rw [ew] at h3
    obtain ⟨hwr, hvs3, rfl, mr, ha3⟩ := FD.Dp.tupInv h3
    obtain ⟨y0, y1, rfl, hy0, _⟩ := FD.DpAll.two ha3
    have e0 := FD.Dp.strInv hy0
    subst e0
    obtain ⟨ts, et, el, hm⟩ : ∃ ts, x.l = .node false ts ∧ is.length = ts.length ∧ ∀ (m i : Nat) (t : Tm), is[m]? = some i → ts[m]? = some t → i < k ∧ ∃ a, S[i]? = some a ∧ a.l = t ∧ a.r = x.r := by
      unfold StpOk at so
      rw [ew] at so
      exact so
    have hw : TmAt K H vl (.node false ts) := by rw [← et]; exact h1
    have okw : (Tm.node false ts).depth ≤ 5 ∧ (Tm.node false ts).size ≤ 24 ∧ (Tm.node false ts).WF := by rw [← et]; exact ⟨(okS x mx).1.dp, (okS x mx).1.sz, (okS x mx).1.wf⟩
    have wl : 2 ≤ ts.length ∧ WFs ts := okw.2.2
    have lts : ts.length ≤ 24 := by
      have := sizes_len wl.2
      have z : sizes ts ≤ 24 := okw.2.1
      omega
    have lis : is.length ≤ 24 := by omega
    obtain ⟨iv, ivs, rfl, his, hia⟩ := FD.Dp.tupInv hy
    have livs : ivs.length = is.length := mapD_len hia
    rcases TmAt.cases hw with ⟨c, e0, _⟩ | ⟨op', ts', p, vs', e0, e1, hp, hva⟩
    · cases e0
    cases e0
    subst e1
    refine ⟨_, rfl, hwr, _, _, _, rfl, rfl, mr, atI_nat (j := 0) rfl, rfl, _, rfl, ?_⟩
    rw [decide_eq_false (show ¬ V.str "out" = V.str "into" from fun z => ne_oi (V.str.inj z))]
    refine iteF ⟨_, rfl, (by show 2 ≤ sizeLine; decide), fun p0 np0 => ?_⟩
    have s0 := same_upd (o := .tup [V.ref p, V.str "|"]) np0
    refine ⟨p0, _, rfl, SqT.of upd_same, rfl, _, _, rfl, _, _, rfl, rfl, ?_⟩
    have hw0 := Dp.same s0 _ _ hw
    refine ⟨_, rfl, _, "str", _, _, rfl, dp_node hw0, k_ts, _, rfl, iteF ?_⟩
    refine ⟨_, rfl, p, _, _, _, rfl, rfl, SqT.same s0 hp, atI_nat (j := 0) rfl, _, rfl, rfl, _, rfl, ?_⟩
    rw [show (!decide (V.str (opS false) = V.str "|")) = false from by rw [opS_or]; rfl]
    refine iteF ⟨_, rfl, _, "tuple", _, _, rfl, Dp.same s0 _ _ hy, k_tt, _, rfl, iteF ?_⟩
    have s0' : Same H _ := s0
    refine ⟨_, rfl, _, ivs.length, rfl, .inr ⟨_, SqT.same s0 his, rfl⟩, _, rfl, _, _, rfl, .inr ⟨_, SqT.same s0 hp, rfl⟩, _, _, rfl, rfl, rfl, _, rfl, ?_⟩
    have lvs' : vs'.length = ts.length := mapD_len hva
    rw [show (!decide (V.int (ivs.length : Nat) = V.int ((((V.str (opS false) :: vs').length : Nat) : Int) - 1))) = false from by
      rw [decide_eq_true (by rw [List.length_cons, lvs', livs, el]; exact congrArg V.int (by omega))]; rfl]
    refine iteF ⟨_, rfl, iv, rfl, ⟨_, SqT.same s0 his⟩, fun D1 nD1 => ?_⟩
    refine lcB nD1 (src_tup (SqT.same s0 his)) (fun i => List.replicate i (V.bl true)) rfl (fun i _ => small1000 (by rw [List.length_replicate]; omega)) (fun i z H2 F G hi s2 _ hz kF kG => ?_) (fun H2 s2 hD => ?_)
    · obtain ⟨n, en, hn⟩ := mapD_get hia hz
      cases hn
      obtain ⟨t, et'⟩ : ∃ t, ts[i]? = some t := ⟨ts[i]'(by omega), List.getElem?_eq_getElem _⟩
      refine ⟨rfl, _, rfl, _, rfl, n, k, rfl, (hm i n t en et').1, fun H3 s3 => kF _ _ s3 (replicate_snoc _ _)⟩
    rw [bls_true] at hD
    refine ⟨D1, _, rfl, SqL.of hD, _, rfl, ?_⟩
    rw [all_true]
    refine iteF ?_
    -- due
    have s02 := s0.trans s2
    refine ⟨_, rfl, ⟨1, rfl, p, _, rfl, SqT.same s02 hp, tail_ne _ _, fun p3 np3 => ?_⟩⟩
    rw [cut_tail]
    have s3 := same_upd (o := .tup vs') np3
    have s03 := s02.trans s3
    refine ⟨p3, rfl, ⟨_, SqT.of upd_same⟩, fun D4 nD4 => ?_⟩
    refine lcG (K := K) nD4 (src_tup (SqT.of upd_same)) (fun i => (ts.take i).map fun t => prD2 (t, x.r)) rfl (fun i _ => ⟨flats_map (fun t => flat_prD2 (t, x.r)) _, small1000 (by rw [List.length_map, List.length_take]; omega)⟩) (fun i z H5 F G hi s5 _ hz kF kG => ?_) (fun H5 dv s5 hD5 hd5 => ?_)
    · obtain ⟨t, et', ht⟩ := tDs_get (DpAll.same (s03.trans s5) _ _ hva) hz
      refine ⟨rfl, _, rfl, rfl, _, rfl, ?_⟩
      rw [decide_eq_false (show ¬ V.str "|" = V.str "&" from fun z => opS_ne (V.str.inj z).symm)]
      refine iteF ⟨_, rfl, _, rfl, (by show 2 ≤ sizeLine; decide), fun p6 np6 => kF _ _ _ (same_upd np6) (Dp.mk np6 (.cons ht (.cons (Dp.same (s03.trans s5) _ _ h2) .nil))) ?_⟩
      exact take_map_snoc (fun t => prD2 (t, x.r)) et'
    rw [lvs', List.take_length] at hd5
    have s05 := s03.trans s5
    refine ⟨_, rfl, iv, rfl, ⟨_, SqT.same s05 his⟩, fun D6 nD6 => ?_⟩
    refine lcG (K := K) nD6 (src_tup (SqT.same s05 his)) (fun i => (ts.take i).map fun t => prD2 (t, x.r)) rfl (fun i _ => ⟨flats_map (fun t => flat_prD2 (t, x.r)) _, small1000 (by rw [List.length_map, List.length_take]; omega)⟩) (fun i z H7 F G hi s7 _ hz kF kG => ?_) (fun H7 dv7 s7 hD7 hd7 => ?_)
    · obtain ⟨n, en, hn⟩ := mapD_get hia hz
      cases hn
      obtain ⟨t, et'⟩ : ∃ t, ts[i]? = some t := ⟨ts[i]'(by omega), List.getElem?_eq_getElem _⟩
      obtain ⟨hnk, a', ea, eal, ear⟩ := hm i n t en et'
      have s07 := s05.trans s7
      obtain ⟨v', ev', hv'⟩ := FW.DpAll.get (DpAll.same s07 _ _ ha) (i := n) (d := stpD a') (by rw [List.getElem?_map, ea]; rfl)
      obtain ⟨q', vs3, rfl, hq', hq3⟩ := FD.Dp.tupInv hv'
      obtain ⟨l3, r3, w3, rfl, d1, d2, d3⟩ := FD.DpAll.three hq3
      refine ⟨rfl, _, rfl, _, rfl, a, us, _, _, rfl, rfl, s07.seq hS, atI_nat ev', 2, rfl, q', _, rfl, hq', fun h => absurd (show (2 : Nat) = 3 from h.2) (by decide), fun p8 np8 => ?_⟩
      refine kF _ _ (prD2 (t, x.r)) (same_upd np8) ?_ (take_map_snoc (fun t => prD2 (t, x.r)) et')
      have : (prD2 (t, x.r)) = .tuple [tD a'.l, tD a'.r] := by rw [eal, ear]; rfl
      rw [this]
      exact Dp.mk np8 (.cons d1 (.cons d2 .nil))
    rw [livs, el, List.take_length] at hd7
    have shl : Sh (.list (ts.map fun t => prD2 (t, x.r))) := by
      refine sh_list (flats_map (fun t => flat_prD2 (t, x.r)) _) (Nat.le_trans (depthAll_le (n := 10) fun d hd => ?_) (by decide))
      obtain ⟨t, ht, rfl⟩ := List.mem_map.mp hd
      have b1 := tD_depth x.r
      have b2 := (okS x mx).2.dp
      have b3 := tD_depth t
      have b4 := depths_mem (Nat.le_refl (depths ts)) ht
      have b5 : depths ts + 1 ≤ 5 := okw.1
      simp only [prD2, PyData.depth, PyData.depthAll]
      omega
    refine ⟨_, rfl, _, _, .lst (SqL.of hD7) hd7, Dp.same s7 _ _ (.lst (SqL.of hD5) hd5), shl, shl, ?_⟩
    rw [show PyData.eqv (.list (ts.map fun t => prD2 (t, x.r))) (.list (ts.map fun t => prD2 (t, x.r))) = true from by
      simp only [PyData.eqv]; exact eqvs_self _ (flats_map (fun t => flat_prD2 (t, x.r)) _)]
    exact q H7 (s05.trans s7)
end
end FD
end T_F1

section T_F2
set_option Elab.async false
set_option linter.all false
set_option maxRecDepth 100000
set_option maxHeartbeats 2000000
/-! The law: a step is right; all are. -/
namespace FD
open PySem L2 FF FW
theorem ne_sp : ¬ ("same" : Str) = "part" := by decide +kernel
theorem ne_rs : ¬ ("rule" : Str) = "same" := by decide +kernel
theorem ne_rp : ¬ ("rule" : Str) = "part" := by decide +kernel
theorem ne_is : ¬ ("into" : Str) = "same" := by decide +kernel
theorem ne_ir : ¬ ("into" : Str) = "rule" := by decide +kernel
theorem ne_or : ¬ ("out" : Str) = "rule" := by decide +kernel
def sameD : PyData := .tuple [.str "same"]
def partD : PyData := .tuple [.str "part"]
theorem one_dp {K : PySem.W.Frag} {H : Hp} {p : Addr} {z : Str} : Dp K (L2.upd H p (.tup [.str z])) (.ref p) (.tuple [.str z]) := .tup (SqT.of upd_same) (.cons (.str _) .nil)
theorem sh_one (z : Str) : Sh (.tuple [.str z]) := sh_tup (by simp [flats, flat]) (by simp [PyData.depthAll, PyData.depth])
theorem rsnD_depth (r : RsnI) : (rsnD r).depth ≤ 10 := by
  have h : ∀ is : List Nat, PyData.depthAll (is.map fun n => PyData.int (n : Nat)) ≤ 1 := fun is => depthAll_le fun d hd => by
    obtain ⟨n, _, rfl⟩ := List.mem_map.mp hd
    simp [PyData.depth]
  cases r with
  | into is => have := h is; simp only [rsnD, PyData.depth, PyData.depthAll]; omega
  | out is => have := h is; simp only [rsnD, PyData.depth, PyData.depthAll]; omega
  | _ => simp [rsnD, PyData.depth, PyData.depthAll]
theorem sh_rsnD (r : RsnI) : Sh (rsnD r) := sh_flat (flat_rsnD r) (Nat.le_trans (rsnD_depth r) (by decide))
theorem sh_t {t : Tm} (h : TOk t) : Sh (tD t) := sh_tD (Nat.le_trans h.dp (by decide))
def kindI : RsnI → Str
  | .same => "same"
  | .part => "part"
  | .rule _ => "rule"
  | .chain _ _ => "chain"
  | .into _ => "into"
  | .out _ => "out"
def argsI : RsnI → List PyData
  | .same => []
  | .part => []
  | .rule nm => [.str (strC nm)]
  | .chain i j => [.int (i : Nat), .int (j : Nat)]
  | .into is => [.tuple (is.map fun n => .int (n : Nat))]
  | .out is => [.tuple (is.map fun n => .int (n : Nat))]
theorem rsnD_eq (r : RsnI) : rsnD r = .tuple (.str (kindI r) :: argsI r) := by cases r <;> rfl
section
variable {P : Program} {w : World} {K : PySem.W.Frag} {mg : Str → Option Value} {base : Heap}
def spReason (K : PySem.W.Frag) : Sp := fun vs H Q _ => ∃ (a : Addr) (us : List V) (S : List Stp) (rs : List Rl) (k : Nat) (y : V) (x : Stp), vs = [.ref a, .int k, y] ∧ SqL K H a us ∧ DpAll K H us (S.map stpD) ∧ SOkT S ∧ S[k]? = some x ∧ StpOk rs S k x ∧ Dp K H y (.list (rs.map rlD)) ∧ (∀ r ∈ rs, ROk r) ∧ ∀ H', Same H H' → Q (.bl true) H'
abbrev n61 : List Str := ["_law_steps", "_law_at", "_law_premises_here", "_law_left", "_law_right", "_law_reason", "_law_down", "_law_one", "_law_other"]
theorem sc61 : FnScope n61 ["_law_steps", "_law_at", "_law_premises_here"] (defScope (topS 61)) := ⟨rfl, rfl, rfl, by decide +kernel, rfl, by decide +kernel, by decide +kernel⟩
theorem ok_reason (D : Df K mg "_law_reason_right" (topS 61) ["_law_steps", "_law_at", "_law_premises_here"]) (B : Bi mg) (FI : Fn P w K mg base 1 "_law_index" ["_law_one", "_law_at"] (spIndex K)) (FM : Fn P w K mg base 2 "_law_many_right" ["_law_steps", "_law_at", "_law_indexes"] (spMany K)) : Fn P w K mg base 3 "_law_reason_right" ["_law_steps", "_law_at", "_law_premises_here"] (spReason K) := by
  refine D.ok sc61 (fun vs H Q E h => ?_) (fun f cdv A outer s H vs Q E hr h => ?_)
  · obtain ⟨a, us, S, rs, k, y, x, rfl, _⟩ := h
    rfl
  obtain ⟨a, us, S, rs, k, y, x, rfl, hS, ha, okS, ex, so, hy, okr, q⟩ := h
  have hu := hr.units
  have hr1 : Room 1 _ := hr.mono (by decide)
  refine ⟨_, pss_cons (ps_asg (pe_ix ix_list (pv 0) (pv 1) (fun _ _ => rfl)) (pg_tup rfl (pgs_cons (pg_name (i := 3) sc61.nd rfl (.inl rfl)) (pgs_cons (pg_name (i := 4) sc61.nd rfl (.inl rfl)) (pgs_cons (pg_name (i := 5) sc61.nd rfl (.inl rfl)) pgs_nil)))))
    (pss_cons (ps_if (pt_cmpR (op_eqP hu) (pv 5) (pe_tup (pa_cons pe_str pa_nil)) (by rfl)) (pss_one (ps_ret (pe_cmpR (op_eqP hu) (pv 3) (pv 4) (by rfl)))) pss_nil)
    (pss_cons (ps_if (pt_cmpR (op_eqP hu) (pv 5) (pe_tup (pa_cons pe_str pa_nil)) (by rfl))
      (pss_cons (ps_set (i := 6) sc61.nd rfl (.inl rfl) (pe_and (pe_callB (call_isD K) (by rfl) B.isi b_isi (pa_cons (pv 3) (pa_cons (pe_bltn (v := .ty "tuple") (by rfl) B.tup b_tup rfl) pa_nil)))
          (pe_and (pe_cmpR op_eq (pe_ix ix_tup (pv 3) pe_int (fun _ _ => rfl)) pe_str (nomark _)) (pe_one (pe_cmpR (op_inP hu) (pv 4) (pe_slice sl_tup (pv 3) (po_some pe_int) po_none) (by rfl))))))
        (pss_one (ps_ret (pe_or (pv 6) (pe_one (pe_and (pe_callB (call_isD K) (by rfl) B.isi b_isi (pa_cons (pv 4) (pa_cons (pe_bltn (v := .ty "tuple") (by rfl) B.tup b_tup rfl) pa_nil)))
          (pe_and (pe_cmpR op_eq (pe_ix ix_tup (pv 4) pe_int (fun _ _ => rfl)) pe_str (nomark _)) (pe_one (pe_cmpR (op_inP hu) (pv 3) (pe_slice sl_tup (pv 4) (po_some pe_int) po_none) (by rfl))))))))) ) pss_nil)
    (pss_cons (ps_if (PW.pt (pw_and (pt_cmpR op_eq (pe_callB call_len (by rfl) B.len b_len (pa_cons (pv 5) pa_nil)) pe_int (nomark _)) (pw_and1 (pt_cmpR op_eq (pe_ix ix_tup (pv 5) pe_int (fun _ _ => rfl)) pe_str (nomark _)))))
      (pss_one (ps_ret (pe_cmpR (op_inP hu) (pe_tup (pa_cons (pe_ix ix_tup (pv 5) pe_int (fun _ _ => rfl)) (pa_cons (pv 3) (pa_cons (pv 4) pa_nil)))) (pv 2) (by rfl)))) pss_nil)
    (pss_cons (ps_if (PW.pt (pw_and (pt_cmpR op_eq (pe_callB call_len (by rfl) B.len b_len (pa_cons (pv 5) pa_nil)) pe_int (nomark _)) (pw_and1 (pt_cmpR (op_inP hu) (pe_ix ix_tup (pv 5) pe_int (fun _ _ => rfl)) (pe_tup (pa_cons pe_str (pa_cons pe_str pa_nil))) (by rfl)))))
      (pss_one (ps_ret (pe_fn FM hr (by rfl) (pa_cons (pv 0) (pa_cons (pv 1) (pa_cons (pe_ix ix_tup (pv 5) pe_int (fun _ _ => rfl)) pa_nil)))))) pss_nil)
    (pss_cons (ps_if (PW.pt (pw_or (pt_cmpR op_ne (pe_callB call_len (by rfl) B.len b_len (pa_cons (pv 5) pa_nil)) pe_int (nomark _)) (pw_or1 (pt_cmpR op_ne (pe_ix ix_tup (pv 5) pe_int (fun _ _ => rfl)) pe_str (nomark _))))) (pss_one (ps_ret pe_bl)) pss_nil)
    (pss_cons (ps_if (PW.pt (pw_or (pt_not (pt_val (pe_fn FI hr1 (by rfl) (pa_cons (pe_ix ix_tup (pv 5) pe_int (fun _ _ => rfl)) (pa_cons (pv 1) pa_nil))))) (pw_or1 (pt_not (pt_val (pe_fn FI hr1 (by rfl) (pa_cons (pe_ix ix_tup (pv 5) pe_int (fun _ _ => rfl)) (pa_cons (pv 1) pa_nil)))))))) (pss_one (ps_ret pe_bl)) pss_nil)
    (pss_cons (ps_par (i := 7) (j := 8) (by rfl) sc61.nd rfl rfl (by decide) rfl rfl (pa_cons (pe_ix ix_list (pv 0) (pe_ix ix_tup (pv 5) pe_int (fun _ _ => rfl)) (fun _ _ => rfl)) (pa_cons (pe_ix ix_list (pv 0) (pe_ix ix_tup (pv 5) pe_int (fun _ _ => rfl)) (fun _ _ => rfl)) pa_nil)) rfl)
    (pss_one (ps_ret (pe_and (pe_cmpR (op_eqP hu) (pe_ix ix_tup (pv 7) pe_int (fun _ _ => rfl)) (pv 3) (by rfl)) (pe_and (pe_cmpR (op_eqP hu) (pe_ix ix_tup (pv 7) pe_int (fun _ _ => rfl)) (pe_ix ix_tup (pv 8) pe_int (fun _ _ => rfl)) (by rfl))
      (pe_one (pe_cmpR (op_eqP hu) (pe_ix ix_tup (pv 8) pe_int (fun _ _ => rfl)) (pv 4) (by rfl)))))))))))))), ?_⟩
  have mx : x ∈ S := List.mem_of_getElem? ex
  obtain ⟨vx, evx, hvx⟩ := FW.DpAll.get ha (i := k) (d := stpD x) (by rw [List.getElem?_map, ex]; rfl)
  obtain ⟨qx, vsx, rfl, hqx, hax⟩ := FD.Dp.tupInv hvx
  obtain ⟨vl, vr, vw, rfl, h1, h2, h3⟩ := FD.DpAll.three hax
  refine ⟨_, rfl, _, rfl, a, us, _, _, rfl, rfl, hS, atI_nat evx, qx, _, rfl, hqx, rfl, _, _, rfl, _, _, rfl, _, _, rfl, rfl, ?_⟩
  obtain ⟨l, r, w_⟩ := x
  simp only at h1 h2 h3
  cases w_ with
  | same =>
    refine ⟨_, rfl, (by show 1 ≤ sizeLine; decide), fun p1 np1 => ?_⟩
    have tp1 := same_upd (o := .tup [V.str "same"]) np1
    have sp1 : Same H _ := tp1
    refine ⟨_, _, Dp.same sp1 _ _ h3, one_dp, sh_rsnD _, sh_one _, _, rfl, ?_⟩
    rw [show PyData.eqv (rsnD .same) (.tuple [.str "same"]) = true from eqv_self _ (flat_rsnD .same)]
    refine iteT ?_
    have so' : l = r := so
    subst so'
    refine ⟨_, rfl, _, rfl, _, _, Dp.same sp1 _ _ h1, Dp.same sp1 _ _ h2, sh_t (okS _ mx).1, sh_t (okS _ mx).1, ?_⟩
    rw [eqv_self _ (flat_tD l)]
    exact q _ sp1
  | part =>
    refine ⟨_, rfl, (by show 1 ≤ sizeLine; decide), fun p1 np1 => ?_⟩
    have tp1 := same_upd (o := .tup [V.str "same"]) np1
    have sp1 : Same H _ := tp1
    refine ⟨_, _, Dp.same sp1 _ _ h3, one_dp, sh_rsnD _, sh_one _, _, rfl, ?_⟩
    rw [show PyData.eqv (rsnD .part) (.tuple [.str "same"]) = false from eqv_ne (flat_rsnD _) (by simp [flat, flats]) (by intro h; simp only [rsnD, PyData.tuple.injEq, List.cons.injEq, PyData.str.injEq, and_true] at h; exact ne_sp h.symm)]
    refine iteF ?_
    refine ⟨_, rfl, (by show 1 ≤ sizeLine; decide), fun p2 np2 => ?_⟩
    have tp2 := same_upd (o := .tup [V.str "part"]) np2
    have sp2 : Same H _ := sp1.trans tp2
    refine ⟨_, _, Dp.same sp2 _ _ h3, one_dp, sh_rsnD _, sh_one _, _, rfl, ?_⟩
    rw [show PyData.eqv (rsnD .part) (.tuple [.str "part"]) = true from eqv_self _ (flat_rsnD .part)]
    refine iteT ?_
    rcases TmAt.cases h1 with ⟨c, rfl, rfl⟩ | ⟨op, ts0, p, vs0, rfl, rfl, hp, hva⟩
    · refine ⟨_, rfl, _, "tuple", _, _, rfl, Dp.same sp2 _ _ (dp_leaf h1), k_st, _, rfl, iteF ?_⟩
      skip
      refine ⟨_, rfl, _, rfl, iteF ?_⟩
      rcases so with ⟨ts9, el9, mr9⟩ | ⟨ts, er, ml⟩
      · cases el9
      subst er
      rcases TmAt.cases h2 with ⟨c9, e9, _⟩ | ⟨op9, ts9, p9, vs9, e9, e8, hp9, hva9⟩
      · cases e9
      cases e9
      subst e8
      refine ⟨_, rfl, _, "tuple", _, _, rfl, Dp.same sp2 _ _ (dp_node h2), k_tt, _, rfl, iteT ?_⟩
      refine ⟨_, rfl, p9, _, _, _, rfl, rfl, SqT.same sp2 hp9, atI_nat (j := 0) rfl, rfl, _, rfl, ?_⟩
      rw [decide_eq_true (show V.str (opS false) = V.str "|" by rw [opS_or])]
      refine iteT ⟨_, rfl, _, rfl, ⟨1, rfl, p9, _, rfl, SqT.same sp2 hp9, tail_ne _ _, fun p7 np7 => ?_⟩⟩
      rw [cut_tail]
      have s7 := sp2.trans (same_upd (o := .tup vs9) np7)
      refine ⟨_, _, Dp.same s7 _ _ h1, .inr (.tup (SqT.of upd_same) (DpAll.same s7 _ _ hva9)), sh_t (okS _ mx).1, flats_plain _ (flats_tDs _), ?_⟩
      rw [any_yes (flats_tDs _) (flat_tD _) (List.mem_map.mpr ⟨_, ml, rfl⟩)]
      exact q _ s7
    · refine ⟨_, rfl, _, "tuple", _, _, rfl, Dp.same sp2 _ _ (dp_node h1), k_tt, _, rfl, iteT ?_⟩
      refine ⟨_, rfl, p, _, _, _, rfl, rfl, SqT.same sp2 hp, atI_nat (j := 0) rfl, rfl, _, rfl, ?_⟩
      cases op with
      | false =>
        rw [decide_eq_false (show ¬ V.str (opS false) = V.str "&" by rw [opS_or]; exact fun z => opS_ne (V.str.inj z).symm)]
        refine iteF ?_
        skip
        refine ⟨_, rfl, _, rfl, iteF ?_⟩
        rcases so with ⟨ts9, el9, mr9⟩ | ⟨ts, er, ml⟩
        · cases el9
        subst er
        rcases TmAt.cases h2 with ⟨c9, e9, _⟩ | ⟨op9, ts9, p9, vs9, e9, e8, hp9, hva9⟩
        · cases e9
        cases e9
        subst e8
        refine ⟨_, rfl, _, "tuple", _, _, rfl, Dp.same sp2 _ _ (dp_node h2), k_tt, _, rfl, iteT ?_⟩
        refine ⟨_, rfl, p9, _, _, _, rfl, rfl, SqT.same sp2 hp9, atI_nat (j := 0) rfl, rfl, _, rfl, ?_⟩
        rw [decide_eq_true (show V.str (opS false) = V.str "|" by rw [opS_or])]
        refine iteT ⟨_, rfl, _, rfl, ⟨1, rfl, p9, _, rfl, SqT.same sp2 hp9, tail_ne _ _, fun p7 np7 => ?_⟩⟩
        rw [cut_tail]
        have s7 := sp2.trans (same_upd (o := .tup vs9) np7)
        refine ⟨_, _, Dp.same s7 _ _ h1, .inr (.tup (SqT.of upd_same) (DpAll.same s7 _ _ hva9)), sh_t (okS _ mx).1, flats_plain _ (flats_tDs _), ?_⟩
        rw [any_yes (flats_tDs _) (flat_tD _) (List.mem_map.mpr ⟨_, ml, rfl⟩)]
        exact q _ s7
      | true =>
        rw [decide_eq_true (show V.str (opS true) = V.str "&" by rw [opS_and])]
        refine iteT ⟨_, rfl, _, rfl, ⟨1, rfl, p, _, rfl, SqT.same sp2 hp, tail_ne _ _, fun p3 np3 => ?_⟩⟩
        rw [cut_tail]
        have s3 := sp2.trans (same_upd (o := .tup vs0) np3)
        refine ⟨_, _, Dp.same s3 _ _ h2, .inr (.tup (SqT.of upd_same) (DpAll.same s3 _ _ hva)), sh_t (okS _ mx).2, flats_plain _ (flats_tDs _), ?_⟩
        by_cases hm : tD r ∈ tDs ts0
        · rw [any_yes (flats_tDs _) (flat_tD _) hm]
          refine ⟨_, rfl, _, rfl, iteT ?_⟩
          exact q _ s3
        · rw [any_no (flats_tDs _) (flat_tD _) hm]
          skip
          refine ⟨_, rfl, _, rfl, iteF ?_⟩
          rcases so with ⟨ts9, el9, mr9⟩ | ⟨ts, er, ml⟩
          · cases el9; exact absurd (List.mem_map.mpr ⟨_, mr9, rfl⟩) hm
          subst er
          rcases TmAt.cases h2 with ⟨c9, e9, _⟩ | ⟨op9, ts9, p9, vs9, e9, e8, hp9, hva9⟩
          · cases e9
          cases e9
          subst e8
          refine ⟨_, rfl, _, "tuple", _, _, rfl, Dp.same s3 _ _ (dp_node h2), k_tt, _, rfl, iteT ?_⟩
          refine ⟨_, rfl, p9, _, _, _, rfl, rfl, SqT.same s3 hp9, atI_nat (j := 0) rfl, rfl, _, rfl, ?_⟩
          rw [decide_eq_true (show V.str (opS false) = V.str "|" by rw [opS_or])]
          refine iteT ⟨_, rfl, _, rfl, ⟨1, rfl, p9, _, rfl, SqT.same s3 hp9, tail_ne _ _, fun p7 np7 => ?_⟩⟩
          rw [cut_tail]
          have s7 := s3.trans (same_upd (o := .tup vs9) np7)
          refine ⟨_, _, Dp.same s7 _ _ h1, .inr (.tup (SqT.of upd_same) (DpAll.same s7 _ _ hva9)), sh_t (okS _ mx).1, flats_plain _ (flats_tDs _), ?_⟩
          rw [any_yes (flats_tDs _) (flat_tD _) (List.mem_map.mpr ⟨_, ml, rfl⟩)]
          exact q _ s7
  | rule nm =>
    refine ⟨_, rfl, (by show 1 ≤ sizeLine; decide), fun p1 np1 => ?_⟩
    have tp1 := same_upd (o := .tup [V.str "same"]) np1
    have sp1 : Same H _ := tp1
    refine ⟨_, _, Dp.same sp1 _ _ h3, one_dp, sh_rsnD _, sh_one _, _, rfl, ?_⟩
    rw [show PyData.eqv (rsnD (.rule nm)) (.tuple [.str "same"]) = false from eqv_ne (flat_rsnD _) (by simp [flat, flats]) (by simp [rsnD])]
    refine iteF ?_
    refine ⟨_, rfl, (by show 1 ≤ sizeLine; decide), fun p2 np2 => ?_⟩
    have tp2 := same_upd (o := .tup [V.str "part"]) np2
    have sp2 : Same H _ := sp1.trans tp2
    refine ⟨_, _, Dp.same sp2 _ _ h3, one_dp, sh_rsnD _, sh_one _, _, rfl, ?_⟩
    rw [show PyData.eqv (rsnD (.rule nm)) (.tuple [.str "part"]) = false from eqv_ne (flat_rsnD _) (by simp [flat, flats]) (by simp [rsnD])]
    refine iteF ?_
    obtain ⟨wr, wvs, rfl, mw, hwa⟩ := FD.Dp.tupInv h3
    obtain ⟨w0, w1, rfl, hw0, hw1⟩ := FD.DpAll.two hwa
    have e0 := FD.Dp.strInv hw0
    have e1 := FD.Dp.strInv hw1
    subst e0 e1
    have mw2 := SqT.same sp2 mw
    refine ⟨_, rfl, _, 2, rfl, .inr ⟨_, mw2, rfl⟩, rfl, _, rfl, iteT ?_⟩
    refine ⟨_, rfl, wr, _, _, _, rfl, rfl, mw2, atI_nat (j := 0) rfl, rfl, _, rfl, ?_⟩
    rw [decide_eq_true (rfl : V.str "rule" = V.str "rule")]
    refine iteT ⟨_, rfl, wr, _, _, _, rfl, rfl, mw2, atI_nat (j := 1) rfl, _, rfl, _, rfl, (by show 3 ≤ sizeLine; decide), fun p4 np4 => ?_⟩
    have s4 := sp2.trans (same_upd (o := .tup [V.str (strC nm), vl, vr]) np4)
    refine ⟨_, rfl, rlD (nm, l, r), _, .tup (SqT.of upd_same) (.cons (.str _) (.cons (Dp.same s4 _ _ h1) (.cons (Dp.same s4 _ _ h2) .nil))), .inl (Dp.same s4 _ _ hy), ?_, flats_plain _ (flats_map flat_rlD rs), ?_⟩
    · refine sh_flat (flat_rlD _) ?_
      have b1 := tD_depth l
      have b2 := tD_depth r
      have b3 := (okS _ mx).1.dp
      have b4 := (okS _ mx).2.dp
      simp only at b3 b4
      simp only [rlD, PyData.depth, PyData.depthAll]
      omega
    · rw [any_yes (flats_map flat_rlD _) (flat_rlD _) (List.mem_map.mpr ⟨_, so, rfl⟩)]
      exact q _ s4
  | chain i j =>
    refine ⟨_, rfl, (by show 1 ≤ sizeLine; decide), fun p1 np1 => ?_⟩
    have tp1 := same_upd (o := .tup [V.str "same"]) np1
    have sp1 : Same H _ := tp1
    refine ⟨_, _, Dp.same sp1 _ _ h3, one_dp, sh_rsnD _, sh_one _, _, rfl, ?_⟩
    rw [show PyData.eqv (rsnD (.chain i j)) (.tuple [.str "same"]) = false from eqv_ne (flat_rsnD _) (by simp [flat, flats]) (by simp [rsnD])]
    refine iteF ?_
    refine ⟨_, rfl, (by show 1 ≤ sizeLine; decide), fun p2 np2 => ?_⟩
    have tp2 := same_upd (o := .tup [V.str "part"]) np2
    have sp2 : Same H _ := sp1.trans tp2
    refine ⟨_, _, Dp.same sp2 _ _ h3, one_dp, sh_rsnD _, sh_one _, _, rfl, ?_⟩
    rw [show PyData.eqv (rsnD (.chain i j)) (.tuple [.str "part"]) = false from eqv_ne (flat_rsnD _) (by simp [flat, flats]) (by simp [rsnD])]
    refine iteF ?_
    obtain ⟨wr, wvs, rfl, mw, hwa⟩ := FD.Dp.tupInv h3
    obtain ⟨w0, w1, w2, rfl, hw0, hw1, hw2⟩ := FD.DpAll.three hwa
    have e0 := FD.Dp.strInv hw0
    subst e0
    cases hw1
    cases hw2
    have mw2 := SqT.same sp2 mw
    obtain ⟨x1, x2, hi, hj, ei, ej, g1, g2, g3⟩ := so
    refine ⟨_, rfl, _, 3, rfl, .inr ⟨_, mw2, rfl⟩, rfl, _, rfl, iteF ?_⟩
    refine ⟨_, rfl, _, 3, rfl, .inr ⟨_, mw2, rfl⟩, rfl, _, rfl, iteF ?_⟩
    refine ⟨_, rfl, _, 3, rfl, .inr ⟨_, mw2, rfl⟩, rfl, _, rfl, iteF ?_⟩
    refine ⟨_, rfl, wr, _, _, _, rfl, rfl, mw2, atI_nat (j := 0) rfl, rfl, _, rfl, ?_⟩
    rw [show (!decide (V.str "chain" = V.str "chain")) = false from by rw [decide_eq_true rfl]; rfl]
    refine iteF ⟨_, rfl, wr, _, _, _, rfl, rfl, mw2, atI_nat (j := 1) rfl, _, rfl, i, k, rfl, hi, fun H3 s3 => ⟨_, rfl, iteF ?_⟩⟩
    have s03 := sp2.trans s3
    refine ⟨_, rfl, wr, _, _, _, rfl, rfl, SqT.same s03 mw, atI_nat (j := 2) rfl, _, rfl, j, k, rfl, hj, fun H4 s4 => ⟨_, rfl, iteF ?_⟩⟩
    have s04 := s03.trans s4
    have mw4 := SqT.same s04 mw
    obtain ⟨v1, ev1, hv1⟩ := FW.DpAll.get (DpAll.same s04 _ _ ha) (i := i) (d := stpD x1) (by rw [List.getElem?_map, ei]; rfl)
    obtain ⟨v2, ev2, hv2⟩ := FW.DpAll.get (DpAll.same s04 _ _ ha) (i := j) (d := stpD x2) (by rw [List.getElem?_map, ej]; rfl)
    obtain ⟨q1, vs1, rfl, hq1, ha1⟩ := FD.Dp.tupInv hv1
    obtain ⟨l1, r1, u1, rfl, a1, a2, a3⟩ := FD.DpAll.three ha1
    obtain ⟨q2, vs2, rfl, hq2, ha2⟩ := FD.Dp.tupInv hv2
    obtain ⟨l2, r2, u2, rfl, b1, b2, b3⟩ := FD.DpAll.three ha2
    have o1 := okS x1 (List.mem_of_getElem? ei)
    have o2 := okS x2 (List.mem_of_getElem? ej)
    refine ⟨_, rfl, _, rfl, wr, _, _, _, rfl, rfl, mw4, atI_nat (j := 1) rfl, a, us, _, _, rfl, rfl, s04.seq hS, atI_nat ev1, ?_⟩
    refine ⟨_, rfl, _, rfl, wr, _, _, _, rfl, rfl, mw4, atI_nat (j := 2) rfl, a, us, _, _, rfl, rfl, s04.seq hS, atI_nat ev2, _, _, rfl, ?_⟩
    refine ⟨_, rfl, q1, _, _, _, rfl, rfl, hq1, atI_nat (j := 0) rfl, _, rfl, _, _, a1, Dp.same s04 _ _ h1, sh_t o1.1, sh_t (okS _ mx).1, _, rfl, ?_⟩
    rw [show PyData.eqv (tD x1.l) (tD l) = true from by rw [g1]; exact eqv_self _ (flat_tD _)]
    refine iteT ⟨_, rfl, q1, _, _, _, rfl, rfl, hq1, atI_nat (j := 1) rfl, _, rfl, q2, _, _, _, rfl, rfl, hq2, atI_nat (j := 0) rfl, _, _, a2, b1, sh_t o1.2, sh_t o2.1, _, rfl, ?_⟩
    rw [show PyData.eqv (tD x1.r) (tD x2.l) = true from by rw [g2]; exact eqv_self _ (flat_tD _)]
    refine iteT ⟨_, rfl, q2, _, _, _, rfl, rfl, hq2, atI_nat (j := 1) rfl, _, rfl, _, _, b2, Dp.same s04 _ _ h2, sh_t o2.2, sh_t (okS _ mx).2, ?_⟩
    rw [show PyData.eqv (tD x2.r) (tD r) = true from by rw [g3]; exact eqv_self _ (flat_tD _)]
    exact q H4 s04
  | into is =>
    refine ⟨_, rfl, (by show 1 ≤ sizeLine; decide), fun p1 np1 => ?_⟩
    have tp1 := same_upd (o := .tup [V.str "same"]) np1
    have sp1 : Same H _ := tp1
    refine ⟨_, _, Dp.same sp1 _ _ h3, one_dp, sh_rsnD _, sh_one _, _, rfl, ?_⟩
    rw [show PyData.eqv (rsnD (.into is)) (.tuple [.str "same"]) = false from eqv_ne (flat_rsnD _) (by simp [flat, flats]) (by simp [rsnD])]
    refine iteF ?_
    refine ⟨_, rfl, (by show 1 ≤ sizeLine; decide), fun p2 np2 => ?_⟩
    have tp2 := same_upd (o := .tup [V.str "part"]) np2
    have sp2 : Same H _ := sp1.trans tp2
    refine ⟨_, _, Dp.same sp2 _ _ h3, one_dp, sh_rsnD _, sh_one _, _, rfl, ?_⟩
    rw [show PyData.eqv (rsnD (.into is)) (.tuple [.str "part"]) = false from eqv_ne (flat_rsnD _) (by simp [flat, flats]) (by simp [rsnD])]
    refine iteF ?_
    obtain ⟨wr, wvs, rfl, mw, hwa⟩ := FD.Dp.tupInv h3
    obtain ⟨w0, w1, rfl, hw0, hw1⟩ := FD.DpAll.two hwa
    have e0 := FD.Dp.strInv hw0
    subst e0
    have mw2 := SqT.same sp2 mw
    refine ⟨_, rfl, _, 2, rfl, .inr ⟨_, mw2, rfl⟩, rfl, _, rfl, iteT ?_⟩
    refine ⟨_, rfl, wr, _, _, _, rfl, rfl, mw2, atI_nat (j := 0) rfl, rfl, _, rfl, ?_⟩
    rw [decide_eq_false (show ¬ V.str "into" = V.str "rule" from fun z => ne_ir (V.str.inj z))]
    refine iteF ⟨_, rfl, _, 2, rfl, .inr ⟨_, mw2, rfl⟩, rfl, _, rfl, iteT ?_⟩
    refine ⟨_, rfl, wr, _, _, _, rfl, rfl, mw2, atI_nat (j := 0) rfl, (by show 2 ≤ sizeLine; decide), fun p4 np4 => ⟨_, ioD, .str _, .inr io_dp, sh_str _, flats_plain _ io_flat, _, rfl, ?_⟩⟩
    rw [io_yes (.inl rfl)]
    have s4 := sp2.trans (same_upd (o := .tup [V.str "into", V.str "out"]) np4)
    refine iteT ⟨_, rfl, _, rfl, _, rfl, wr, _, _, _, rfl, rfl, SqT.same s4 mw, atI_nat (j := 1) rfl, ?_⟩
    exact ⟨a, us, S, rs, k, _, ⟨l, r, .into is⟩, is, rfl, s4.seq hS, DpAll.same s4 _ _ ha, okS, ex, so, .inl rfl, Dp.same s4 _ _ hw1, fun H5 s5 => q H5 (s4.trans s5)⟩
  | out is =>
    refine ⟨_, rfl, (by show 1 ≤ sizeLine; decide), fun p1 np1 => ?_⟩
    have tp1 := same_upd (o := .tup [V.str "same"]) np1
    have sp1 : Same H _ := tp1
    refine ⟨_, _, Dp.same sp1 _ _ h3, one_dp, sh_rsnD _, sh_one _, _, rfl, ?_⟩
    rw [show PyData.eqv (rsnD (.out is)) (.tuple [.str "same"]) = false from eqv_ne (flat_rsnD _) (by simp [flat, flats]) (by simp [rsnD])]
    refine iteF ?_
    refine ⟨_, rfl, (by show 1 ≤ sizeLine; decide), fun p2 np2 => ?_⟩
    have tp2 := same_upd (o := .tup [V.str "part"]) np2
    have sp2 : Same H _ := sp1.trans tp2
    refine ⟨_, _, Dp.same sp2 _ _ h3, one_dp, sh_rsnD _, sh_one _, _, rfl, ?_⟩
    rw [show PyData.eqv (rsnD (.out is)) (.tuple [.str "part"]) = false from eqv_ne (flat_rsnD _) (by simp [flat, flats]) (by simp [rsnD])]
    refine iteF ?_
    obtain ⟨wr, wvs, rfl, mw, hwa⟩ := FD.Dp.tupInv h3
    obtain ⟨w0, w1, rfl, hw0, hw1⟩ := FD.DpAll.two hwa
    have e0 := FD.Dp.strInv hw0
    subst e0
    have mw2 := SqT.same sp2 mw
    refine ⟨_, rfl, _, 2, rfl, .inr ⟨_, mw2, rfl⟩, rfl, _, rfl, iteT ?_⟩
    refine ⟨_, rfl, wr, _, _, _, rfl, rfl, mw2, atI_nat (j := 0) rfl, rfl, _, rfl, ?_⟩
    rw [decide_eq_false (show ¬ V.str "out" = V.str "rule" from fun z => ne_or (V.str.inj z))]
    refine iteF ⟨_, rfl, _, 2, rfl, .inr ⟨_, mw2, rfl⟩, rfl, _, rfl, iteT ?_⟩
    refine ⟨_, rfl, wr, _, _, _, rfl, rfl, mw2, atI_nat (j := 0) rfl, (by show 2 ≤ sizeLine; decide), fun p4 np4 => ⟨_, ioD, .str _, .inr io_dp, sh_str _, flats_plain _ io_flat, _, rfl, ?_⟩⟩
    rw [io_yes (.inr rfl)]
    have s4 := sp2.trans (same_upd (o := .tup [V.str "into", V.str "out"]) np4)
    refine iteT ⟨_, rfl, _, rfl, _, rfl, wr, _, _, _, rfl, rfl, SqT.same s4 mw, atI_nat (j := 1) rfl, ?_⟩
    exact ⟨a, us, S, rs, k, _, ⟨l, r, .out is⟩, is, rfl, s4.seq hS, DpAll.same s4 _ _ ha, okS, ex, so, .inr rfl, Dp.same s4 _ _ hw1, fun H5 s5 => q H5 (s4.trans s5)⟩
end
end FD
end T_F2

section T_F3
set_option Elab.async false
set_option linter.all false
set_option maxRecDepth 100000
set_option maxHeartbeats 2000000
/-! The law: all steps are right; a table is closed. -/
namespace FD
open PySem L2 FF FW
section
variable {P : Program} {w : World} {K : PySem.W.Frag} {mg : Str → Option Value} {base : Heap}
theorem stpD_depth {x : Stp} (h : TOk x.l ∧ TOk x.r) : (stpD x).depth ≤ 20 := by
  have b1 := tD_depth x.l
  have b2 := tD_depth x.r
  have b3 := h.1.dp
  have b4 := h.2.dp
  have b5 := rsnD_depth x.w
  simp only [stpD, PyData.depth, PyData.depthAll]
  omega
theorem sh_steps {S : List Stp} (h : SOkT S) : Sh (.list (S.map stpD)) := by
  refine sh_list (flats_map flat_stpD S) (Nat.le_trans (depthAll_le (n := 20) fun d hd => ?_) (by decide))
  obtain ⟨x, hx, rfl⟩ := List.mem_map.mp hd
  exact stpD_depth (h x hx)
theorem sh_pr {p : Tm × Tm} (h : POk p) : Sh (prD2 p) := by
  refine sh_flat (flat_prD2 p) ?_
  have b1 := tD_depth p.1
  have b2 := tD_depth p.2
  have b3 := h.l.dp
  have b4 := h.r.dp
  simp only [prD2, PyData.depth, PyData.depthAll]
  omega
theorem sh_tup0 : Sh (.tuple []) := sh_tup rfl (by simp [PyData.depthAll])
def spStepsR (K : PySem.W.Frag) : Sp := fun vs H Q _ => ∃ (a : Addr) (us : List V) (S0 : List Stp) (rs : List Rl) (y z : V) (p : Tm × Tm) (wl : RsnI), vs = [y, z, .ref a] ∧ SqL K H a us ∧ DpAll K H us ((S0 ++ [(⟨p.1, p.2, wl⟩ : Stp)]).map stpD) ∧ SOkT (S0 ++ [⟨p.1, p.2, wl⟩]) ∧ (S0 ++ [(⟨p.1, p.2, wl⟩ : Stp)]).length ≤ 100000 ∧ (∀ (k : Nat) x, (S0 ++ [(⟨p.1, p.2, wl⟩ : Stp)])[k]? = some x → StpOk rs (S0 ++ [⟨p.1, p.2, wl⟩]) k x) ∧ Dp K H y (.list (rs.map rlD)) ∧ (∀ r ∈ rs, ROk r) ∧ Dp K H z (prD2 p) ∧ ∀ H', Same H H' → Q (.bl true) H'
abbrev n62 : List Str := ["_law_premises_here", "_law_aim", "_law_steps", "_law_at", "_law_one"]
theorem sc62 : FnScope n62 ["_law_premises_here", "_law_aim", "_law_steps"] (defScope (topS 62)) := ⟨rfl, rfl, rfl, by decide +kernel, rfl, by decide +kernel, by decide +kernel⟩
theorem ok_stepsR (D : Df K mg "_law_steps_right" (topS 62) ["_law_premises_here", "_law_aim", "_law_steps"]) (B : Bi mg) (FL : Fn P w K mg base 6 "_law_long" ["_law_word", "_law_deep"] (spLong K 5)) (FR : Fn P w K mg base 3 "_law_reason_right" ["_law_steps", "_law_at", "_law_premises_here"] (spReason K)) :
    Fn P w K mg base 7 "_law_steps_right" ["_law_premises_here", "_law_aim", "_law_steps"] (spStepsR K) := by
  refine D.ok sc62 (fun vs H Q E h => ?_) (fun f cdv A outer s H vs Q E hr h => ?_)
  · obtain ⟨a, us, S0, rs, y, z, p, wl, rfl, _⟩ := h
    rfl
  obtain ⟨a, us, S0, rs, y, z, p, wl, rfl, hS, ha, okS, hz, so, hy, okr, hp, q⟩ := h
  have hu := hr.units
  have hr3 : Room 3 _ := hr.mono (by decide)
  refine ⟨_, pss_cons (ps_if (PW.pt (pw_or (pt_not (pt_val (pe_callB (call_isD K) (by rfl) B.isi b_isi (pa_cons (pv 2) (pa_cons (pe_bltn (v := .ty "list") (by rfl) B.lst b_lst rfl) pa_nil))))) (pw_or1 (pt_cmpR (op_eqP hu) (pv 2) (pe_lst pa_nil) (by rfl))))) (pss_one (ps_ret pe_bl)) pss_nil)
    (pss_cons (ps_for PassesOwn.never rfl (pi_range1 (by rfl) B.range (pa_cons (pe_callB call_len (by rfl) B.len b_len (pa_cons (pv 2) pa_nil)) pa_nil)) (pg_name (i := 3) sc62.nd rfl (.inl rfl))
      (pss_cons (ps_set (i := 4) sc62.nd rfl (.inl rfl) (pe_ix ix_list (pv 2) (pv 3) (fun _ _ => rfl)))
      (pss_cons (ps_if (PW.pt (pw_or (pt_not (pt_val (pe_callB (call_isD K) (by rfl) B.isi b_isi (pa_cons (pv 4) (pa_cons (pe_bltn (v := .ty "tuple") (by rfl) B.tup b_tup rfl) pa_nil)))))
          (pw_or (pt_cmpR op_ne (pe_callB call_len (by rfl) B.len b_len (pa_cons (pv 4) pa_nil)) pe_int (nomark _))
          (pw_or (pt_not (pt_val (pe_callB (call_isD K) (by rfl) B.isi b_isi (pa_cons (pe_ix ix_tup (pv 4) pe_int (fun _ _ => rfl)) (pa_cons (pe_bltn (v := .ty "tuple") (by rfl) B.tup b_tup rfl) pa_nil)))))
          (pw_or1 (pt_cmpR (op_eqP hu) (pe_ix ix_tup (pv 4) pe_int (fun _ _ => rfl)) (pe_tup pa_nil) (by rfl))))))) (pss_one (ps_ret pe_bl)) pss_nil)
      (pss_one (ps_if (PW.pt (pw_or (pt_not (pt_val (pe_fn FL hr (by rfl) (pa_cons (pe_ix ix_tup (pv 4) pe_int (fun _ _ => rfl)) (pa_cons pe_int pa_nil)))))
          (pw_or (pt_not (pt_val (pe_fn FL hr (by rfl) (pa_cons (pe_ix ix_tup (pv 4) pe_int (fun _ _ => rfl)) (pa_cons pe_int pa_nil)))))
          (pw_or1 (pt_not (pt_val (pe_fn FR hr3 (by rfl) (pa_cons (pv 2) (pa_cons (pv 3) (pa_cons (pv 0) pa_nil)))))))))) (pss_one (ps_ret pe_bl)) pss_nil)))))
    (pss_one (ps_ret (pe_cmpR (op_eqP hu) (pe_slice sl_tup (pe_ix ix_list (pv 2) (pe_un un_neg pe_int) (fun _ _ => rfl)) po_none (po_some pe_int)) (pv 1) (by rfl))))), ?_⟩
  generalize eS : S0 ++ [(⟨p.1, p.2, wl⟩ : Stp)] = S at ha okS hz so
  have eu : us.length = S.length := mapD_len ha
  have hne : S ≠ [] := by rw [← eS]; simp
  refine ⟨_, rfl, _, "list", _, _, rfl, .lst hS ha, k_ll, _, rfl, iteF ?_⟩
  refine ⟨_, rfl, (by show 0 ≤ sizeLine; decide), fun p1 np1 => ?_⟩
  have s1 := same_upd (o := .lst []) np1
  refine ⟨_, _, .lst (s1.seq hS) (DpAll.same s1 _ _ ha), .lst (SqL.of upd_same) .nil, sh_steps okS, sh_nil, _, rfl, ?_⟩
  rw [eqv_nil, show (S.map stpD).isEmpty = false from by cases S with
    | nil => exact absurd rfl hne
    | cons a b => rfl]
  refine iteF ?_
  refine ⟨_, rfl, _, us.length, rfl, .inl ⟨_, s1.seq hS, rfl⟩, (us.length : Nat), rfl, by omega, by omega, ?_⟩
  refine forS us.length (fun i x H H' => H' = H ∧ x = .int (i : Nat)) (fun i σ H2 => ∃ x3 x4, σ = [some y, some z, some (.ref a), x3, x4] ∧ Same H H2)
    ⟨_, _, rfl, s1⟩ (fun i σ H2 _ _ => ⟨fun hi => ⟨hi, fun x H' y => ⟨y.1, by rw [y.2]; simp⟩⟩, fun e => Nat.le_of_eq e.symm⟩) ?_ ?_
  · rintro i v σ H3 H2 hi ⟨x3, x4, rfl, s2⟩ ⟨rfl, rfl⟩
    have hS2 := s2.seq hS
    have ha2 := DpAll.same s2 _ _ ha
    have ex : S[i]? = some (S[i]'(by omega)) := List.getElem?_eq_getElem _
    generalize S[i]'(by omega) = x at ex
    have okx := okS x (List.mem_of_getElem? ex)
    obtain ⟨vx, evx, hvx⟩ := FW.DpAll.get ha2 (i := i) (d := stpD x) (by rw [List.getElem?_map, ex]; rfl)
    have hvx0 := hvx
    obtain ⟨qx, vsx, rfl, hqx, hax⟩ := FD.Dp.tupInv hvx
    obtain ⟨vl, vr, vw, rfl, h1, h2, h3⟩ := FD.DpAll.three hax
    refine ⟨_, rfl, _, rfl, a, us, _, _, rfl, rfl, hS2, atI_nat evx, ?_⟩
    refine ⟨_, rfl, _, "tuple", _, _, rfl, hvx0, k_tt, _, rfl, iteF ?_⟩
    refine ⟨_, rfl, _, 3, rfl, .inr ⟨_, hqx, rfl⟩, rfl, _, rfl, iteF ?_⟩
    have h3' : Dp K H2 vw (.tuple (.str (kindI x.w) :: argsI x.w)) := by rw [← rsnD_eq]; exact h3
    refine ⟨_, rfl, qx, _, _, _, rfl, rfl, hqx, atI_nat (j := 2) rfl, _, "tuple", _, _, rfl, h3', k_tt, _, rfl, iteF ?_⟩
    refine ⟨_, rfl, qx, _, _, _, rfl, rfl, hqx, atI_nat (j := 2) rfl, (by show 0 ≤ sizeLine; decide), fun p4 np4 => ?_⟩
    have s4 := same_upd (o := .tup []) np4
    refine ⟨_, _, Dp.same s4 _ _ h3, .tup (SqT.of upd_same) .nil, sh_rsnD _, sh_tup0, _, rfl, ?_⟩
    rw [show PyData.eqv (rsnD x.w) (.tuple []) = false from eqv_ne (flat_rsnD _) (by simp [flat, flats]) (by rw [rsnD_eq]; simp)]
    have s24 := s2.trans s4
    refine iteF ⟨_, rfl, qx, _, _, _, rfl, rfl, SqT.same s4 hqx, atI_nat (j := 0) rfl, _, x.l, 9, rfl, Dp.same s4 _ _ h1, okx.1.wf, okx.1.dp, by have := okx.1.dp; omega, by have := okx.1.sz; omega, fun H5 s5 => ⟨_, rfl, iteF ?_⟩⟩
    refine ⟨_, rfl, qx, _, _, _, rfl, rfl, SqT.same (s4.trans s5) hqx, atI_nat (j := 1) rfl, _, x.r, 9, rfl, Dp.same (s4.trans s5) _ _ h2, okx.2.wf, okx.2.dp, by have := okx.2.dp; omega, by have := okx.2.sz; omega, fun H6 s6 => ⟨_, rfl, iteF ?_⟩⟩
    have s26 := (s24.trans s5).trans s6
    refine ⟨_, rfl, _, rfl, _, rfl, a, us, S, rs, i, y, x, rfl, s26.seq hS, DpAll.same s26 _ _ ha, okS, ex, so i x ex, Dp.same s26 _ _ hy, okr, fun H7 s7 => ⟨_, rfl, iteF ?_⟩⟩
    exact ⟨_, _, rfl, s26.trans s7⟩
  · rintro σ H2 ⟨x3, x4, rfl, s2⟩
    have ha2 := DpAll.same s2 _ _ ha
    have hp2 := Dp.same s2 _ _ hp
    have hlast : ∃ us0 v, us = us0 ++ [v] ∧ Dp K H2 v (stpD ⟨p.1, p.2, wl⟩) := by
      have nz : us ≠ [] := by
        intro z; rw [z] at eu; exact hne (List.length_eq_zero_iff.mp eu.symm)
      refine ⟨us.dropLast, us.getLast nz, (List.dropLast_concat_getLast nz).symm, ?_⟩
      have e1 : us[us.length - 1]? = some (us.getLast nz) := by rw [List.getLast_eq_getElem]; exact List.getElem?_eq_getElem _
      obtain ⟨d, ed, hd⟩ := FW.DpAll.at ha2 e1
      have e2 : (S.map stpD)[us.length - 1]? = some (stpD ⟨p.1, p.2, wl⟩) := by
        rw [eu, ← eS]; simp
      rw [e2] at ed
      cases ed
      exact hd
    obtain ⟨us0, v, rfl, hv⟩ := hlast
    obtain ⟨qx, vsx, rfl, hqx, hax⟩ := FD.Dp.tupInv hv
    obtain ⟨vl, vr, vw, rfl, h1, h2, h3⟩ := FD.DpAll.three hax
    have okp : POk p := by
      have := okS ⟨p.1, p.2, wl⟩ (by rw [← eS]; simp)
      exact ⟨this.1, this.2⟩
    refine ⟨_, rfl, _, rfl, a, _, _, _, rfl, rfl, s2.seq hS, atI_last us0 _, 2, rfl, qx, _, rfl, hqx, fun h => absurd (show (2 : Nat) = 3 from h.2) (by decide), fun p8 np8 => ?_⟩
    have s8 := same_upd (o := .tup [vl, vr]) np8
    refine ⟨_, rfl, prD2 p, prD2 p, Dp.mk np8 (.cons h1 (.cons h2 .nil)), Dp.same s8 _ _ hp2, sh_pr okp, sh_pr okp, ?_⟩
    rw [eqv_self _ (flat_prD2 p)]
    exact q _ (s2.trans s8)
end
end FD
end T_F3

section T_F4
set_option Elab.async false
set_option linter.all false
set_option maxRecDepth 100000
set_option maxHeartbeats 2000000
/-! The law: a table is closed. -/
namespace FD
open PySem L2 FF FW
theorem pkey_ok {a b : Tm} (ha : a.depth ≤ 5) (hb : b.depth ≤ 5) : KeyOk (pkey (a, b)) := by
  refine ⟨?_, .inr ⟨_, rfl⟩⟩
  have h1 := tkey_depth a
  have h2 := tkey_depth b
  simp only [pkey, NestedKey.depth, NestedKey.depthAll]
  omega
theorem pr_dp {K : PySem.W.Frag} {H : Hp} {p : Addr} {x y : V} {a b : Tm} (np : H p = none) (h1 : TmAt K H x a) (h2 : TmAt K H y b) : Dp K (L2.upd H p (.tup [x, y])) (.ref p) (pkey (a, b)).data := by
  rw [pkey_data]
  exact Dp.mk np (.cons h1 (.cons h2 .nil))
/-- the dict of the pairs T -/
structure TP (K : PySem.W.Frag) (H : Hp) (kvs : List NV) (T : List (Tm × Tm)) : Prop where
  at_ : NAt K H kvs
  ks : kvs.map (·.1) = T.map pkey
theorem TP.ts {K : PySem.W.Frag} {H H' : Hp} {kvs : List NV} {T : List (Tm × Tm)} (h : TP K H kvs T) (t : FW.TS H H') : TP K H' kvs T := ⟨h.at_.ts t, h.ks⟩
theorem TP.some {K : PySem.W.Frag} {H : Hp} {kvs : List NV} {T : List (Tm × Tm)} (h : TP K H kvs T) (a b : Tm) : (valN kvs (pkey (a, b))).isSome = decide ((a, b) ∈ T) := by
  by_cases m : (a, b) ∈ T
  · rw [decide_eq_true m]
    exact valN_isSome.mpr (by rw [h.ks]; exact List.mem_map.mpr ⟨_, m, rfl⟩)
  · rw [decide_eq_false m, Bool.eq_false_iff]
    intro z
    have := valN_isSome.mp z
    rw [h.ks] at this
    obtain ⟨q, hq, e⟩ := List.mem_map.mp this
    have := pkey_inj e
    subst this
    exact m hq
theorem allB {α : Type} (l : List α) (f : α → Bool) (h : ∀ a ∈ l, f a = true) : (l.map f).all id = true := by
  rw [bls_all]; exact List.all_eq_true.mpr h
section
variable {P : Program} {w : World} {K : PySem.W.Frag} {mg : Str → Option Value} {base : Heap}
def spClosed (K : PySem.W.Frag) (w : World) : Sp := fun vs H Q _ => ∃ (d aw : Addr) (us : List V) (kvs : List NV) (T : List (Tm × Tm)) (rs : List Rl) (W : List Tm), vs = [.ref d, .ref aw] ∧ H d = some (dN w d kvs) ∧ TP K H kvs T ∧ SqL K H aw us ∧ DpAll K H us (tDs W) ∧ (∀ t ∈ W, TOk t) ∧ (∀ p ∈ T, POk p) ∧ W.length ≤ 24 ∧ TabOk rs W (fun a b => (a, b) ∈ T) ∧ ∀ H', Same H H' → Q (.bl true) H'
abbrev n63 : List Str := ["_law_pairs_here", "_law_words_here", "_law_one", "_law_other", "_law_word", "_law_inner", "_law_some", "_law_part"]
theorem sc63 : FnScope n63 ["_law_pairs_here", "_law_words_here"] (defScope (topS 63)) := ⟨rfl, rfl, rfl, by decide +kernel, rfl, by decide +kernel, by decide +kernel⟩
theorem ok_closed (D : Df K mg "_law_closed" (topS 63) ["_law_pairs_here", "_law_words_here"]) (B : Bi mg) (FP : Fn P w K mg base 1 "_law_parts" ["_law_word"] (spLParts K)) : Fn P w K mg base 2 "_law_closed" ["_law_pairs_here", "_law_words_here"] (spClosed K w) := by
  refine D.ok sc63 (fun vs H Q E h => ?_) (fun f cdv A outer s H vs Q E hr h => ?_)
  · obtain ⟨d, aw, us, kvs, T, rs, W, rfl, _⟩ := h
    rfl
  obtain ⟨d, aw, us, kvs, T, rs, W, rfl, hd, tp, hS, ha, okW, okT, hW, tab, q⟩ := h
  have hu := hr.units
  refine ⟨_, pss_cons (ps_lock (ps_for PassesOwn.never rfl (pi_N (pv 0)) (pg_tup rfl (pgs_cons (pg_name (i := 2) sc63.nd rfl (.inr rfl)) (pgs_cons (pg_name (i := 3) sc63.nd rfl (.inr rfl)) pgs_nil)))
      (pss_one (ps_if (pt_not (pt_val (pe_callB (cr_all rfl) (by rfl) B.all b_all (pa_cons (pe_lc (own := [("_law_word", 4)]) (g := gName 4) (by rfl) sc63.nd (pi_list (pv 1)) (blkOk_by (own := [("_law_word", 4)]) (N := n63) (sc := defScope (topS 63)) (by decide +kernel))
          (fun _ _ _ _ _ => pg_name (i := 4) sc63.nd rfl (Or.inl rfl)) (fun _ _ _ _ _ => pts_one (pt_cmpR (op_inNK K w hu) (pe_tup (pa_cons (pv 3) (pa_cons (pv 4) pa_nil))) (pv 0) (by rfl))) (fun _ _ _ _ _ => pe_cmpR (op_inNK K w hu) (pe_tup (pa_cons (pv 2) (pa_cons (pv 4) pa_nil))) (pv 0) (by rfl))) pa_nil)))) (pss_one (ps_ret pe_bl)) pss_nil))))
    (pss_cons (ps_for PassesOwn.never rfl (pi_list (pv 1)) (pg_name (i := 4) sc63.nd rfl (.inr rfl))
      (pss_cons (ps_set (i := 5) sc63.nd rfl (.inr rfl) (pe_fn FP hr (by rfl) (pa_cons (pv 4) pa_nil)))
      (Evl.pss_cut (ps_if (PW.pt (pw_and (pt_cmpR (op_neP hu) (pv 5) (pe_lst pa_nil) (by rfl)) (pw_and1 (pt_cmpR op_eq (pe_ix ix_tup (pv 4) pe_int (fun _ _ => rfl)) pe_str (nomark _)))))
        (pss_cons (ps_setLc (i := 6) (own := [("_law_one", 2)]) (g := gName 2) (by rfl) sc63.nd rfl rfl (sw_true rfl rfl rfl (by decide +kernel)) (pi_list (pv 1)) (blkOk_by (own := [("_law_one", 2)]) (N := n63) (sc := defScope (topS 63)) (by decide +kernel))
            (fun _ _ _ _ _ => pg_name (i := 2) sc63.nd rfl (Or.inr rfl)) (fun _ _ _ _ _ => pts_one (pt_val (pe_callB (cr_allK K rfl) (by rfl) B.all b_all (pa_cons
              (pe_lc (own := [("_law_part", 7)]) (g := gName 7) (tt := tYes) (by rfl) sc63.nd (pi_listK K (pv 5)) (blkOk_by (own := [("_law_part", 7)]) (N := n63) (sc := { kind := .function, names := [(".0", .local), ("_law_one", .cell), ("all", .globalImplicit), ("_law_inner", .cell), ("_law_pairs_here", .cell)], isGenerator := false, isCoroutine := false }) (by decide +kernel))
                (fun _ _ _ _ _ => pg_name (i := 7) sc63.nd rfl (Or.inl rfl)) (fun _ _ _ _ _ => pts_nil) (fun _ _ _ _ _ => pe_cmpR (op_inNK K w hu) (pe_tup (pa_cons (pv 2) (pa_cons (pv 7) pa_nil))) (pv 0) (by rfl))) pa_nil)))) (fun _ _ _ _ _ => pv 2))
        (pss_one (ps_if (PW.pt (pw_or (pt_not (pt_val (pe_callB (cr_all rfl) (by rfl) B.all b_all (pa_cons (pe_lc (own := [("_law_part", 7)]) (g := gName 7) (tt := tYes) (by rfl) sc63.nd (pi_list (pv 5)) (blkOk_by (own := [("_law_part", 7)]) (N := n63) (sc := defScope (topS 63)) (by decide +kernel))
                (fun _ _ _ _ _ => pg_name (i := 7) sc63.nd rfl (Or.inl rfl)) (fun _ _ _ _ _ => pts_nil) (fun _ _ _ _ _ => pe_cmpR (op_inNK K w hu) (pe_tup (pa_cons (pv 4) (pa_cons (pv 7) pa_nil))) (pv 0) (by rfl))) pa_nil))))
            (pw_or1 (pt_not (pt_val (pe_callB (cr_all rfl) (by rfl) B.all b_all (pa_cons (pe_lc (own := [("_law_one", 2)]) (g := gName 2) (tt := tYes) (by rfl) sc63.nd (pi_list (pv 6)) (blkOk_by (own := [("_law_one", 2)]) (N := n63) (sc := defScope (topS 63)) (by decide +kernel))
                (fun _ _ _ _ _ => pg_name (i := 2) sc63.nd rfl (Or.inl rfl)) (fun _ _ _ _ _ => pts_nil) (fun _ _ _ _ _ => pe_cmpR (op_inNK K w hu) (pe_tup (pa_cons (pv 2) (pa_cons (pv 4) pa_nil))) (pv 0) (by rfl))) pa_nil))))))) (pss_one (ps_ret pe_bl)) pss_nil))) pss_nil)
      (pss_one (ps_if (PW.pt (pw_and (pt_cmpR (op_neP hu) (pv 5) (pe_lst pa_nil) (by rfl)) (pw_and1 (pt_cmpR op_eq (pe_ix ix_tup (pv 4) pe_int (fun _ _ => rfl)) pe_str (nomark _)))))
        (pss_cons (ps_setLc (i := 6) (own := [("_law_one", 2)]) (g := gName 2) (by rfl) sc63.nd rfl rfl (sw_true rfl rfl rfl (by decide +kernel)) (pi_list (pv 1)) (blkOk_by (own := [("_law_one", 2)]) (N := n63) (sc := defScope (topS 63)) (by decide +kernel))
            (fun _ _ _ _ _ => pg_name (i := 2) sc63.nd rfl (Or.inr rfl)) (fun _ _ _ _ _ => pts_one (pt_val (pe_callB (cr_allK K rfl) (by rfl) B.all b_all (pa_cons
              (pe_lc (own := [("_law_part", 7)]) (g := gName 7) (tt := tYes) (by rfl) sc63.nd (pi_listK K (pv 5)) (blkOk_by (own := [("_law_part", 7)]) (N := n63) (sc := { kind := .function, names := [(".0", .local), ("_law_one", .cell), ("all", .globalImplicit), ("_law_inner", .cell), ("_law_pairs_here", .cell)], isGenerator := false, isCoroutine := false }) (by decide +kernel))
                (fun _ _ _ _ _ => pg_name (i := 7) sc63.nd rfl (Or.inl rfl)) (fun _ _ _ _ _ => pts_nil) (fun _ _ _ _ _ => pe_cmpR (op_inNK K w hu) (pe_tup (pa_cons (pv 7) (pa_cons (pv 2) pa_nil))) (pv 0) (by rfl))) pa_nil)))) (fun _ _ _ _ _ => pv 2))
        (pss_one (ps_if (PW.pt (pw_or (pt_not (pt_val (pe_callB (cr_all rfl) (by rfl) B.all b_all (pa_cons (pe_lc (own := [("_law_part", 7)]) (g := gName 7) (tt := tYes) (by rfl) sc63.nd (pi_list (pv 5)) (blkOk_by (own := [("_law_part", 7)]) (N := n63) (sc := defScope (topS 63)) (by decide +kernel))
                (fun _ _ _ _ _ => pg_name (i := 7) sc63.nd rfl (Or.inl rfl)) (fun _ _ _ _ _ => pts_nil) (fun _ _ _ _ _ => pe_cmpR (op_inNK K w hu) (pe_tup (pa_cons (pv 7) (pa_cons (pv 4) pa_nil))) (pv 0) (by rfl))) pa_nil))))
            (pw_or1 (pt_not (pt_val (pe_callB (cr_all rfl) (by rfl) B.all b_all (pa_cons (pe_lc (own := [("_law_one", 2)]) (g := gName 2) (tt := tYes) (by rfl) sc63.nd (pi_list (pv 6)) (blkOk_by (own := [("_law_one", 2)]) (N := n63) (sc := defScope (topS 63)) (by decide +kernel))
                (fun _ _ _ _ _ => pg_name (i := 2) sc63.nd rfl (Or.inl rfl)) (fun _ _ _ _ _ => pts_nil) (fun _ _ _ _ _ => pe_cmpR (op_inNK K w hu) (pe_tup (pa_cons (pv 4) (pa_cons (pv 2) pa_nil))) (pv 0) (by rfl))) pa_nil))))))) (pss_one (ps_ret pe_bl)) pss_nil))) pss_nil)))))
    (pss_one (ps_ret pe_bl))), ?_⟩
  have hul : us.length = W.length := mapD_len ha
  -- the pairs, one behind the other
  refine ⟨d, dN w d kvs, hd, trivial, fun od => ?_⟩
  have tU : FW.TS H (upd H d (.frz od (dN w d kvs))) := TS.upd hd trivial
  generalize eU : (upd H d (.frz od (dN w d kvs))) = U at tU
  have hdU : U d = some (.frz od (dN w d kvs)) := by rw [← eU]; exact upd_same
  have kU : ∀ b o, H b = some o → b ≠ d → U b = some o := fun b o e n => by rw [← eU, upd_ne n]; exact e
  have hSU : SqL K U aw us := by
    rcases hS with (h | ⟨o, h⟩) | h
    · exact .inl (.inl (kU _ _ h (fun z => by rw [z, hd] at h; cases h)))
    · exact .inl (.inr ⟨o, kU _ _ h (fun z => by rw [z, hd] at h; cases h)⟩)
    · exact .inr h
  have haU := DpAll.ts tU _ _ (flats_tDs _) ha
  have tpU := tp.ts tU
  refine ⟨_, rfl, d, od, kvs, rfl, hdU, ?_⟩
  refine forS kvs.length (fun i x H H' => H' = H ∧ ∃ k v, kvs[i]? = some (k, x, v)) (fun i σ H2 => ∃ x2 x3, σ = [some (.ref d), some (.ref aw), x2, x3, none, none, none, none] ∧ Same U H2)
    ⟨none, none, rfl, Same.refl _⟩ (fun i σ H2 hi ⟨_, _, _, s2⟩ => ⟨fun hlt => ⟨⟨s2 _ _ hdU, hlt⟩, fun x H' y => y⟩, fun e => ⟨s2 _ _ hdU, Nat.le_of_eq e.symm⟩⟩) ?_ ?_
  · rintro i x σ H3 H2 hi ⟨x2, x3, rfl, s2⟩ ⟨rfl, k, v, ek⟩
    have tp2 := tpU.ts (TS.same s2)
    have hk : ∃ pp, T[i]? = some pp ∧ k = pkey pp := by
      have h1 : (kvs.map (·.1))[i]? = some k := by rw [List.getElem?_map, ek]; rfl
      rw [tp2.ks, List.getElem?_map] at h1
      obtain ⟨pp, e1, e2⟩ := Option.map_eq_some_iff.mp h1
      exact ⟨pp, e1, e2.symm⟩
    obtain ⟨pp, ep, rfl⟩ := hk
    have hx := (tp2.at_ _ (List.mem_of_getElem? ek)).1
    rw [pkey_data] at hx
    obtain ⟨t, x1, y1, rfl, ht, h1, h2⟩ := pr_inv hx
    have mpp : pp ∈ T := List.mem_of_getElem? ep
    have okp := okT pp mpp
    refine ⟨t, _, rfl, ht, rfl, _, _, rfl, _, _, rfl, rfl, ?_⟩
    refine ⟨_, rfl, aw, rfl, ⟨_, s2.seq hSU⟩, fun Dl nD => ?_⟩
    refine lcB nD (src_list (s2.seq hSU)) (fun j => ((W.take j).filter fun t => decide ((pp.2, t) ∈ T)).map fun _ => V.bl true) rfl (fun j _ => small1000 (by rw [List.length_map]; exact Nat.le_trans (List.length_filter_le _ _) (by rw [List.length_take]; omega))) (fun j z H4 F G hj s4 _ hz kF kG => ?_) (fun H4 s4 hD => ?_)
    · obtain ⟨tw, ew, hw⟩ := tDs_get (DpAll.same (s2.trans s4) _ _ haU) hz
      have okw := okW tw (List.mem_of_getElem? ew)
      have fs := filter_snoc (f := fun t => decide ((pp.2, t) ∈ T)) ew
      refine ⟨rfl, _, rfl, _, rfl, (by show 2 ≤ sizeLine; decide), fun p5 np5 => ?_⟩
      have s5 := same_upd (o := .tup [y1, z]) np5
      have tp5 := tp2.ts (TS.same (s4.trans s5))
      refine ⟨_, rfl, d, kvs, pkey (pp.2, tw), rfl, .inr ⟨od, (s4.trans s5) _ _ (s2 _ _ hdU)⟩, tp5.at_, pr_dp np5 (Dp.same s4 _ _ h2) hw, pkey_ok okp.r.dp okw.dp, _, rfl, ?_⟩
      rw [tp5.some]
      by_cases m : (pp.2, tw) ∈ T
      · rw [decide_eq_true m]
        rw [if_pos (decide_eq_true m)] at fs
        refine iteT ⟨_, rfl, _, rfl, (by show 2 ≤ sizeLine; decide), fun p6 np6 => ?_⟩
        have s6 := same_upd (o := .tup [x1, z]) np6
        have tp6 := tp5.ts (TS.same s6)
        refine ⟨_, rfl, d, kvs, pkey (pp.1, tw), rfl, .inr ⟨od, s6 _ _ ((s4.trans s5) _ _ (s2 _ _ hdU))⟩, tp6.at_, pr_dp np6 (Dp.same (s4.trans s5) _ _ h1) (Dp.same s5 _ _ hw), pkey_ok okp.l.dp okw.dp, ?_⟩
        rw [tp6.some, decide_eq_true (tab.chain _ _ _ (show (pp.1, pp.2) ∈ T from mpp) m)]
        refine kF _ _ (s5.trans s6) ?_
        rw [fs, List.map_append]; rfl
      · rw [decide_eq_false m]
        rw [if_neg (by rw [decide_eq_false m]; decide)] at fs
        exact iteF (kG _ s5 (by rw [fs]))
    · have eb : (((W.take us.length).filter fun t => decide ((pp.2, t) ∈ T)).map fun _ => V.bl true) = (((W.take us.length).filter fun t => decide ((pp.2, t) ∈ T)).map fun _ => true).map V.bl := by
        rw [List.map_map]; rfl
      rw [eb] at hD
      refine ⟨Dl, _, rfl, SqL.of hD, _, rfl, ?_⟩
      rw [allB _ _ (fun _ _ => rfl)]
      exact iteF ⟨_, _, rfl, s2.trans s4⟩
  rintro σ H2 ⟨x2, x3, rfl, s2⟩
  refine ⟨s2 _ _ hdU, ?_⟩
  have sH : Same H (upd H2 d (dN w d kvs)) := fun b o e => by
    by_cases z : b = d
    · subst z; rw [upd_same, ← hd, e]
    · rw [upd_ne z]; exact s2 _ _ (kU _ _ e z)
  generalize (upd H2 d (dN w d kvs)) = H1 at sH
  clear s2 hdU kU hSU haU tpU tU eU
  -- the words
  refine ⟨_, rfl, aw, rfl, ⟨_, sH.seq hS⟩, for_list (K := K) (a := aw) (xs := us) (fun i σ H2 => ∃ x2 x3 x4 x5 x6, σ = [some (.ref d), some (.ref aw), x2, x3, x4, x5, x6, none] ∧ Same H H2)
    ⟨_, _, _, _, _, rfl, sH⟩ (fun i σ H2 _ ⟨_, _, _, _, _, _, s2⟩ => s2.seq hS) ?_ ?_⟩
  · rintro i x σ H2 hx ⟨x2, x3, x4, x5, x6, rfl, s2⟩
    obtain ⟨t, et, ht0⟩ := tDs_get (DpAll.same s2 _ _ ha) hx
    have inW0 : t ∈ W := List.mem_of_getElem? et
    have okt := okW t inW0
    refine ⟨_, rfl, x, t, rfl, ht0, fun r2 ws2 H3 s3 nr2 hr2 ha2 => ?_⟩
    have ht := Dp.same s3 _ _ ht0
    have inW := inW0
    have shp : Sh (.list (tDs t.parts)) := by
      refine sh_list (flats_tDs _) (Nat.le_trans (depthAll_le (n := 10) fun d hd => ?_) (by decide))
      obtain ⟨u, hu', rfl⟩ := List.mem_map.mp hd
      have b1 := tD_depth u
      have b2 := (walk_ok okt (part_walk hu')).dp
      omega
    refine ⟨fun σ' H' => ∃ y2 y6, σ' = [some (.ref d), some (.ref aw), y2, x3, some x, some (.ref r2), y6, none] ∧ Same H3 H', ?_, ?_⟩
    · skip
      have ca_sq := (s2.trans s3).seq hS
      have ca_ha := DpAll.same (s2.trans s3) _ _ ha
      have tpc := tp.ts (TS.same (s2.trans s3))
      have hdc := (s2.trans s3) _ _ hd
      have htc := Dp.same (Same.refl H3) _ _ ht
      refine ⟨_, rfl, (by show 0 ≤ sizeLine; decide), fun p1 np1 => ?_⟩
      have s1 := same_upd (o := .lst []) np1
      refine ⟨_, _, Dp.same s1 _ _ (.lst (SqL.of ((Same.refl H3) _ _ hr2)) (DpAll.same (Same.refl H3) _ _ ha2)), .lst (SqL.of upd_same) .nil, shp, sh_nil, _, rfl, ?_⟩
      rw [eqv_nil]
      rcases TmAt.cases htc with ⟨c, rfl, rfl⟩ | ⟨op, ts, p, vs', rfl, rfl, hp, hva⟩
      · refine iteF ?_
        exact ⟨_, _, rfl, (Same.refl H3).trans s1⟩
      · rw [show (tDs (Tm.node op ts).parts).isEmpty = false from by
          have wl : 2 ≤ ts.length := (okt.wf : (Tm.node op ts).WF).1
          cases ts with
          | nil => simp at wl
          | cons u us => rfl]
        refine iteT ⟨_, rfl, p, _, _, _, rfl, rfl, SqT.same s1 hp, atI_nat (j := 0) rfl, rfl, _, rfl, ?_⟩
        cases op with
        | false =>
          rw [decide_eq_false (show ¬ V.str (opS false) = V.str "&" from fun z => opS_ne (by have := V.str.inj z; rw [opS_or] at this; exact this.symm))]
          exact iteF ⟨_, _, rfl, (Same.refl H3).trans s1⟩
        | true =>
          rw [decide_eq_true (show V.str (opS true) = V.str "&" by rw [opS_and])]
          refine iteT ?_
          have okts : ∀ u ∈ ts, TOk u := fun u hu' => walk_ok okt (part_walk (t := .node true ts) hu')
          have lts : ts.length ≤ 24 := by
            have w2 : WFs ts := (okt.wf : (Tm.node true ts).WF).2
            have := sizes_len w2
            have z : sizes ts ≤ 24 := okt.sz
            omega
          have lws : ws2.length = ts.length := mapD_len ha2
          refine ⟨_, rfl, aw, rfl, ⟨_, s1.seq ca_sq⟩, fun D6 nD6 => ?_⟩
          refine lcG (K := K) nD6 (src_list (s1.seq ca_sq)) (fun j => tDs ((W.take j).filter fun x => decide (∀ u ∈ ts, (x, u) ∈ T))) rfl (fun j _ => ⟨flats_tDs _, small1000 (by rw [tDs, List.length_map]; exact Nat.le_trans (List.length_filter_le _ _) (by rw [List.length_take]; omega))⟩) (fun j x H7 F G hj s7 _ hx kF kG => ?_) (fun H7 sv s7 hD7 hd7 => ?_)
          · obtain ⟨tx, etx, htx⟩ := tDs_get (DpAll.same (s1.trans s7) _ _ ca_ha) hx
            have okx := okW tx (List.mem_of_getElem? etx)
            have s17 := s1.trans s7
            refine ⟨rfl, _, rfl, r2, rfl, ⟨_, SqL.of (s17 _ _ ((Same.refl H3) _ _ hr2))⟩, fun D8 nD8 => ?_⟩
            refine lcB nD8 (src_list (SqL.of (s17 _ _ ((Same.refl H3) _ _ hr2)))) (fun m => (ts.take m).map fun u => V.bl (decide ((tx, u) ∈ T))) rfl (fun m _ => small1000 (by rw [List.length_map, List.length_take]; omega)) (fun m z H9 F' G' hm s9 _ hz kF' kG' => ?_) (fun H9 s9 hD9 => ?_)
            · obtain ⟨u, eu, hu'⟩ := tDs_get (DpAll.same (((Same.refl H3).trans s17).trans s9) _ _ ha2) hz
              have oku := okts u (List.mem_of_getElem? eu)
              refine ⟨rfl, _, rfl, _, rfl, (by show 2 ≤ sizeLine; decide), fun p10 np10 => ?_⟩
              have s10 := same_upd (o := .tup [x, z]) np10
              have s19 := (s17.trans s9).trans s10
              refine ⟨_, rfl, d, kvs, pkey (tx, u), rfl, Rd.of (s19 _ _ hdc), (tpc.ts (TS.same s19)).at_, pr_dp np10 (Dp.same s9 _ _ htx) hu', pkey_ok okx.dp oku.dp, ?_⟩
              rw [tpc.some]
              exact kF' _ _ s10 (take_map_snoc (fun u => V.bl (decide ((tx, u) ∈ T))) eu)
            · have eb : ((ts.take ws2.length).map fun u => V.bl (decide ((tx, u) ∈ T))) = (ts.map fun u => decide ((tx, u) ∈ T)).map V.bl := by
                rw [lws, List.take_length, List.map_map]; rfl
              rw [eb] at hD9
              refine ⟨D8, _, rfl, SqL.of hD9, _, rfl, ?_⟩
              rw [bls_all]
              have fs := filter_snoc (f := fun x => decide (∀ u ∈ ts, (x, u) ∈ T)) etx
              have s8 : Same H7 H9 := fun b o e => s9 b o e
              by_cases hall : ∀ u ∈ ts, (tx, u) ∈ T
              · rw [List.all_eq_true.mpr (fun u hu' => decide_eq_true (hall u hu'))]
                rw [if_pos (decide_eq_true hall)] at fs
                refine iteT ⟨_, rfl, kF _ _ _ s8 (Dp.same s8 _ _ htx) ?_⟩
                rw [fs, tDs_app]; rfl
              · have ef : (ts.all fun u => decide ((tx, u) ∈ T)) = false := by
                  rw [Bool.eq_false_iff]; exact fun z => hall fun u hu' => of_decide_eq_true (List.all_eq_true.mp z u hu')
                rw [ef]
                rw [if_neg (by rw [decide_eq_false hall]; decide)] at fs
                refine iteF (kG _ s8 ?_)
                rw [fs]
          · rw [mapD_len ca_ha, List.take_length] at hd7
            have s17 := s1.trans s7
            refine ⟨_, rfl, r2, rfl, ⟨_, SqL.of (s17 _ _ ((Same.refl H3) _ _ hr2))⟩, fun D8 nD8 => ?_⟩
            refine lcB nD8 (src_list (SqL.of (s17 _ _ ((Same.refl H3) _ _ hr2)))) (fun m => List.replicate m (V.bl true)) rfl (fun m _ => small1000 (by rw [List.length_replicate]; omega)) (fun m z H9 F' G' hm s9 _ hz kF' kG' => ?_) (fun H9 s9 hD9 => ?_)
            · obtain ⟨u, eu, hu'⟩ := tDs_get (DpAll.same (((Same.refl H3).trans s17).trans s9) _ _ ha2) hz
              have mu := List.mem_of_getElem? eu
              have oku := okts u mu
              refine ⟨rfl, _, rfl, _, rfl, (by show 2 ≤ sizeLine; decide), fun p10 np10 => ?_⟩
              have s10 := same_upd (o := .tup [.ref p, z]) np10
              have s19 := (s17.trans s9).trans s10
              refine ⟨_, rfl, d, kvs, pkey (Tm.node true ts, u), rfl, Rd.of (s19 _ _ hdc), (tpc.ts (TS.same s19)).at_, pr_dp np10 (Dp.same (s17.trans s9) _ _ htc) hu', pkey_ok okt.dp oku.dp, ?_⟩
              rw [tpc.some, decide_eq_true (tab.lowP ts inW u mu)]
              exact kF' _ _ s10 (replicate_snoc _ _)
            rw [bls_true] at hD9
            refine ⟨D8, _, rfl, SqL.of hD9, _, rfl, ?_⟩
            rw [all_true]
            refine iteF ⟨_, rfl, D6, rfl, ⟨_, SqL.of (s9 _ _ hD7)⟩, fun D9 nD9 => ?_⟩
            have s18 := s17.trans s9
            have hd8 := DpAll.same s9 _ _ hd7
            have lsv : sv.length ≤ 24 := by
              rw [mapD_len hd7]
              exact Nat.le_trans (List.length_filter_le _ _) hW
            refine lcB nD9 (src_list (SqL.of (s9 _ _ hD7))) (fun m => List.replicate m (V.bl true)) rfl (fun m _ => small1000 (by rw [List.length_replicate]; omega)) (fun m z H10 F' G' hm s10 _ hz kF' kG' => ?_) (fun H10 s10 hD10 => ?_)
            · obtain ⟨x, exx, hx'⟩ := tDs_get (DpAll.same s10 _ _ hd8) hz
              obtain ⟨mxW, mxa⟩ := List.mem_filter.mp (List.mem_of_getElem? exx)
              have okx := okW x mxW
              refine ⟨rfl, _, rfl, _, rfl, (by show 2 ≤ sizeLine; decide), fun p11 np11 => ?_⟩
              have s11 := same_upd (o := .tup [z, .ref p]) np11
              have s19 := (s18.trans s10).trans s11
              refine ⟨_, rfl, d, kvs, pkey (x, Tm.node true ts), rfl, Rd.of (s19 _ _ hdc), (tpc.ts (TS.same s19)).at_, pr_dp np11 hx' (Dp.same (s18.trans s10) _ _ htc), pkey_ok okx.dp okt.dp, ?_⟩
              rw [tpc.some, decide_eq_true (tab.low ts inW x mxW (of_decide_eq_true mxa))]
              exact kF' _ _ s11 (replicate_snoc _ _)
            rw [bls_true] at hD10
            refine ⟨D9, _, rfl, SqL.of hD10, _, rfl, ?_⟩
            rw [all_true]
            exact iteF ⟨_, _, rfl, (Same.refl H3).trans (s18.trans s10)⟩
    · rintro σ5 H5 ⟨y2, y6, rfl, s5⟩
      have ca_sq := ((s2.trans s3).trans s5).seq hS
      have ca_ha := DpAll.same ((s2.trans s3).trans s5) _ _ ha
      have tpc := tp.ts (TS.same ((s2.trans s3).trans s5))
      have hdc := ((s2.trans s3).trans s5) _ _ hd
      have htc := Dp.same s5 _ _ ht
      refine ⟨_, rfl, (by show 0 ≤ sizeLine; decide), fun p1 np1 => ?_⟩
      have s1 := same_upd (o := .lst []) np1
      refine ⟨_, _, Dp.same s1 _ _ (.lst (SqL.of (s5 _ _ hr2)) (DpAll.same s5 _ _ ha2)), .lst (SqL.of upd_same) .nil, shp, sh_nil, _, rfl, ?_⟩
      rw [eqv_nil]
      rcases TmAt.cases htc with ⟨c, rfl, rfl⟩ | ⟨op, ts, p, vs', rfl, rfl, hp, hva⟩
      · refine iteF ?_
        exact ⟨_, _, _, _, _, rfl, ((s2.trans s3).trans s5).trans s1⟩
      · rw [show (tDs (Tm.node op ts).parts).isEmpty = false from by
          have wl : 2 ≤ ts.length := (okt.wf : (Tm.node op ts).WF).1
          cases ts with
          | nil => simp at wl
          | cons u us => rfl]
        refine iteT ⟨_, rfl, p, _, _, _, rfl, rfl, SqT.same s1 hp, atI_nat (j := 0) rfl, rfl, _, rfl, ?_⟩
        cases op with
        | true =>
          rw [decide_eq_false (show ¬ V.str (opS true) = V.str "|" from fun z => opS_ne (by have := V.str.inj z; rw [opS_and] at this; exact this))]
          exact iteF ⟨_, _, _, _, _, rfl, ((s2.trans s3).trans s5).trans s1⟩
        | false =>
          rw [decide_eq_true (show V.str (opS false) = V.str "|" by rw [opS_or])]
          refine iteT ?_
          have okts : ∀ u ∈ ts, TOk u := fun u hu' => walk_ok okt (part_walk (t := .node false ts) hu')
          have lts : ts.length ≤ 24 := by
            have w2 : WFs ts := (okt.wf : (Tm.node false ts).WF).2
            have := sizes_len w2
            have z : sizes ts ≤ 24 := okt.sz
            omega
          have lws : ws2.length = ts.length := mapD_len ha2
          refine ⟨_, rfl, aw, rfl, ⟨_, s1.seq ca_sq⟩, fun D6 nD6 => ?_⟩
          refine lcG (K := K) nD6 (src_list (s1.seq ca_sq)) (fun j => tDs ((W.take j).filter fun x => decide (∀ u ∈ ts, (u, x) ∈ T))) rfl (fun j _ => ⟨flats_tDs _, small1000 (by rw [tDs, List.length_map]; exact Nat.le_trans (List.length_filter_le _ _) (by rw [List.length_take]; omega))⟩) (fun j x H7 F G hj s7 _ hx kF kG => ?_) (fun H7 sv s7 hD7 hd7 => ?_)
          · obtain ⟨tx, etx, htx⟩ := tDs_get (DpAll.same (s1.trans s7) _ _ ca_ha) hx
            have okx := okW tx (List.mem_of_getElem? etx)
            have s17 := s1.trans s7
            refine ⟨rfl, _, rfl, r2, rfl, ⟨_, SqL.of (s17 _ _ (s5 _ _ hr2))⟩, fun D8 nD8 => ?_⟩
            refine lcB nD8 (src_list (SqL.of (s17 _ _ (s5 _ _ hr2)))) (fun m => (ts.take m).map fun u => V.bl (decide ((u, tx) ∈ T))) rfl (fun m _ => small1000 (by rw [List.length_map, List.length_take]; omega)) (fun m z H9 F' G' hm s9 _ hz kF' kG' => ?_) (fun H9 s9 hD9 => ?_)
            · obtain ⟨u, eu, hu'⟩ := tDs_get (DpAll.same ((s5.trans s17).trans s9) _ _ ha2) hz
              have oku := okts u (List.mem_of_getElem? eu)
              refine ⟨rfl, _, rfl, _, rfl, (by show 2 ≤ sizeLine; decide), fun p10 np10 => ?_⟩
              have s10 := same_upd (o := .tup [z, x]) np10
              have s19 := (s17.trans s9).trans s10
              refine ⟨_, rfl, d, kvs, pkey (u, tx), rfl, Rd.of (s19 _ _ hdc), (tpc.ts (TS.same s19)).at_, pr_dp np10 hu' (Dp.same s9 _ _ htx), pkey_ok oku.dp okx.dp, ?_⟩
              rw [tpc.some]
              exact kF' _ _ s10 (take_map_snoc (fun u => V.bl (decide ((u, tx) ∈ T))) eu)
            · have eb : ((ts.take ws2.length).map fun u => V.bl (decide ((u, tx) ∈ T))) = (ts.map fun u => decide ((u, tx) ∈ T)).map V.bl := by
                rw [lws, List.take_length, List.map_map]; rfl
              rw [eb] at hD9
              refine ⟨D8, _, rfl, SqL.of hD9, _, rfl, ?_⟩
              rw [bls_all]
              have fs := filter_snoc (f := fun x => decide (∀ u ∈ ts, (u, x) ∈ T)) etx
              have s8 : Same H7 H9 := fun b o e => s9 b o e
              by_cases hall : ∀ u ∈ ts, (u, tx) ∈ T
              · rw [List.all_eq_true.mpr (fun u hu' => decide_eq_true (hall u hu'))]
                rw [if_pos (decide_eq_true hall)] at fs
                refine iteT ⟨_, rfl, kF _ _ _ s8 (Dp.same s8 _ _ htx) ?_⟩
                rw [fs, tDs_app]; rfl
              · have ef : (ts.all fun u => decide ((u, tx) ∈ T)) = false := by
                  rw [Bool.eq_false_iff]; exact fun z => hall fun u hu' => of_decide_eq_true (List.all_eq_true.mp z u hu')
                rw [ef]
                rw [if_neg (by rw [decide_eq_false hall]; decide)] at fs
                refine iteF (kG _ s8 ?_)
                rw [fs]
          · rw [mapD_len ca_ha, List.take_length] at hd7
            have s17 := s1.trans s7
            refine ⟨_, rfl, r2, rfl, ⟨_, SqL.of (s17 _ _ (s5 _ _ hr2))⟩, fun D8 nD8 => ?_⟩
            refine lcB nD8 (src_list (SqL.of (s17 _ _ (s5 _ _ hr2)))) (fun m => List.replicate m (V.bl true)) rfl (fun m _ => small1000 (by rw [List.length_replicate]; omega)) (fun m z H9 F' G' hm s9 _ hz kF' kG' => ?_) (fun H9 s9 hD9 => ?_)
            · obtain ⟨u, eu, hu'⟩ := tDs_get (DpAll.same ((s5.trans s17).trans s9) _ _ ha2) hz
              have mu := List.mem_of_getElem? eu
              have oku := okts u mu
              refine ⟨rfl, _, rfl, _, rfl, (by show 2 ≤ sizeLine; decide), fun p10 np10 => ?_⟩
              have s10 := same_upd (o := .tup [z, .ref p]) np10
              have s19 := (s17.trans s9).trans s10
              refine ⟨_, rfl, d, kvs, pkey (u, Tm.node false ts), rfl, Rd.of (s19 _ _ hdc), (tpc.ts (TS.same s19)).at_, pr_dp np10 hu' (Dp.same (s17.trans s9) _ _ htc), pkey_ok oku.dp okt.dp, ?_⟩
              rw [tpc.some, decide_eq_true (tab.upP ts inW u mu)]
              exact kF' _ _ s10 (replicate_snoc _ _)
            rw [bls_true] at hD9
            refine ⟨D8, _, rfl, SqL.of hD9, _, rfl, ?_⟩
            rw [all_true]
            refine iteF ⟨_, rfl, D6, rfl, ⟨_, SqL.of (s9 _ _ hD7)⟩, fun D9 nD9 => ?_⟩
            have s18 := s17.trans s9
            have hd8 := DpAll.same s9 _ _ hd7
            have lsv : sv.length ≤ 24 := by
              rw [mapD_len hd7]
              exact Nat.le_trans (List.length_filter_le _ _) hW
            refine lcB nD9 (src_list (SqL.of (s9 _ _ hD7))) (fun m => List.replicate m (V.bl true)) rfl (fun m _ => small1000 (by rw [List.length_replicate]; omega)) (fun m z H10 F' G' hm s10 _ hz kF' kG' => ?_) (fun H10 s10 hD10 => ?_)
            · obtain ⟨x, exx, hx'⟩ := tDs_get (DpAll.same s10 _ _ hd8) hz
              obtain ⟨mxW, mxa⟩ := List.mem_filter.mp (List.mem_of_getElem? exx)
              have okx := okW x mxW
              refine ⟨rfl, _, rfl, _, rfl, (by show 2 ≤ sizeLine; decide), fun p11 np11 => ?_⟩
              have s11 := same_upd (o := .tup [.ref p, z]) np11
              have s19 := (s18.trans s10).trans s11
              refine ⟨_, rfl, d, kvs, pkey (Tm.node false ts, x), rfl, Rd.of (s19 _ _ hdc), (tpc.ts (TS.same s19)).at_, pr_dp np11 (Dp.same (s18.trans s10) _ _ htc) hx', pkey_ok okt.dp okx.dp, ?_⟩
              rw [tpc.some, decide_eq_true (tab.up ts inW x mxW (of_decide_eq_true mxa))]
              exact kF' _ _ s11 (replicate_snoc _ _)
            rw [bls_true] at hD10
            refine ⟨D9, _, rfl, SqL.of hD10, _, rfl, ?_⟩
            rw [all_true]
            exact iteF ⟨_, _, _, _, _, rfl, ((s2.trans s3).trans s5).trans (s18.trans s10)⟩
  · rintro σ H2 ⟨x2, x3, x4, x5, x6, rfl, s2⟩
    exact q H2 s2
end
end FD
end T_F4

section T_F5
set_option Elab.async false
set_option linter.all false
set_option maxRecDepth 100000
set_option maxHeartbeats 2000000
/-! The law: a table is right. -/
namespace FD
open PySem L2 FF FW
def rLenK (K : PySem.W.Frag) : List V → Hp → VK → Prop := fun xs H Q => ∃ x n, xs = [x] ∧ LenV K x H n ∧ Q (.int (n : Nat)) H
theorem call_lenK (K : PySem.W.Frag) {X : Cx} (hK : X.K = K := by rfl) : CallR X (.builtin "len") (rLenK K) := by subst hK; exact call_len
def RwP (K : PySem.W.Frag) (H : Hp) (v : V) (q : Tm × Tm) : Prop := ∃ r b, v = .ref r ∧ H r = some (.tup [.ref b, .bl true]) ∧ Dp K H (.ref b) (prD2 q)
theorem rowsP {K : PySem.W.Frag} {H : Hp} {vs : List V} {T : List (Tm × Tm)} (h : Paired (RwP K H) vs T) (ok : ∀ p ∈ T, POk p) : ∃ (ts : List Addr) (kvs : List NV), vs = ts.map V.ref ∧ Paired (fun t (kv : NV) => SqT K H t [kv.2.1, kv.2.2] ∧ ∃ b, kv.2.1 = V.ref b) ts kvs ∧ TP K H kvs T := by
  induction h with
  | nil => exact ⟨[], [], rfl, .nil, ⟨fun p hp => by simp at hp, rfl⟩⟩
  | @cons v q vs T a b ih =>
    obtain ⟨ts, kvs, rfl, h1, h2⟩ := ih fun p hp => ok p (List.mem_cons_of_mem _ hp)
    obtain ⟨r, bb, rfl, hr, hb⟩ := a
    have okq := ok q List.mem_cons_self
    refine ⟨r :: ts, (pkey q, .ref bb, .bl true) :: kvs, rfl, .cons ⟨SqT.of hr, bb, rfl⟩ h1, ⟨fun p hp => ?_, by rw [List.map_cons, h2.ks]; rfl⟩⟩
    rcases List.mem_cons.mp hp with rfl | hp
    · exact ⟨by rw [pkey_data]; exact hb, pkey_ok (a := q.1) (b := q.2) okq.l.dp okq.r.dp⟩
    · exact h2.at_ p hp
section
variable {P : Program} {w : World} {K : PySem.W.Frag} {mg : Str → Option Value} {base : Heap}
def spTableR (K : PySem.W.Frag) : Sp := fun vs H Q _ => ∃ (a ya : Addr) (z : V) (us ys : List V) (T : List (Tm × Tm)) (rs : List Rl) (p : Tm × Tm), vs = [.ref ya, z, .ref a] ∧ SqL K H ya ys ∧ DpAll K H ys (rs.map rlD) ∧ Dp K H z (prD2 p) ∧ SqL K H a us ∧ DpAll K H us (T.map prD2) ∧ T.Nodup ∧ T.length ≤ 600 ∧ (∀ q ∈ T, POk q) ∧ p ∉ T ∧ SOk rs p ∧ wordsOf T = wordsOf (rpairs rs p) ∧ TabOk rs (wordsOf T) (fun a b => (a, b) ∈ T) ∧ ∀ H', Same H H' → Q (.bl true) H'
abbrev n64 : List Str := ["_law_premises_here", "_law_aim", "_law_table", "_law_pairs_here", "_law_words_here", "_law_one", "_law_word", "_law_name", "_law_left", "_law_right"]
theorem sc64 : FnScope n64 ["_law_premises_here", "_law_aim", "_law_table"] (defScope (topS 64)) := ⟨rfl, rfl, rfl, by decide +kernel, rfl, by decide +kernel, by decide +kernel⟩
theorem ok_tableR (D : Df K mg "_law_table_right" (topS 64) ["_law_premises_here", "_law_aim", "_law_table"]) (B : Bi mg) (FW_ : Fn P w K mg base 8 "_law_words" ["_law_pairs_here"] (spLWords K)) (FP : Fn P w K mg base 1 "_law_pairs" ["_law_premises_here", "_law_aim"] (spPairsIn K))
    (FC : Fn P w K mg base 2 "_law_closed" ["_law_pairs_here", "_law_words_here"] (spClosed K w)) : Fn P w K mg base 9 "_law_table_right" ["_law_premises_here", "_law_aim", "_law_table"] (spTableR K) := by
  refine D.ok sc64 (fun vs H Q E h => ?_) (fun f cdv A outer s H vs Q E hr h => ?_)
  · obtain ⟨a, ya, z, us, ys, T, rs, p, rfl, _⟩ := h
    rfl
  obtain ⟨a, ya, z, us, ys, T, rs, p, rfl, hY, hys, hz, hS, ha, nd, hl, okT, hp, ok, ew, tab, q⟩ := h
  have hu := hr.units
  have hr1 : Room 1 _ := hr.mono (by decide)
  have hr2 : Room 2 _ := hr.mono (by decide)
  refine ⟨_, pss_cons (ps_if (PW.pt (pw_or (pt_not (pt_val (pe_callB (call_isD K) (by rfl) B.isi b_isi (pa_cons (pv 2) (pa_cons (pe_bltn (v := .ty "list") (by rfl) B.lst b_lst rfl) pa_nil)))))
      (pw_or1 (pt_not (pt_val (pe_callB (cr_all rfl) (by rfl) B.all b_all (pa_cons (pe_lc (own := [("_law_one", 5)]) (g := gName 5) (tt := tYes) (by rfl) sc64.nd (pi_list (pv 2)) (blkOk_by (own := [("_law_one", 5)]) (N := n64) (sc := defScope (topS 64)) (by decide +kernel))
        (fun _ _ _ _ _ => pg_name (i := 5) sc64.nd rfl (Or.inl rfl)) (fun _ _ _ _ _ => pts_nil) (fun _ _ _ _ _ => pe_and (pe_callB (call_isD K) (by rfl) B.isi b_isi (pa_cons (pv 5) (pa_cons (pe_bltn (v := .ty "tuple") (by rfl) B.tup b_tup rfl) pa_nil)))
          (pe_one (pe_cmpR op_eq (pe_callB (call_lenK K) (by rfl) B.len b_len (pa_cons (pv 5) pa_nil)) pe_int (nomark _))))) pa_nil))))))) (pss_one (ps_ret pe_bl)) pss_nil)
    (pss_cons (ps_set (i := 3) sc64.nd rfl (.inr rfl) (pe_callTy (call_dictN rfl hu) (by rfl) B.dict b_dict (pa_cons (pe_lc (own := [("_law_one", 5)]) (g := gName 5) (tt := tYes) (by rfl) sc64.nd (pi_list (pv 2)) (blkOk_by (own := [("_law_one", 5)]) (N := n64) (sc := defScope (topS 64)) (by decide +kernel))
        (fun _ _ _ _ _ => pg_name (i := 5) sc64.nd rfl (Or.inl rfl)) (fun _ _ _ _ _ => pts_nil) (fun _ _ _ _ _ => pe_tup (pa_cons (pv 5) (pa_cons pe_bl pa_nil)))) pa_nil)))
    (pss_cons (ps_set (i := 4) sc64.nd rfl (.inl rfl) (pe_fn FW_ hr (by rfl) (pa_cons (pv 2) pa_nil)))
    (pss_cons (ps_if (PW.pt (pw_or (pt_cmpR op_lt (pe_callB call_lenN (by rfl) B.len b_len (pa_cons (pv 3) pa_nil)) (pe_callB call_len (by rfl) B.len b_len (pa_cons (pv 2) pa_nil)) (nomark _))
        (pw_or (pt_cmpR op_gt (pe_callB call_len (by rfl) B.len b_len (pa_cons (pv 4) pa_nil)) pe_int (nomark _)) (pw_or1 (pt_cmpR (op_inN hu) (pv 1) (pv 3) (by rfl)))))) (pss_one (ps_ret pe_bl)) pss_nil)
    (pss_cons (ps_if (pt_not (pt_val (pe_callB (cr_all rfl) (by rfl) B.all b_all (pa_cons (pe_lc (own := [("_law_word", 6)]) (g := gName 6) (tt := tYes) (by rfl) sc64.nd (pi_list (pe_op op_cat (pv 4) (pe_fn FW_ hr (by rfl) (pa_cons (pe_fn FP hr1 (by rfl) (pa_cons (pv 0) (pa_cons (pv 1) pa_nil))) pa_nil)))) (blkOk_by (own := [("_law_word", 6)]) (N := n64) (sc := defScope (topS 64)) (by decide +kernel))
        (fun _ _ _ _ _ => pg_name (i := 6) sc64.nd rfl (Or.inl rfl)) (fun _ _ _ _ _ => pts_nil) (fun _ _ _ _ _ => pe_cmpR (op_inNK K w hu) (pe_tup (pa_cons (pv 6) (pa_cons (pv 6) pa_nil))) (pv 3) (by rfl))) pa_nil)))) (pss_one (ps_ret pe_bl)) pss_nil)
    (pss_cons (ps_if (pt_not (pt_val (pe_callB (cr_all rfl) (by rfl) B.all b_all (pa_cons (pe_lc (own := [("_law_name", 7), ("_law_left", 8), ("_law_right", 9)]) (tt := tYes) (by rfl) sc64.nd (pi_list (pv 0)) (blkOk_by (own := [("_law_name", 7), ("_law_left", 8), ("_law_right", 9)]) (N := n64) (sc := defScope (topS 64)) (by decide +kernel))
        (fun _ _ _ _ _ => pg_tupK K 3 rfl (pgs_cons (pg_name (i := 7) sc64.nd rfl (.inl rfl)) (pgs_cons (pg_name (i := 8) sc64.nd rfl (.inl rfl)) (pgs_cons (pg_name (i := 9) sc64.nd rfl (.inl rfl)) pgs_nil)))) (fun _ _ _ _ _ => pts_nil) (fun _ _ _ _ _ => pe_cmpR (op_inNK K w hu) (pe_tup (pa_cons (pv 8) (pa_cons (pv 9) pa_nil))) (pv 3) (by rfl))) pa_nil)))) (pss_one (ps_ret pe_bl)) pss_nil)
    (pss_one (ps_ret (pe_fn FC hr2 (by rfl) (pa_cons (pv 3) (pa_cons (pv 4) pa_nil)))))))))), ?_⟩
  have hul : us.length = T.length := mapD_len ha
  have wdl : (wordsOf T).length ≤ 24 := by rw [ew]; exact ok.wd
  have voc : IsVoc (pairTs T) (wordsOf T) := words_is (wfp_of okT)
  have okW : ∀ t ∈ wordsOf T, TOk t := fun t ht => pairTs_ok okT ((voc.mem t).mp ht)
  refine ⟨_, rfl, _, "list", _, _, rfl, .lst hS ha, k_ll, _, rfl, iteF ?_⟩
  refine ⟨_, rfl, a, rfl, ⟨_, hS⟩, fun D1 nD1 => ?_⟩
  refine lcB nD1 (src_list hS) (fun i => List.replicate i (V.bl true)) rfl (fun i _ => small1000 (by rw [List.length_replicate]; omega)) (fun i x H2 F G hi s2 _ hx kF kG => ?_) (fun H2 s2 hD2 => ?_)
  · obtain ⟨qq, eq', hq⟩ := mapD_get (DpAll.same s2 _ _ ha) hx
    obtain ⟨t, x1, y1, rfl, ht, h1, h2⟩ := pr_inv hq
    refine ⟨rfl, _, rfl, _, "tuple", _, _, rfl, hq, k_tt, _, rfl, iteT ?_⟩
    exact ⟨_, rfl, _, 2, rfl, .inr ⟨_, ht, rfl⟩, rfl, kF _ _ (Same.refl _) (replicate_snoc _ _)⟩
  rw [bls_true] at hD2
  refine ⟨D1, _, rfl, SqL.of hD2, _, rfl, ?_⟩
  rw [all_true]
  refine iteF ?_
  -- the dict
  have hS2 := s2.seq hS
  have ha2 := DpAll.same s2 _ _ ha
  refine ⟨_, rfl, a, rfl, ⟨_, hS2⟩, fun D3 nD3 => ?_⟩
  refine lcR (R := RwP K) nD3 (src_list hS2) (fun i => T.take i) rfl (fun i _ => small1000 (by rw [List.length_take]; omega)) (fun Ha Hb v t k hD x hx => ?_) (fun i x Ha F G hi sa _ hx kF kG => ?_) (fun H3 vs3 s3 hD3 hp3 => ?_)
  · obtain ⟨r, b, rfl, e, hy⟩ := hx
    have t1 : FW.TS Ha Hb := by
      intro b xs h
      rcases h with h | ⟨o, h⟩
      · exact .inl (k _ _ h (fun z => by rw [z, hD] at h; cases h))
      · exact .inr ⟨o, k _ _ h (fun z => by rw [z, hD] at h; cases h)⟩
    exact ⟨r, b, rfl, k _ _ e (fun z => by rw [z, hD] at e; cases e), Dp.ts t1 _ _ (flat_prD2 _) hy⟩
  · obtain ⟨qq, eq', hq⟩ := mapD_get (DpAll.same sa _ _ ha2) hx
    obtain ⟨t, x1, y1, rfl, ht, h1, h2⟩ := pr_inv hq
    refine ⟨rfl, _, rfl, (by show 2 ≤ sizeLine; decide), fun p5 np5 => kF _ _ qq (same_upd np5) ⟨p5, t, rfl, upd_same, Dp.same (same_upd np5) _ _ hq⟩ (take_snoc eq')⟩
  rw [hul, List.take_length] at hp3
  obtain ⟨ts, kvs, rfl, hpp, tp3⟩ := rowsP hp3 okT
  have ndk : (kvs.map (·.1)).Nodup := by
    rw [tp3.ks]
    unfold List.Nodup at *
    rw [List.pairwise_map]
    exact nd.imp fun {a b} h e => h (pkey_inj e)
  refine ⟨D3, ts, kvs, rfl, SqL.of hD3, hpp, tp3.at_, ndk, fun d nd_ => ?_⟩
  have s4 := same_upd (o := dN w d kvs) nd_
  have s04 := (s2.trans s3).trans s4
  have tp4 := tp3.ts (TS.same s4)
  have lk : kvs.length = T.length := by have := congrArg List.length tp3.ks; simpa using this
  -- the words
  refine ⟨_, rfl, a, us, T, rfl, s04.seq hS, DpAll.same s04 _ _ ha, okT, hl, by omega, fun rw_ ws H5 s5 nrw hrw haw => ?_⟩
  have s05 := s04.trans s5
  have hd5 : H5 d = some (dN w d kvs) := s5 _ _ upd_same
  have tp5 := tp4.ts (TS.same s5)
  have lws : ws.length = (wordsOf T).length := mapD_len haw
  refine ⟨_, rfl, d, kvs, rfl, Rd.of hd5, _, rfl, _, us.length, rfl, .inl ⟨_, s05.seq hS, rfl⟩, _, _, rfl, rfl, _, rfl, ?_⟩
  rw [decide_eq_false (show ¬ ((kvs.length : Nat) : Int) < ((us.length : Nat) : Int) by omega)]
  refine iteF ⟨_, rfl, _, ws.length, rfl, .inl ⟨_, SqL.of hrw, rfl⟩, _, _, rfl, rfl, _, rfl, ?_⟩
  rw [decide_eq_false (show ¬ ((ws.length : Nat) : Int) > 24 by omega)]
  refine iteF ⟨_, rfl, _, rfl, d, kvs, pkey p, rfl, Rd.of hd5, tp5.at_, by rw [pkey_data]; exact Dp.same s05 _ _ hz, pkey_ok (a := p.1) (b := p.2) ok.gl.l.dp ok.gl.r.dp, _, rfl, ?_⟩
  rw [show pkey p = pkey (p.1, p.2) from rfl, tp5.some, decide_eq_false hp]
  refine iteF ?_
  -- each word with itself
  refine ⟨_, rfl, _, rfl, _, rfl, ya, z, ys, rs, p, rfl, s05.seq hY, DpAll.same s05 _ _ hys, Dp.same s05 _ _ hz, Nat.le_trans ok.le (by decide), fun r6 w6 H6 s6 nr6 hr6 ha6 => ?_⟩
  refine ⟨r6, w6, rpairs rs p, rfl, SqL.of hr6, ha6, ok.pairs, ?_, Nat.lt_of_le_of_lt ok.wd (by decide), fun r7 w7 H7 s7 nr7 hr7 ha7 => ?_⟩
  · have := ok.le
    rw [rpairs, List.length_append, List.length_map]; simp only [List.length_cons, List.length_nil]; omega
  have s57 := s6.trans s7
  have lw7 : w7.length = (wordsOf T).length := by rw [ew]; exact mapD_len ha7
  refine ⟨rw_, r7, ws, w7, rfl, rfl, s57 _ _ hrw, hr7, small (by omega), fun r8 nr8 => ?_⟩
  have s8 := same_upd (o := .lst (ws ++ w7)) nr8
  have haa : DpAll K (upd H7 r8 (.lst (ws ++ w7))) (ws ++ w7) (tDs (wordsOf T ++ wordsOf T)) := by
    rw [tDs_app]
    refine DpAll.append (DpAll.same (s57.trans s8) _ _ haw) ?_
    rw [ew]; exact DpAll.same s8 _ _ ha7
  have s58 := s57.trans s8
  refine ⟨r8, rfl, ⟨_, SqL.of upd_same⟩, fun D9 nD9 => ?_⟩
  refine lcB nD9 (src_list (SqL.of upd_same)) (fun i => List.replicate i (V.bl true)) rfl (fun i hi => small1000 (by rw [List.length_replicate]; rw [List.length_append] at hi; omega)) (fun i x Ha F G hi sa _ hx kF kG => ?_) (fun Ha sa hDa => ?_)
  · obtain ⟨t, et, ht⟩ := tDs_get (DpAll.same sa _ _ haa) hx
    have mt : t ∈ wordsOf T := by
      rcases List.mem_append.mp (List.mem_of_getElem? et) with h | h <;> exact h
    refine ⟨rfl, _, rfl, _, rfl, (by show 2 ≤ sizeLine; decide), fun p10 np10 => ?_⟩
    have s10 := same_upd (o := .tup [x, x]) np10
    have s510 := (s58.trans sa).trans s10
    have tpx := tp5.ts (TS.same s510)
    refine ⟨_, rfl, d, kvs, pkey (t, t), rfl, Rd.of (s510 _ _ hd5), tpx.at_, pr_dp np10 ht ht, pkey_ok (okW t mt).dp (okW t mt).dp, ?_⟩
    rw [tpx.some, decide_eq_true (tab.refl t mt)]
    exact kF _ _ s10 (replicate_snoc _ _)
  rw [bls_true] at hDa
  refine ⟨D9, _, rfl, SqL.of hDa, _, rfl, ?_⟩
  rw [all_true]
  refine iteF ?_
  -- the rules
  have s5a := s58.trans sa
  have s0a := s05.trans s5a
  have hYa := s0a.seq hY
  have hyl : ys.length = rs.length := mapD_len hys
  have rle := ok.le
  refine ⟨_, rfl, ya, rfl, ⟨_, hYa⟩, fun D11 nD11 => ?_⟩
  refine lcB nD11 (src_list hYa) (fun i => List.replicate i (V.bl true)) rfl (fun i hi => small1000 (by rw [List.length_replicate]; omega)) (fun i x Hb F G hi sb _ hx kF kG => ?_) (fun Hb sb hDb => ?_)
  · obtain ⟨r, er, hr'⟩ := mapD_get (DpAll.same (s0a.trans sb) _ _ hys) hx
    have mr : r ∈ rs := List.mem_of_getElem? er
    have okr := ok.rl r mr
    obtain ⟨t, x1, y1, rfl, ht, h1, h2⟩ := rl_inv hr'
    refine ⟨t, _, rfl, ht, rfl, _, _, rfl, _, _, rfl, _, _, rfl, rfl, rfl, ?_⟩
    refine ⟨_, rfl, _, rfl, (by show 2 ≤ sizeLine; decide), fun p12 np12 => ?_⟩
    have s12 := same_upd (o := .tup [x1, y1]) np12
    have s512 := (s5a.trans sb).trans s12
    have tpx := tp5.ts (TS.same s512)
    refine ⟨_, rfl, d, kvs, pkey (r.2.1, r.2.2), rfl, Rd.of (s512 _ _ hd5), tpx.at_, pr_dp np12 h1 h2, pkey_ok okr.pr.l.dp okr.pr.r.dp, ?_⟩
    rw [tpx.some, decide_eq_true (tab.rule r mr)]
    exact kF _ _ s12 (replicate_snoc _ _)
  rw [bls_true] at hDb
  refine ⟨D11, _, rfl, SqL.of hDb, _, rfl, ?_⟩
  rw [all_true]
  have s5b := s5a.trans sb
  refine iteF ⟨_, rfl, _, rfl, d, rw_, ws, kvs, T, rs, wordsOf T, rfl, s5b _ _ hd5, tp5.ts (TS.same s5b), SqL.of (s5b _ _ hrw), DpAll.same s5b _ _ haw, okW, okT, wdl, tab, fun H13 s13 => ?_⟩
  exact q H13 ((s05.trans s5b).trans s13)
end
end FD
end T_F5

section T_G1
set_option Elab.async false
set_option linter.all false
set_option maxRecDepth 100000
set_option maxHeartbeats 2000000
/-! The law: draws. -/
namespace FD
open PySem L2 FF FW
/-- the source of digits stands at S -/
def SrcA (H : Hp) (S : Addr) : Prop := ∃ (l : Addr) (ns : List Int) (i c m n : Int), H S = some (.lst [.ref l, .int i, .int c, .int m, .int n]) ∧ H l = some (.lst (ns.map V.int)) ∧ ns.length ≤ 63 ∧ 0 ≤ i ∧ 0 ≤ m ∧ m < 2147483629
theorem src_ne {H : Hp} {S l : Addr} {ns : List Int} {i c m n : Int} (h1 : H S = some (.lst [.ref l, .int i, .int c, .int m, .int n])) (h2 : H l = some (.lst (ns.map V.int))) : l ≠ S := fun z => by
  rw [z, h1] at h2
  have e := (HO.lst.inj (Option.some.inj h2))
  cases ns with
  | nil => simp at e
  | cons a ns => simp at e
theorem SrcA.same {H H' : Hp} {S : Addr} (h : SrcA H S) (k : Same H H') : SrcA H' S := by
  obtain ⟨l, ns, i, c, m, n, h1, h2, r⟩ := h
  exact ⟨l, ns, i, c, m, n, k _ _ h1, k _ _ h2, r⟩
/-- all but S (and R) is as it was, S is a source still -/
structure Dr (S R : Addr) (H H' : Hp) : Prop where
  kp : Kp S R H H'
  so : SrcA H' S
  nr : ∀ l r, H S = some (.lst (V.ref l :: r)) → ∃ r', H' S = some (.lst (V.ref l :: r'))
theorem Dr.refl {S R : Addr} {H : Hp} (h : SrcA H S) : Dr S R H H := ⟨Kp.refl _, h, fun l r e => ⟨r, e⟩⟩
theorem Dr.trans {S R : Addr} {H H1 H2 : Hp} (a : Dr S R H H1) (b : Dr S R H1 H2) : Dr S R H H2 := ⟨a.kp.trans b.kp, b.so, fun l r e => by
  obtain ⟨r', e'⟩ := a.nr l r e
  exact b.nr l r' e'⟩
theorem Dr.same {S R : Addr} {H H1 H2 : Hp} (a : Dr S R H H1) (b : Same H1 H2) : Dr S R H H2 := ⟨a.kp.trans (Kp.same b), a.so.same b, fun l r e => by
  obtain ⟨r', e'⟩ := a.nr l r e
  exact ⟨r', b _ _ e'⟩⟩
theorem Dr.of {S R : Addr} {H H1 : Hp} (a : Dr S S H H1) : Dr S R H H1 := ⟨fun x o h n _ => a.kp x o h n n, a.so, a.nr⟩
/-- a write at a place that was free at the beginning -/
theorem Dr.write {S R a : Addr} {H H1 : Hp} {o : HO} (d : Dr S R H H1) (src : SrcA H S) (na : H a = none) : Dr S R H (L2.upd H1 a o) := by
  obtain ⟨l, ns, i, c, m, n, h1, h2, h3⟩ := src
  have naS : a ≠ S := (ne_of_none h1 na).symm
  have nal : a ≠ l := (ne_of_none h2 na).symm
  refine ⟨fun x u e n1 n2 => ?_, ?_, fun l r e => ?_⟩
  · rw [upd_ne (ne_of_none e na)]; exact d.kp _ _ e n1 n2
  · obtain ⟨l', ns', i', c', m', n', e1, e2, e3⟩ := d.so
    obtain ⟨r', er⟩ := d.nr _ _ h1
    have el : l' = l := by rw [e1] at er; simp at er; exact er.1
    subst el
    exact ⟨l', ns', i', c', m', n', by rw [upd_ne naS.symm]; exact e1, by rw [upd_ne nal.symm]; exact e2, e3⟩
  · obtain ⟨r', e'⟩ := d.nr l r e
    exact ⟨r', by rw [upd_ne naS.symm]; exact e'⟩
theorem Dr.tt {S : Addr} {H H' : Hp} (a : Dr S S H H') (h : SrcA H S) : Tt H H' := by
  obtain ⟨l, ns, i, c, m, n, h1, _⟩ := h
  exact a.kp.tt h1 h1 trivial trivial
theorem Dr.free {S R r : Addr} {H H' : Hp} (a : Dr S R H H') (h : H' r = none) (n1 : r ≠ S) (n2 : r ≠ R) : H r = none := by
  cases e : H r with
  | none => rfl
  | some o => rw [a.kp _ _ e n1 n2] at h; cases h
section
variable {P : Program} {w : World} {K : PySem.W.Frag} {mg : Str → Option Value} {base : Heap}
/-! ### _law_source -/
def spSource (K : PySem.W.Frag) : Sp := fun vs H Q _ => ∃ (a : Addr) (ns : List Int), vs = [.ref a] ∧ SqL K H a (ns.map V.int) ∧ ns.length ≤ 63 ∧ ∀ S H', Same H H' → H S = none → SrcA H' S → Q (.ref S) H'
theorem sc40 : FnScope ["_law_script"] ["_law_script"] (defScope (topS 40)) := ⟨rfl, rfl, rfl, by decide +kernel, rfl, by decide +kernel, by decide +kernel⟩
theorem ok_source (D : Df K mg "_law_source" (topS 40) ["_law_script"]) (B : Bi mg) : Fn P w K mg base 1 "_law_source" ["_law_script"] (spSource K) := by
  refine D.ok sc40 (fun vs H Q E h => ?_) (fun f cdv A outer s H vs Q E hr h => ?_)
  · obtain ⟨a, ns, rfl, _⟩ := h
    rfl
  obtain ⟨a, ns, rfl, hS, hl, q⟩ := h
  refine ⟨_, pss_one (ps_ret (pe_lst (pa_cons (pe_callTy call_list_of (by rfl) B.lst b_lst (pa_cons (pe_slice sl_list (pv 0) po_none (po_some pe_int)) pa_nil)) (pa_cons pe_int (pa_cons pe_int (pa_cons pe_int (pa_cons pe_int pa_nil))))))), ?_⟩
  refine ⟨_, rfl, 63, rfl, a, _, rfl, hS, fun p np => ?_⟩
  have e : cutV (ns.map V.int) none (some 63) = ns.map V.int := by
    unfold cutV
    rw [HT.sIx_none, show (63 : Int) = ((63 : Nat) : Int) from rfl, HT.sIx_nat, List.drop_zero]
    exact List.take_of_length_le (by rw [List.length_map]; omega)
  rw [e]
  have s1 := same_upd (o := .lst (ns.map V.int)) np
  refine ⟨p, _, rfl, .inl (SqL.of upd_same), fun l nl => ?_⟩
  have s2 := same_upd (o := .lst (ns.map V.int)) nl
  refine ⟨(by show 5 ≤ sizeLine; decide), fun S nS => ?_⟩
  have s3 := same_upd (o := .lst [V.ref l, .int 0, .int 0, .int 3818, .int 0]) nS
  exact q S _ ((s1.trans s2).trans s3) (s1.free (s2.free nS)) ⟨l, ns, 0, 0, 3818, 0, upd_same, s3 _ _ upd_same, hl, by decide, by decide, by decide⟩
/-! ### _law_take -/
def spTake (K : PySem.W.Frag) : Sp := fun vs H Q _ => ∃ (S : Addr) (many : Int), vs = [.ref S, .int many] ∧ SrcA H S ∧ 0 < many ∧ many < 1073741824 ∧ ∀ k H', 0 ≤ k → k < many → Dr S S H H' → Q (.int k) H'
abbrev n41 : List Str := ["_law_source_here", "_law_many", "_law_cell", "_law_digit", "_law_mixed_here"]
theorem sc41 : FnScope n41 ["_law_source_here", "_law_many"] (defScope (topS 41)) := ⟨rfl, rfl, rfl, by decide +kernel, rfl, by decide +kernel, by decide +kernel⟩
theorem ok_take (D : Df K mg "_law_take" (topS 41) ["_law_source_here", "_law_many"]) (B : Bi mg) : Fn P w K mg base 1 "_law_take" ["_law_source_here", "_law_many"] (spTake K) := by
  refine D.ok sc41 (fun vs H Q E h => ?_) (fun f cdv A outer s H vs Q E hr h => ?_)
  · obtain ⟨S, many, rfl, _⟩ := h
    rfl
  obtain ⟨S, many, rfl, src, m0, m1, q⟩ := h
  refine ⟨_, Evl.pss_cut (ps_if (PW.pt (pw_and (pt_cmpR op_eq (pe_ix ix_list (pv 0) pe_int (fun _ _ => rfl)) pe_int (nomark _)) (pw_and1 (pt_cmpR op_lt (pe_ix ix_list (pv 0) pe_int (fun _ _ => rfl)) (pe_callB call_len (by rfl) B.len b_len (pa_cons (pe_ix ix_list (pv 0) pe_int (fun _ _ => rfl)) pa_nil)) (nomark _)))))
      (pss_cons (ps_set (i := 2) sc41.nd rfl (.inl rfl) (pe_ix ix_list (pe_ix ix_list (pv 0) pe_int (fun _ _ => rfl)) (pe_ix ix_list (pv 0) pe_int (fun _ _ => rfl)) (fun _ _ => rfl)))
      (pss_cons (ps_asg (pe_op op_add (pe_ix ix_list (pv 0) pe_int (fun _ _ => rfl)) pe_int) (pg_sub (pv 0) pe_int set_list))
      (pss_one (ps_if (pt_cmpR op_ge (pv 2) (pe_op op_pow pe_int pe_int) (nomark _))
        (pss_one (ps_asg (pv 2) (pg_sub (pv 0) pe_int set_list)))
        (pss_one (ps_asg (pe_op op_mod (pe_callTy call_int1 (by rfl) B.int b_int (pa_cons (pe_op op_add (pe_op op_add (pe_op op_mul (pe_ix ix_list (pv 0) pe_int (fun _ _ => rfl)) pe_int) (pe_op op_mul (pe_op op_mod (pe_callTy call_int1 (by rfl) B.int b_int (pa_cons (pv 2) pa_nil)) pe_int) pe_int)) pe_int) pa_nil)) pe_int) (pg_sub (pv 0) pe_int set_list))))))) pss_nil)
    (pss_cons (ps_if (pt_cmpR op_gt (pe_ix ix_list (pv 0) pe_int (fun _ _ => rfl)) pe_int (nomark _))
      (pss_cons (ps_set (i := 3) sc41.nd rfl (.inl rfl) (pe_op op_mod (pe_callTy call_int1 (by rfl) B.int b_int (pa_cons (pe_ix ix_list (pv 0) pe_int (fun _ _ => rfl)) pa_nil)) (pv 1)))
      (pss_cons (ps_asg (pe_op op_fdiv (pe_ix ix_list (pv 0) pe_int (fun _ _ => rfl)) (pv 1)) (pg_sub (pv 0) pe_int set_list))
      (pss_one (ps_ret (pv 3))))) pss_nil)
    (pss_cons (ps_asg (pe_op op_add (pe_ix ix_list (pv 0) pe_int (fun _ _ => rfl)) pe_int) (pg_sub (pv 0) pe_int set_list))
    (pss_cons (ps_set (i := 4) sc41.nd rfl (.inl rfl) (pe_op op_add (pe_op op_mod (pe_callTy call_int1 (by rfl) B.int b_int (pa_cons (pe_op op_mul (pe_ix ix_list (pv 0) pe_int (fun _ _ => rfl)) (pe_ix ix_list (pv 0) pe_int (fun _ _ => rfl))) pa_nil)) pe_int) (pe_op op_mul pe_int (pe_ix ix_list (pv 0) pe_int (fun _ _ => rfl)))))
    (pss_cons (ps_asg (pe_op op_mod (pe_callTy call_int1 (by rfl) B.int b_int (pa_cons (pe_op op_add (pe_op op_add (pe_op op_mul (pv 4) pe_int) (pe_ix ix_list (pv 0) pe_int (fun _ _ => rfl))) pe_int) pa_nil)) pe_int) (pg_sub (pv 0) pe_int set_list))
    (pss_one (ps_ret (pe_op op_mod (pe_callTy call_int1 (by rfl) B.int b_int (pa_cons (pe_op op_add (pe_op op_fdiv (pe_ix ix_list (pv 0) pe_int (fun _ _ => rfl)) pe_int) (pe_op op_mul (pe_op op_mod (pe_callTy call_int1 (by rfl) B.int b_int (pa_cons (pe_ix ix_list (pv 0) pe_int (fun _ _ => rfl)) pa_nil)) pe_int) pe_int)) pa_nil)) (pv 1)))))))), ?_⟩
  obtain ⟨l, ns, i, c, m, n, hS, hl, h63, hi0, hm0, hm1⟩ := src
  have nlS := src_ne hS hl
  refine ⟨fun σ' H' => ∃ x2 x3 x4, σ' = [some (.ref S), some (.int many), x2, x3, x4] ∧ Kp S S H H' ∧ ∃ i c m n : Int, H' S = some (.lst [.ref l, .int i, .int c, .int m, .int n]) ∧ H' l = some (.lst (ns.map V.int)) ∧ 0 ≤ i ∧ 0 ≤ m ∧ m < 2147483629, ?_, ?_⟩
  · have pass : ∃ x2 x3 x4, ([some (.ref S), some (.int many), none, none, none] : L2.St) = [some (.ref S), some (.int many), x2, x3, x4] ∧ Kp S S H H ∧ ∃ i c m n : Int, H S = some (.lst [.ref l, .int i, .int c, .int m, .int n]) ∧ H l = some (.lst (ns.map V.int)) ∧ 0 ≤ i ∧ 0 ≤ m ∧ m < 2147483629 := ⟨_, _, _, rfl, Kp.refl _, i, c, m, n, hS, hl, hi0, hm0, hm1⟩
    refine ⟨_, rfl, S, _, _, _, rfl, rfl, SqL.of hS, atI_nat (j := 2) rfl, rfl, _, rfl, ?_⟩
    refine ite2 (fun _ => ?_) (fun _ => pass)
    refine ⟨_, rfl, S, _, _, _, rfl, rfl, SqL.of hS, atI_nat (j := 1) rfl, _, rfl, S, _, _, _, rfl, rfl, SqL.of hS, atI_nat (j := 0) rfl, _, _, rfl, .inl ⟨_, SqL.of hl, rfl⟩, _, _, rfl, rfl, _, rfl, ?_⟩
    refine ite2 (fun hlt => ?_) (fun _ => pass)
    have hlt' : i < ((ns.map V.int).length : Nat) := of_decide_eq_true hlt
    rw [List.length_map] at hlt'
    obtain ⟨j, rfl⟩ : ∃ j : Nat, i = (j : Int) := ⟨i.toNat, by omega⟩
    have hj : j < ns.length := by omega
    have ev : (ns.map V.int)[j]? = some (.int ns[j]) := by rw [List.getElem?_map, List.getElem?_eq_getElem hj]; rfl
    refine ⟨_, rfl, S, _, _, _, rfl, rfl, SqL.of hS, atI_nat (j := 0) rfl, _, rfl, S, _, _, _, rfl, rfl, SqL.of hS, atI_nat (j := 1) rfl, l, _, _, _, rfl, rfl, SqL.of hl, atI_nat ev, ?_⟩
    refine ⟨_, rfl, S, _, _, _, rfl, rfl, SqL.of hS, atI_nat (j := 1) rfl, _, _, rfl, rfl, _, rfl, S, _, _, 1, rfl, rfl, hS, rfl, ?_⟩
    have h2 : (upd H S (.lst ([V.ref l, .int (j : Nat), .int c, .int m, .int n].set 1 (.int ((j : Nat) + 1 : Int))))) S = some (.lst [.ref l, .int ((j : Nat) + 1 : Int), .int c, .int m, .int n]) := upd_same
    have hl2 : (upd H S (.lst ([V.ref l, .int (j : Nat), .int c, .int m, .int n].set 1 (.int ((j : Nat) + 1 : Int))))) l = some (.lst (ns.map V.int)) := by rw [upd_ne nlS]; exact hl
    have k2 : Kp S S H (upd H S (.lst ([V.ref l, .int (j : Nat), .int c, .int m, .int n].set 1 (.int ((j : Nat) + 1 : Int))))) := kp_upd1
    generalize (upd H S (.lst ([V.ref l, .int (j : Nat), .int c, .int m, .int n].set 1 (.int ((j : Nat) + 1 : Int))))) = H2 at h2 hl2 k2
    refine ⟨_, rfl, _, _, rfl, rfl, ⟨by decide, by decide, by decide⟩, _, _, rfl, rfl, _, rfl, ?_⟩
    refine ite2 (fun _ => ?_) (fun _ => ?_)
    · refine ⟨_, rfl, _, rfl, S, _, _, 2, rfl, rfl, h2, rfl, ?_⟩
      exact ⟨_, _, _, rfl, k2.trans kp_upd1, _, ns[j], m, n, upd_same, by rw [upd_ne nlS]; exact hl2, by omega, hm0, hm1⟩
    · refine ⟨_, rfl, S, _, _, _, rfl, rfl, SqL.of h2, atI_nat (j := 3) rfl, _, _, rfl, rfl, .inr ⟨by decide, by decide⟩, ?_⟩
      refine ⟨_, rfl, .inl ⟨_, rfl, _, _, rfl, rfl, (by decide : (0 : Int) < 2147483587), _, _, rfl, rfl, .inr ⟨by decide, by decide⟩, _, _, rfl, rfl, _, _, rfl, rfl, .inl ⟨_, rfl, _, _, rfl, rfl, (by decide : (0 : Int) < 2147483629), ?_⟩⟩⟩
      refine ⟨_, rfl, S, _, _, 3, rfl, rfl, h2, rfl, ?_⟩
      exact ⟨_, _, _, rfl, k2.trans kp_upd1, _, c, _, n, upd_same, by rw [upd_ne nlS]; exact hl2, by omega, Int.emod_nonneg _ (by decide), Int.emod_lt_of_pos _ (by decide)⟩
  have hS0 := hS
  clear hS hl hi0 hm0 hm1
  rintro σ1 H1 ⟨x2, x3, x4, rfl, k1, i, c, m, n, hS, hl, hi0, hm0, hm1⟩
  have nr : ∀ (H' : Hp) (r : List V), H' S = some (.lst (V.ref l :: r)) → ∀ l' r0, H S = some (.lst (V.ref l' :: r0)) → ∃ r', H' S = some (.lst (V.ref l' :: r')) := fun H' r e l' r0 e0 => by
    rw [hS0] at e0
    have e9 := (HO.lst.inj (Option.some.inj e0))
    have : l = l' := by simp at e9; exact e9.1
    rw [← this]; exact ⟨r, e⟩
  refine ⟨_, rfl, S, _, _, _, rfl, rfl, SqL.of hS, atI_nat (j := 2) rfl, _, _, rfl, rfl, _, rfl, ?_⟩
  refine ite2 (fun _ => ?_) (fun _ => ?_)
  · refine ⟨_, rfl, S, _, _, _, rfl, rfl, SqL.of hS, atI_nat (j := 2) rfl, .inl ⟨_, rfl, _, rfl, _, _, rfl, rfl, m0, ?_⟩⟩
    refine ⟨_, rfl, S, _, _, _, rfl, rfl, SqL.of hS, atI_nat (j := 2) rfl, _, rfl, _, _, rfl, rfl, ⟨m0, m1⟩, _, rfl, S, _, _, 2, rfl, rfl, hS, rfl, ?_⟩
    refine ⟨_, rfl, q _ _ (Int.emod_nonneg _ (by omega)) (Int.emod_lt_of_pos _ m0) ⟨k1.trans kp_upd1, ⟨l, ns, i, _, m, n, upd_same, by rw [upd_ne nlS]; exact hl, h63, hi0, hm0, hm1⟩, nr _ _ upd_same⟩⟩
  · refine ⟨_, rfl, S, _, _, _, rfl, rfl, SqL.of hS, atI_nat (j := 4) rfl, _, _, rfl, rfl, _, rfl, S, _, _, 4, rfl, rfl, hS, rfl, ?_⟩
    have h2 : (upd H1 S (.lst ([V.ref l, .int i, .int c, .int m, .int n].set 4 (.int (n + 1))))) S = some (.lst [.ref l, .int i, .int c, .int m, .int (n + 1)]) := upd_same
    have hl2 : (upd H1 S (.lst ([V.ref l, .int i, .int c, .int m, .int n].set 4 (.int (n + 1))))) l = some (.lst (ns.map V.int)) := by rw [upd_ne nlS]; exact hl
    have k2 : Kp S S H (upd H1 S (.lst ([V.ref l, .int i, .int c, .int m, .int n].set 4 (.int (n + 1))))) := k1.trans kp_upd1
    generalize (upd H1 S (.lst ([V.ref l, .int i, .int c, .int m, .int n].set 4 (.int (n + 1))))) = H2 at h2 hl2 k2
    refine ⟨_, rfl, S, _, _, _, rfl, rfl, SqL.of h2, atI_nat (j := 3) rfl, _, rfl, S, _, _, _, rfl, rfl, SqL.of h2, atI_nat (j := 3) rfl, _, _, rfl, rfl, .inl ⟨by omega, by omega⟩, .inl ⟨_, rfl, _, _, rfl, rfl, (by decide : (0 : Int) < 2147483629), ?_⟩⟩
    refine ⟨_, rfl, S, _, _, _, rfl, rfl, SqL.of h2, atI_nat (j := 4) rfl, _, _, rfl, rfl, .inl ⟨by decide, by decide⟩, _, _, rfl, rfl, ?_⟩
    refine ⟨_, rfl, _, _, rfl, rfl, .inr ⟨by decide, by decide⟩, _, rfl, S, _, _, _, rfl, rfl, SqL.of h2, atI_nat (j := 3) rfl, _, _, rfl, rfl, _, _, rfl, rfl, .inl ⟨_, rfl, _, _, rfl, rfl, (by decide : (0 : Int) < 2147483629), ?_⟩⟩
    refine ⟨_, rfl, S, _, _, 3, rfl, rfl, h2, rfl, ?_⟩
    refine ⟨_, rfl, S, _, _, _, rfl, rfl, SqL.of upd_same, atI_nat (j := 3) rfl, _, _, rfl, rfl, ⟨by decide, by decide⟩, ?_⟩
    refine ⟨_, rfl, S, _, _, _, rfl, rfl, SqL.of upd_same, atI_nat (j := 3) rfl, .inl ⟨_, rfl, _, _, rfl, rfl, (by decide : (0 : Int) < 8191), _, _, rfl, rfl, .inr ⟨by decide, by decide⟩, _, _, rfl, rfl, .inl ⟨_, rfl, _, rfl, _, _, rfl, rfl, m0, ?_⟩⟩⟩
    refine q _ _ (Int.emod_nonneg _ (by omega)) (Int.emod_lt_of_pos _ m0) ⟨k2.trans kp_upd1, ⟨l, ns, i, c, _, n + 1, upd_same, by rw [upd_ne nlS]; exact hl2, h63, hi0, Int.emod_nonneg _ (by decide), Int.emod_lt_of_pos _ (by decide)⟩, nr _ _ upd_same⟩
/-! ### _law_pick -/
def spPick (K : PySem.W.Frag) : Sp := fun vs H Q _ => ∃ (S a : Addr) (xs : List V), vs = [.ref S, .ref a] ∧ SrcA H S ∧ SqL K H a xs ∧ (∀ H', Dr S S H H' → SqL K H' a xs) ∧ xs ≠ [] ∧ xs.length < 1000 ∧ ∀ (j : Nat) v H', xs[j]? = some v → Dr S S H H' → Q v H'
theorem sc42 : FnScope ["_law_source_here", "_law_row"] ["_law_source_here", "_law_row"] (defScope (topS 42)) := ⟨rfl, rfl, rfl, by decide +kernel, rfl, by decide +kernel, by decide +kernel⟩
theorem ok_pick (D : Df K mg "_law_pick" (topS 42) ["_law_source_here", "_law_row"]) (B : Bi mg) (FT : Fn P w K mg base 1 "_law_take" ["_law_source_here", "_law_many"] (spTake K)) : Fn P w K mg base 2 "_law_pick" ["_law_source_here", "_law_row"] (spPick K) := by
  refine D.ok sc42 (fun vs H Q E h => ?_) (fun f cdv A outer s H vs Q E hr h => ?_)
  · obtain ⟨S, a, xs, rfl, _⟩ := h
    rfl
  obtain ⟨S, a, xs, rfl, src, hS, st, hne, hl, q⟩ := h
  refine ⟨_, pss_one (ps_ret (pe_ix ix_list (pv 1) (pe_fn FT hr (by rfl) (pa_cons (pv 0) (pa_cons (pe_callB call_len (by rfl) B.len b_len (pa_cons (pv 1) pa_nil)) pa_nil))) (fun _ _ => rfl))), ?_⟩
  have pos : 0 < xs.length := List.length_pos_iff.mpr hne
  refine ⟨_, rfl, _, rfl, _, rfl, _, xs.length, rfl, .inl ⟨_, hS, rfl⟩, S, _, rfl, src, by omega, by omega, fun k H1 h0 h1 d => ?_⟩
  obtain ⟨j, rfl⟩ : ∃ j : Nat, k = (j : Int) := ⟨k.toNat, by omega⟩
  have e : xs[j]? = some (xs[j]'(by omega)) := List.getElem?_eq_getElem _
  exact ⟨a, xs, _, _, rfl, rfl, st H1 d, atI_nat e, q j _ H1 e d⟩
theorem st_of {S a : Addr} {H : Hp} {xs : List V} (h : H a = some (.lst xs)) (n : a ≠ S) : ∀ H', Dr S S H H' → SqL K H' a xs := fun H' d => SqL.of (d.kp _ _ h n n)
/-! ### _law_mixed -/
def spMixed (K : PySem.W.Frag) : Sp := fun vs H Q _ => ∃ (S a : Addr) (xs : List V), vs = [.ref S, .ref a] ∧ SrcA H S ∧ H a = some (.lst xs) ∧ a ≠ S ∧ xs.length ≤ 1000 ∧ ∀ r ys H', Dr S S H H' → H r = none → H' r = some (.lst ys) → ys.length = xs.length → (∀ y ∈ ys, y ∈ xs) → Q (.ref r) H'
abbrev n43 : List Str := ["_law_source_here", "_law_row", "_law_found", "_law_one"]
theorem sc43 : FnScope n43 ["_law_source_here", "_law_row"] (defScope (topS 43)) := ⟨rfl, rfl, rfl, by decide +kernel, rfl, by decide +kernel, by decide +kernel⟩
theorem ok_mixed (D : Df K mg "_law_mixed" (topS 43) ["_law_source_here", "_law_row"]) (B : Bi mg) (FT : Fn P w K mg base 1 "_law_take" ["_law_source_here", "_law_many"] (spTake K)) : Fn P w K mg base 2 "_law_mixed" ["_law_source_here", "_law_row"] (spMixed K) := by
  refine D.ok sc43 (fun vs H Q E h => ?_) (fun f cdv A outer s H vs Q E hr h => ?_)
  · obtain ⟨S, a, xs, rfl, _⟩ := h
    rfl
  obtain ⟨S, a, xs, rfl, src, ha, na, hl, q⟩ := h
  refine ⟨_, pss_cons (ps_set (i := 2) sc43.nd rfl (.inl rfl) (pe_lst pa_nil))
    (pss_cons (ps_for PassesOwn.never rfl (pi_list (pv 1)) (pg_name (i := 3) sc43.nd rfl (.inl rfl))
      (pss_one (ps_expr (pe_bm PySem.F.plainAttrs_list PySem.F.slot_list_insert PySem.F.type_list_insert mt_insert (pv 2) (pa_cons (pe_fn FT hr (by rfl) (pa_cons (pv 0) (pa_cons (pe_op op_add (pe_callB call_len (by rfl) B.len b_len (pa_cons (pv 2) pa_nil)) pe_int) pa_nil))) (pa_cons (pv 3) pa_nil))))))
    (pss_one (ps_ret (pv 2)))), ?_⟩
  refine ⟨(by show 0 ≤ sizeLine; decide), fun l nl => ?_⟩
  have s1 := same_upd (o := .lst []) nl
  have srcl := src.same s1
  have nlS : l ≠ S := by
    obtain ⟨_, _, _, _, _, _, h, _⟩ := src
    exact (ne_of_none h nl).symm
  have nla : l ≠ a := (ne_of_none ha nl).symm
  refine ⟨_, rfl, a, rfl, ⟨_, SqL.of (s1 _ _ ha)⟩, for_list (K := K) (a := a) (xs := xs) (fun i σ H2 => ∃ x3 ys, σ = [some (.ref S), some (.ref a), some (.ref l), x3] ∧ Dr S S H H2 ∧ H2 l = some (.lst ys) ∧ ys.length = i ∧ ∀ y ∈ ys, y ∈ xs)
    ⟨none, [], rfl, (Dr.refl src).same s1, upd_same, rfl, fun y h => by simp at h⟩ (fun i σ H2 _ ⟨_, _, _, d, _⟩ => SqL.of (d.kp _ _ ha na na)) ?_ ?_⟩
  · rintro i x σ H2 hx ⟨x3, ys, rfl, d, hys, ly, my⟩
    have hi : i < xs.length := (List.getElem?_eq_some_iff.mp hx).1
    refine ⟨_, rfl, .inl ⟨rfl, _, SqL.of hys⟩, _, rfl, _, rfl, _, ys.length, rfl, .inl ⟨_, SqL.of hys, rfl⟩, _, _, rfl, rfl, S, _, rfl, d.so, by omega, by omega, fun k H3 h0 h1 d3 => ?_⟩
    have hy3 := d3.kp _ _ hys nlS nlS
    refine ⟨_, rfl, l, ys, k, x, rfl, rfl, hy3, small1000 (by omega), h0, by omega, ?_⟩
    refine ⟨_, _, rfl, (d.trans d3).write src nl, upd_same, ?_, fun y hy => ?_⟩
    · simp only [List.length_append, List.length_take, List.length_drop, List.length_cons, List.length_nil]; omega
    · simp only [List.mem_append, List.mem_cons, List.not_mem_nil, or_false] at hy
      rcases hy with (hy | rfl) | hy
      · exact my y (List.mem_of_mem_take hy)
      · exact List.mem_of_getElem? hx
      · exact my y (List.mem_of_mem_drop hy)
  · rintro σ H2 ⟨x3, ys, rfl, d, hys, ly, my⟩
    exact ⟨_, rfl, q l ys H2 d nl hys ly my⟩
end
end FD
end T_G1

section T_G2
set_option Elab.async false
set_option linter.all false
set_option maxRecDepth 100000
set_option maxHeartbeats 2000000
/-! The law: signs, names, terms drawn. -/
namespace FD
open PySem L2 FF FW
def chV (c : Nat) : V := .str (strC [c])
structure Sg (cs : List Nat) : Prop where
  ne : cs ≠ []
  le : cs.length ≤ 8
  az : ∀ c ∈ cs, 97 ≤ c ∧ c < 105
theorem cut_take (ys : List V) (k : Nat) : cutV ys none (some (k : Int)) = ys.take k := by
  unfold cutV
  rw [HT.sIx_none, HT.sIx_nat, List.drop_zero, Nat.sub_zero]
  rcases Nat.le_total k ys.length with h | h
  · rw [Nat.min_eq_left h]
  · rw [Nat.min_eq_right h, List.take_of_length_le (Nat.le_refl _), List.take_of_length_le h]
theorem all_map {α : Type} {f : α → V} {xs : List α} : ∀ {ys : List V}, (∀ y ∈ ys, y ∈ xs.map f) → ∃ cs : List α, ys = cs.map f ∧ ∀ c ∈ cs, c ∈ xs
  | [], _ => ⟨[], rfl, fun c h => by simp at h⟩
  | y :: ys, h => by
    obtain ⟨cs, e, hc⟩ := all_map (ys := ys) fun z hz => h z (List.mem_cons_of_mem _ hz)
    obtain ⟨c, hc', e'⟩ := List.mem_map.mp (h y List.mem_cons_self)
    exact ⟨c :: cs, by rw [e, ← e']; rfl, fun d hd => by
      rcases List.mem_cons.mp hd with rfl | hd
      · exact hc'
      · exact hc d hd⟩
theorem join_nil : ∀ cs : List Nat, Str.join (strC []) (cs.map fun c => strC [c]) = strC cs
  | [] => rfl
  | [c] => rfl
  | c :: d :: r => by
    show strC [c] ++ strC [] ++ Str.join (strC []) ((d :: r).map fun c => strC [c]) = _
    rw [join_nil (d :: r), strC_app, strC_app]; rfl
theorem nil_eq : ("" : Str) = strC [] := by decide +kernel
theorem flat_rep {α : Type} (x : α) (n : Nat) : (List.replicate n [x]).flatten = List.replicate n x := by
  induction n with
  | zero => rfl
  | succ n ih => rw [List.replicate_succ, List.flatten_cons, ih]; rfl
theorem az_list : ("abcdefghijklmnopqrstuvwxyz" : Str).cps.toList = List.range' 97 26 := by decide +kernel
theorem az_at {j : Nat} (h : j < 26) : ("abcdefghijklmnopqrstuvwxyz" : Str).cps.toList[j]? = some (97 + j) := by
  rw [az_list, List.getElem?_range' h]; simp
def nameK (m a f st k : Nat) : List Nat := (List.replicate m (97 + f)).set a (97 + (f + 1 + st * k) % 26)
theorem nameK_ok {m a f st k : Nat} (h1 : 1 ≤ m) (h6 : m ≤ 6) (hf : f < 26) : NOk (nameK m a f st k) := by
  refine ⟨by simp [nameK]; exact h1, by simp [nameK]; exact h6, fun c hc => ?_⟩
  unfold nameK at hc
  rcases List.mem_or_eq_of_mem_set hc with h | h
  · have := List.eq_of_mem_replicate h
    omega
  · have : (f + 1 + st * k) % 26 < 26 := Nat.mod_lt _ (by decide)
    omega
def stepsL : List Nat := [1, 3, 5, 7, 9, 11, 15]
theorem nameK_inj {m a f st k k' : Nat} (ha : a < m) (hs : st ∈ stepsL) (hk : k < 7) (hk' : k' < 7) (h : nameK m a f st k = nameK m a f st k') : k = k' := by
  have e : (nameK m a f st k)[a]? = (nameK m a f st k')[a]? := by rw [h]
  unfold nameK at e
  rw [List.getElem?_set_self (by simpa using ha), List.getElem?_set_self (by simpa using ha)] at e
  have e2 : (f + 1 + st * k) % 26 = (f + 1 + st * k') % 26 := by have := Option.some.inj e; omega
  simp only [stepsL, List.mem_cons, List.not_mem_nil, or_false] at hs
  rcases hs with rfl | rfl | rfl | rfl | rfl | rfl | rfl <;> omega
theorem names_nodup {m a f st n : Nat} (ha : a < m) (hs : st ∈ stepsL) (hn : n ≤ 7) : ((List.range n).map (nameK m a f st)).Nodup := by
  unfold List.Nodup
  rw [List.pairwise_map]
  have := List.pairwise_lt_range (n := n)
  refine this.imp_of_mem fun {i j} hi hj hij e => ?_
  have := nameK_inj ha hs (Nat.lt_of_lt_of_le (List.mem_range.mp hi) hn) (Nat.lt_of_lt_of_le (List.mem_range.mp hj) hn) e
  omega
section
variable {P : Program} {w : World} {K : PySem.W.Frag} {mg : Str → Option Value} {base : Heap}
/-! ### _law_signs -/
def spSigns (K : PySem.W.Frag) : Sp := fun vs H Q _ => ∃ (S : Addr), vs = [.ref S, .int 4] ∧ SrcA H S ∧ ∀ r cs H', Dr S S H H' → H r = none → H' r = some (.lst (cs.map chV)) → Sg cs → Q (.ref r) H'
abbrev n51 : List Str := ["_law_source_here", "_law_most", "_law_every"]
theorem sc51 : FnScope n51 ["_law_source_here", "_law_most"] (defScope (topS 51)) := ⟨rfl, rfl, rfl, by decide +kernel, rfl, by decide +kernel, by decide +kernel⟩
theorem ok_signs (D : Df K mg "_law_signs" (topS 51) ["_law_source_here", "_law_most"]) (B : Bi mg) (FT : Fn P w K mg base 1 "_law_take" ["_law_source_here", "_law_many"] (spTake K)) (FM : Fn P w K mg base 2 "_law_mixed" ["_law_source_here", "_law_row"] (spMixed K)) : Fn P w K mg base 3 "_law_signs" ["_law_source_here", "_law_most"] (spSigns K) := by
  refine D.ok sc51 (fun vs H Q E h => ?_) (fun f cdv A outer s H vs Q E hr h => ?_)
  · obtain ⟨S, rfl, _⟩ := h
    rfl
  obtain ⟨S, rfl, src, q⟩ := h
  refine ⟨_, pss_cons (ps_set (i := 2) sc51.nd rfl (.inl rfl) (pe_fn FM hr (by rfl) (pa_cons (pv 0) (pa_cons (pe_callTy (call_list_txt rfl) (by rfl) B.lst b_lst (pa_cons pe_str pa_nil)) pa_nil))))
    (pss_one (ps_ret (pe_slice sl_list (pv 2) po_none (po_some (pe_op op_add pe_int (pe_fn FT (hr.mono (by decide)) (by rfl) (pa_cons (pv 0) (pa_cons (pv 1) pa_nil)))))))), ?_⟩
  refine ⟨_, rfl, _, rfl, (by show 8 ≤ sizeLine; decide), fun l nl => ?_⟩
  rw [letters_list]
  have s1 := same_upd (o := .lst (([97, 98, 99, 100, 101, 102, 103, 104] : List Nat).map fun c => V.str ⟨#[c]⟩)) nl
  have nlS : l ≠ S := by
    obtain ⟨_, _, _, _, _, _, h, _⟩ := src
    exact (ne_of_none h nl).symm
  refine ⟨S, l, _, rfl, src.same s1, upd_same, nlS, by show 8 ≤ 1000; decide, fun r ys H2 d nr hr2 ly my => ?_⟩
  have d2 : Dr S S H H2 := ((Dr.refl src).same s1).trans d
  obtain ⟨cs, rfl, hcs⟩ := all_map (f := fun c => V.str ⟨#[c]⟩) (xs := ([97, 98, 99, 100, 101, 102, 103, 104] : List Nat)) my
  have nr0 : H r = none := s1.free nr
  have nrS : r ≠ S := by
    obtain ⟨_, _, _, _, _, _, h, _⟩ := src
    exact (ne_of_none h nr0).symm
  refine ⟨_, rfl, _, rfl, _, rfl, S, 4, rfl, d2.so, by decide, by decide, fun k H3 h0 h1 d3 => ⟨_, _, rfl, rfl, _, rfl, ?_⟩⟩
  obtain ⟨j, rfl⟩ : ∃ j : Nat, k = (j : Int) := ⟨k.toNat, by omega⟩
  have hr3 := d3.kp _ _ hr2 nrS nrS
  refine ⟨r, _, rfl, SqL.of hr3, fun p np => ?_⟩
  rw [show (1 : Int) + (j : Int) = ((1 + j : Nat) : Int) by omega, cut_take, ← List.map_take]
  have d4 : Dr S S H (upd H3 p (.lst ((cs.take (1 + j)).map fun c => V.str ⟨#[c]⟩))) := (d2.trans d3).same (same_upd np)
  have npS : p ≠ S := by
    obtain ⟨_, _, _, _, _, _, h, _⟩ := d3.so
    exact (ne_of_none h np).symm
  have ly' : cs.length = 8 := by simpa using ly
  refine q p (cs.take (1 + j)) _ d4 ((d2.trans d3).free np npS npS) upd_same ⟨fun z => ?_, ?_, fun c hc => ?_⟩
  · have := congrArg List.length z
    rw [List.length_take] at this; simp only [List.length_nil] at this; omega
  · rw [List.length_take]; omega
  · have := hcs c (List.mem_of_mem_take hc)
    simp only [List.mem_cons, List.not_mem_nil, or_false] at this
    omega
/-! ### _law_names -/
def spNames (K : PySem.W.Frag) : Sp := fun vs H Q _ => ∃ (S : Addr) (many : Nat), vs = [.ref S, .int many] ∧ SrcA H S ∧ many ≤ 6 ∧ ∀ r (nms : List (List Nat)) H', Dr S S H H' → H r = none → H' r = some (.lst (nms.map fun l => V.str (strC l))) → nms.length = many → (∀ l ∈ nms, NOk l) → nms.Nodup → Q (.ref r) H'
abbrev n52 : List Str := ["_law_source_here", "_law_many", "_law_mletters", "_law_msize", "_law_at", "_law_first", "_law_step", "_law_found", "_law_k", "_law_signs_here"]
theorem sc52 : FnScope n52 ["_law_source_here", "_law_many"] (defScope (topS 52)) := ⟨rfl, rfl, rfl, by decide +kernel, rfl, by decide +kernel, by decide +kernel⟩
theorem ok_names (D : Df K mg "_law_names" (topS 52) ["_law_source_here", "_law_many"]) (B : Bi mg) (FT : Fn P w K mg base 1 "_law_take" ["_law_source_here", "_law_many"] (spTake K)) (FP : Fn P w K mg base 2 "_law_pick" ["_law_source_here", "_law_row"] (spPick K)) : Fn P w K mg base 3 "_law_names" ["_law_source_here", "_law_many"] (spNames K) := by
  refine D.ok sc52 (fun vs H Q E h => ?_) (fun f cdv A outer s H vs Q E hr h => ?_)
  · obtain ⟨S, many, rfl, _⟩ := h
    rfl
  obtain ⟨S, many, rfl, src, hm6, q⟩ := h
  have hr1 : Room 1 _ := hr.mono (by decide)
  refine ⟨_, pss_cons (ps_set (i := 2) sc52.nd rfl (.inl rfl) pe_str)
    (pss_cons (ps_set (i := 3) sc52.nd rfl (.inl rfl) (pe_op op_add pe_int (pe_fn FT hr1 (by rfl) (pa_cons (pv 0) (pa_cons pe_int pa_nil)))))
    (pss_cons (ps_set (i := 4) sc52.nd rfl (.inl rfl) (pe_fn FT hr1 (by rfl) (pa_cons (pv 0) (pa_cons (pv 3) pa_nil))))
    (pss_cons (ps_set (i := 5) sc52.nd rfl (.inl rfl) (pe_fn FT hr1 (by rfl) (pa_cons (pv 0) (pa_cons pe_int pa_nil))))
    (pss_cons (ps_set (i := 6) sc52.nd rfl (.inl rfl) (pe_fn FP hr (by rfl) (pa_cons (pv 0) (pa_cons (pe_lst (pa_cons pe_int (pa_cons pe_int (pa_cons pe_int (pa_cons pe_int (pa_cons pe_int (pa_cons pe_int (pa_cons pe_int pa_nil)))))))) pa_nil))))
    (pss_cons (ps_set (i := 7) sc52.nd rfl (.inl rfl) (pe_lst pa_nil))
    (pss_cons (ps_for PassesOwn.never rfl (pi_range1 (by rfl) B.range (pa_cons (pv 1) pa_nil)) (pg_name (i := 8) sc52.nd rfl (.inl rfl))
      (pss_cons (ps_set (i := 9) sc52.nd rfl (.inl rfl) (pe_op op_rep (pe_lst (pa_cons (pe_ix ix_str (pv 2) (pv 5) (fun _ _ => rfl)) pa_nil)) (pv 3)))
      (pss_cons (ps_asg (pe_ix ix_str (pv 2) (pe_op op_mod (pe_callTy call_int1 (by rfl) B.int b_int (pa_cons (pe_op op_add (pe_op op_add (pv 5) pe_int) (pe_op op_mul (pv 6) (pv 8))) pa_nil)) pe_int) (fun _ _ => rfl)) (pg_sub (pv 9) (pv 4) set_list))
      (pss_one (ps_expr (pe_bm PySem.F.plainAttrs_list PySem.F.slot_list_append PySem.F.type_list_append mt_append (pv 7) (pa_cons (pe_join pe_str (pv 9)) pa_nil)))))))
    (pss_one (ps_ret (pv 7))))))))), ?_⟩
  refine ⟨_, rfl, S, 6, rfl, src, by decide, by decide, fun k1 H1 a1 b1 d1 => ⟨_, _, rfl, rfl, ?_⟩⟩
  obtain ⟨j1, rfl⟩ : ∃ j : Nat, k1 = (j : Int) := ⟨k1.toNat, by omega⟩
  refine ⟨_, rfl, _, rfl, S, _, rfl, d1.so, by omega, by omega, fun k2 H2 a2 b2 d2 => ?_⟩
  obtain ⟨j2, rfl⟩ : ∃ j : Nat, k2 = (j : Int) := ⟨k2.toNat, by omega⟩
  refine ⟨_, rfl, S, 26, rfl, d2.so, by decide, by decide, fun k3 H3 a3 b3 d3 => ?_⟩
  obtain ⟨j3, rfl⟩ : ∃ j : Nat, k3 = (j : Int) := ⟨k3.toNat, by omega⟩
  refine ⟨_, rfl, (by show 7 ≤ sizeLine; decide), fun lp nlp => ?_⟩
  have s4 := same_upd (o := .lst [V.int 1, .int 3, .int 5, .int 7, .int 9, .int 11, .int 15]) nlp
  have nlpS : lp ≠ S := by
    obtain ⟨_, _, _, _, _, _, h, _⟩ := d3.so
    exact (ne_of_none h nlp).symm
  refine ⟨S, lp, _, rfl, d3.so.same s4, SqL.of upd_same, st_of upd_same nlpS, by simp, by decide, fun j v H5 ev d5 => ?_⟩
  obtain ⟨st, rfl, hst⟩ : ∃ st : Nat, v = .int (st : Nat) ∧ st ∈ stepsL := by
    have : v ∈ stepsL.map fun n => V.int (n : Nat) := List.mem_of_getElem? ev
    obtain ⟨n, hn, rfl⟩ := List.mem_map.mp this
    exact ⟨n, rfl, hn⟩
  have dd : Dr S S H H5 := (((d1.trans d2).trans d3).same s4).trans d5
  refine ⟨(by show 0 ≤ sizeLine; decide), fun l nl => ?_⟩
  have s6 := same_upd (o := .lst []) nl
  have nlS : l ≠ S := by
    obtain ⟨_, _, _, _, _, _, h, _⟩ := dd.so
    exact (ne_of_none h nl).symm
  have nl0 : H l = none := dd.free nl nlS nlS
  refine ⟨_, rfl, (many : Nat), rfl, by omega, by omega, ?_⟩
  refine forS many (fun i x H H' => H' = H ∧ x = .int (i : Nat)) (fun i σ H2 => ∃ x8 x9, σ = [some (.ref S), some (.int many), some (.str "abcdefghijklmnopqrstuvwxyz"), some (.int (1 + (j1 : Int))), some (.int (j2 : Int)), some (.int (j3 : Int)), some (.int (st : Nat)), some (.ref l), x8, x9] ∧ Dr S S H H2 ∧ H2 l = some (.lst (((List.range i).map (nameK (1 + j1) j2 j3 st)).map fun l => V.str (strC l))))
    ⟨none, none, rfl, dd.same s6, upd_same⟩ (fun i σ H2 _ _ => ⟨fun hi => ⟨hi, fun x H' y => ⟨y.1, by rw [y.2]; simp⟩⟩, fun e => Nat.le_of_eq e.symm⟩) ?_ ?_
  · rintro i x σ H7 H6 hi ⟨x8, x9, rfl, d6, hl6⟩ ⟨rfl, rfl⟩
    have e1 : (("abcdefghijklmnopqrstuvwxyz" : Str).cps.toList)[j3]? = some (97 + j3) := az_at (by omega)
    refine ⟨_, rfl, _, rfl, _, _, _, rfl, rfl, by show 26 ≤ sizeLine; decide, atI_nat e1, (by show 1 ≤ sizeLine; decide), fun p1 np1 => ?_⟩
    have t1 := same_upd (o := .lst [V.str ⟨#[97 + j3]⟩]) np1
    refine ⟨_, rfl, p1, _, _, rfl, rfl, upd_same, by omega, by omega, ?_, fun p2 np2 => ?_⟩
    · simp only [List.length_cons, List.length_nil]
      exact Nat.le_trans (show _ ≤ 7 by omega) (by show 7 ≤ sizeLine; decide)
    have et : (1 + (j1 : Int)).toNat = 1 + j1 := by omega
    rw [et, flat_rep]
    have t2 := same_upd (o := .lst (List.replicate (1 + j1) (V.str ⟨#[97 + j3]⟩))) np2
    have t12 := t1.trans t2
    have e2 : (("abcdefghijklmnopqrstuvwxyz" : Str).cps.toList)[(j3 + 1 + st * i) % 26]? = some (97 + (j3 + 1 + st * i) % 26) := az_at (Nat.mod_lt _ (by decide))
    have hst15 : st ≤ 15 := by
      simp only [stepsL, List.mem_cons, List.not_mem_nil, or_false] at hst
      omega
    refine ⟨_, rfl, _, rfl, _, _, rfl, rfl, _, rfl, _, rfl, _, _, rfl, rfl, .inl ⟨by omega, by omega⟩, _, _, rfl, rfl, .inl ⟨_, rfl, _, _, rfl, rfl, (by decide : (0 : Int) < 26), ?_⟩⟩
    have ei : ((j3 : Int) + 1 + (st : Int) * (i : Int)) % 26 = (((j3 + 1 + st * i) % 26 : Nat) : Int) := by
      rw [Int.natCast_emod]; simp
    refine ⟨_, _, _, rfl, rfl, by show 26 ≤ sizeLine; decide, by rw [ei]; exact atI_nat e2, ?_⟩
    have ix : ixN (List.replicate (1 + j1) (V.str ⟨#[97 + j3]⟩)).length (j2 : Int) = some j2 := by
      unfold ixN
      rw [if_pos (by omega), List.length_replicate, if_pos (by omega)]
      rfl
    refine ⟨_, rfl, _, rfl, p2, _, _, j2, rfl, rfl, upd_same, ix, ?_⟩
    have es : ((List.replicate (1 + j1) (V.str ⟨#[97 + j3]⟩)).set j2 (V.str ⟨#[97 + (j3 + 1 + st * i) % 26]⟩)) = ((nameK (1 + j1) j2 j3 st i).map fun c => strC [c]).map V.str := by
      unfold nameK
      rw [List.map_set, List.map_set, List.map_replicate, List.map_replicate]; rfl
    rw [es]
    have hl7 : (upd (upd (upd H6 p1 (.lst [V.str ⟨#[97 + j3]⟩])) p2 (.lst (List.replicate (1 + j1) (V.str ⟨#[97 + j3]⟩)))) p2 (.lst (((nameK (1 + j1) j2 j3 st i).map fun c => strC [c]).map V.str))) l = some (.lst (((List.range i).map (nameK (1 + j1) j2 j3 st)).map fun l => V.str (strC l))) := by
      rw [upd_ne (ne_of_none hl6 (t1.free np2))]
      exact t12 _ _ hl6
    have np2S : H6 p2 = none := t1.free np2
    have d7 : Dr S S H (upd (upd (upd H6 p1 (.lst [V.str ⟨#[97 + j3]⟩])) p2 (.lst (List.replicate (1 + j1) (V.str ⟨#[97 + j3]⟩)))) p2 (.lst (((nameK (1 + j1) j2 j3 st i).map fun c => strC [c]).map V.str))) := by
      refine (d6.same t12).write src ?_
      have n : p2 ≠ S := by
        obtain ⟨_, _, _, _, _, _, h, _⟩ := d6.so
        exact (ne_of_none h np2S).symm
      exact d6.free np2S n n
    have hp2 : (upd (upd (upd H6 p1 (.lst [V.str ⟨#[97 + j3]⟩])) p2 (.lst (List.replicate (1 + j1) (V.str ⟨#[97 + j3]⟩)))) p2 (.lst (((nameK (1 + j1) j2 j3 st i).map fun c => strC [c]).map V.str))) p2 = some (.lst (((nameK (1 + j1) j2 j3 st i).map fun c => strC [c]).map V.str)) := upd_same
    generalize (upd (upd (upd H6 p1 (.lst [V.str ⟨#[97 + j3]⟩])) p2 (.lst (List.replicate (1 + j1) (V.str ⟨#[97 + j3]⟩)))) p2 (.lst (((nameK (1 + j1) j2 j3 st i).map fun c => strC [c]).map V.str))) = H8 at hl7 d7 hp2
    have ok := nameK_ok (m := 1 + j1) (a := j2) (f := j3) (st := st) (k := i) (by omega) (by omega) (by omega)
    refine ⟨_, rfl, .inl ⟨rfl, _, SqL.of hl7⟩, ⟨_, rfl⟩, _, rfl, _, p2, _, rfl, rfl, .inl (SqL.of hp2), ?_, l, _, _, rfl, rfl, hl7, small1000 (by simp only [List.length_map, List.length_range]; omega), ?_⟩
    · have : ∀ cs : List Nat, ((cs.map fun c => strC [c]).map (·.length)).sum = cs.length := fun cs => by
        induction cs with
        | nil => rfl
        | cons c cs ih => simp only [List.map_cons, List.sum_cons, ih, List.length_cons]; show 1 + _ = _; omega
      rw [this, nil_eq, strC_len]
      have := ok.le
      simp only [List.length_nil]
      omega
    · refine ⟨_, _, rfl, d7.write src nl0, ?_⟩
      rw [upd_same, List.range_succ, List.map_append, List.map_append, TL.join_eq, nil_eq, join_nil]; rfl
  · rintro σ H6 ⟨x8, x9, rfl, d6, hl6⟩
    refine ⟨_, rfl, q l _ H6 d6 nl0 hl6 (by simp) (fun nm hn => ?_) (names_nodup (by omega) hst (by omega))⟩
    obtain ⟨i, hi, rfl⟩ := List.mem_map.mp hn
    exact nameK_ok (by omega) (by omega) (by omega)
end
end FD
end T_G2

section T_G3
set_option Elab.async false
set_option linter.all false
set_option maxRecDepth 100000
set_option maxHeartbeats 2000000
/-! The law: terms drawn. -/
namespace FD
open PySem L2 FF FW
theorem Dr.tt2 {S R : Addr} {H H' : Hp} {o : HO} (a : Dr S R H H') (h : SrcA H S) (hR : H R = some o) (no : NoTup o) : Tt H H' := by
  obtain ⟨l, ns, i, c, m, n, h1, _⟩ := h
  exact a.kp.tt h1 hR trivial no
theorem Dr.noS {S a : Addr} {H : Hp} (h : SrcA H S) (na : H a = none) : a ≠ S := by
  obtain ⟨_, _, _, _, _, _, h, _⟩ := h
  exact (ne_of_none h na).symm
theorem Sg.neS {cs : List Nat} {H : Hp} {S a : Addr} (g : Sg cs) (h : SrcA H S) (ha : H a = some (.lst (cs.map chV))) : a ≠ S := fun z => by
  obtain ⟨l, ns, i, c, m, n, h1, _⟩ := h
  rw [z, h1] at ha
  have e := HO.lst.inj (Option.some.inj ha)
  cases cs with
  | nil => exact g.ne rfl
  | cons c cs => simp [chV] at e
/-- R is not the list of the source's digits -/
def NoIn (H : Hp) (S R : Addr) : Prop := ∀ l r, H S = some (.lst (V.ref l :: r)) → l ≠ R
theorem NoIn.dr {H H' : Hp} {S R R' : Addr} (h : NoIn H S R) (src : SrcA H S) (d : Dr S R' H H') : NoIn H' S R := fun l r e => by
  obtain ⟨l0, ns, i, c, m, n, h1, _⟩ := src
  obtain ⟨r', e'⟩ := d.nr _ _ h1
  rw [e'] at e
  have e9 := HO.lst.inj (Option.some.inj e)
  simp at e9
  rw [← e9.1]
  exact h _ _ h1
theorem NoIn.new {H : Hp} {S R : Addr} (src : SrcA H S) (n : H R = none) : NoIn H S R := fun l r e => by
  obtain ⟨l0, ns, i, c, m, n', h1, h2, _⟩ := src
  rw [h1] at e
  have e9 := HO.lst.inj (Option.some.inj e)
  simp at e9
  rw [← e9.1]
  exact ne_of_none h2 n
/-- a write at R -/
theorem Dr.put {S R : Addr} {H H1 : Hp} {o : HO} (d : Dr S R H H1) (nRS : R ≠ S) (ni : NoIn H1 S R) : Dr S R H (L2.upd H1 R o) := by
  refine ⟨fun x u e n1 n2 => by rw [upd_ne n2]; exact d.kp _ _ e n1 n2, ?_, fun l r e => ?_⟩
  · obtain ⟨l', ns', i', c', m', n', e1, e2, e3⟩ := d.so
    exact ⟨l', ns', i', c', m', n', by rw [upd_ne nRS.symm]; exact e1, by rw [upd_ne (ni _ _ e1)]; exact e2, e3⟩
  · obtain ⟨r', e'⟩ := d.nr l r e
    exact ⟨r', by rw [upd_ne nRS.symm]; exact e'⟩
theorem leaf_of {cs : List Nat} (g : Sg cs) {j : Nat} {v : V} (h : (cs.map chV)[j]? = some v) : ∃ c, v = .str (strC [c]) ∧ 97 ≤ c ∧ c < 105 := by
  rw [List.getElem?_map] at h
  obtain ⟨c, hc, rfl⟩ := Option.map_eq_some_iff.mp h
  have := g.az c (List.mem_of_getElem? hc)
  exact ⟨c, rfl, this.1, this.2⟩
theorem tm_leaf {K : PySem.W.Frag} {H : Hp} (c : Nat) : TmAt K H (.str (strC [c])) (.leaf c) := by
  unfold TmAt; rw [tD_leaf]; exact .str _
theorem depths_le_of {n : Nat} : ∀ {ts : List Tm}, (∀ t ∈ ts, t.depth ≤ n) → depths ts ≤ n
  | [], _ => Nat.zero_le _
  | t :: ts, h => by
    simp only [depths]
    exact Nat.max_le.mpr ⟨h t List.mem_cons_self, depths_le_of fun u hu => h u (List.mem_cons_of_mem _ hu)⟩
theorem sizes_app : ∀ (a b : List Tm), sizes (a ++ b) = sizes a + sizes b
  | [], b => by simp [sizes]
  | t :: a, b => by simp only [List.cons_append, sizes, sizes_app a b]; omega
section
variable {P : Program} {w : World} {K : PySem.W.Frag} {mg : Str → Option Value} {base : Heap}
def spLTerm (K : PySem.W.Frag) (n : Nat) : Sp := fun vs H Q _ => ∃ (S a R : Addr) (cs : List Nat) (deep : Nat) (room : Nat), vs = [.ref S, .ref a, .int deep, .ref R] ∧ SrcA H S ∧ H a = some (.lst (cs.map chV)) ∧ Sg cs ∧ H R = some (.lst [.int room]) ∧ room ≤ 10 ∧ R ≠ S ∧ NoIn H S R ∧ 1 ≤ deep ∧ deep ≤ n ∧
  ∀ v t (room' : Nat) H', Dr S R H H' → H' R = some (.lst [.int room']) → TmAt K H' v t → t.WF → t.depth ≤ deep → t.size + room' = room + 1 → Q v H'
abbrev n50 : List Str := ["_law_source_here", "_law_signs_here", "_law_deep", "_law_room", "_law_many", "_law_operator", "_law_k"]
abbrev p50 : List Str := ["_law_source_here", "_law_signs_here", "_law_deep", "_law_room"]
theorem sc50 : FnScope n50 p50 (defScope (topS 50)) := ⟨rfl, rfl, rfl, by decide +kernel, rfl, by decide +kernel, by decide +kernel⟩
theorem ok_lterm (D : Df K mg "_law_term" (topS 50) p50) (B : Bi mg) (FT : Fn P w K mg base 1 "_law_take" ["_law_source_here", "_law_many"] (spTake K)) (FP : Fn P w K mg base 2 "_law_pick" ["_law_source_here", "_law_row"] (spPick K)) :
    ∀ n, Fn P w K mg base (n + 3) "_law_term" p50 (spLTerm K n)
  | 0 => D.none fun vs H Q E ⟨S, a, R, cs, deep, room, _, _, _, _, _, _, _, _, h1, h2, _⟩ => by omega
  | n + 1 => by
    have ih := ok_lterm D B FT FP n
    refine D.ok sc50 (fun vs H Q E h => ?_) (fun f cdv A outer s H vs Q E hr h => ?_)
    · obtain ⟨S, a, R, cs, deep, room, rfl, _⟩ := h
      rfl
    obtain ⟨S, a, R, cs, deep, room, rfl, src, ha, g, hR, hroom, nRS, ni, hd1, hdn, q⟩ := h
    have hr1 : Room 1 _ := hr.mono (by omega)
    have hr2 : Room 2 _ := hr.mono (by omega)
    refine ⟨_, pss_cons (ps_set (i := 4) sc50.nd rfl (.inl rfl) (pe_op op_add pe_int (pe_op op_fdiv (pe_fn FT hr1 (by rfl) (pa_cons (pv 0) (pa_cons pe_int pa_nil))) pe_int)))
      (pss_cons (ps_if (PW.pt (pw_or (pt_cmpR op_lt (pv 2) pe_int (nomark _)) (pw_or (pt_cmpR op_lt (pe_ix ix_list (pv 3) pe_int (fun _ _ => rfl)) (pe_op op_sub (pv 4) pe_int) (nomark _)) (pw_or1 (pt_cmpR op_eq (pe_fn FT hr1 (by rfl) (pa_cons (pv 0) (pa_cons pe_int pa_nil))) pe_int (nomark _))))))
        (pss_one (ps_ret (pe_fn FP hr2 (by rfl) (pa_cons (pv 0) (pa_cons (pv 1) pa_nil))))) pss_nil)
      (pss_cons (ps_asg (pe_op op_add (pe_op op_sub (pe_ix ix_list (pv 3) pe_int (fun _ _ => rfl)) (pv 4)) pe_int) (pg_sub (pv 3) pe_int set_list))
      (pss_cons (ps_set (i := 5) sc50.nd rfl (.inl rfl) (pe_fn FP hr2 (by rfl) (pa_cons (pv 0) (pa_cons (pe_lst (pa_cons pe_str (pa_cons pe_str pa_nil))) pa_nil))))
      (pss_one (ps_ret (pe_callTy call_tuple_of (by rfl) B.tup b_tup (pa_cons (pe_op op_cat (pe_lst (pa_cons (pv 5) pa_nil))
        (pe_lc (own := [("_law_k", 6)]) (g := gName 6) (tt := tYes) (by rfl) sc50.nd (pi_range1 (by rfl) B.range (pa_cons (pv 4) pa_nil)) (blkOk_by (own := [("_law_k", 6)]) (N := n50) (sc := defScope (topS 50)) (by decide +kernel))
          (fun _ _ _ _ _ => pg_name (i := 6) sc50.nd rfl (Or.inl rfl)) (fun _ _ _ _ _ => pts_nil) (fun _ _ _ _ _ => pe_fn ih hr (by rfl) (pa_cons (pv 0) (pa_cons (pv 1) (pa_cons (pe_op op_sub (pv 2) pe_int) (pa_cons (pv 3) pa_nil))))))) pa_nil))))))), ?_⟩
    have naS := g.neS src ha
    refine ⟨_, rfl, S, 5, rfl, src, by decide, by decide, fun k H1 h0 h1 d1 => ⟨_, _, rfl, rfl, ⟨by decide, by decide⟩, _, _, rfl, rfl, ?_⟩⟩
    obtain ⟨m, em, m2, m4⟩ : ∃ m : Nat, (2 : Int) + k / 2 = (m : Int) ∧ 2 ≤ m ∧ m ≤ 4 := ⟨(2 + k / 2).toNat, by omega, by omega, by omega⟩
    rw [show (fun i j => V.int (i + j)) (2 : Int) (k / 2) = V.int (m : Int) from congrArg V.int em]
    have ha1 := d1.kp _ _ ha naS naS
    have hR1 := d1.kp _ _ hR nRS nRS
    refine ⟨_, rfl, _, _, rfl, rfl, _, rfl, ?_⟩
    refine ite2 (fun _ => ?_) (fun hdeep => ?_)
    · refine ⟨_, rfl, _, rfl, S, a, _, rfl, d1.so, SqL.of ha1, st_of ha1 naS, by have := g.ne; simpa using this, by have := g.le; rw [List.length_map]; omega, fun j v H2 ev d2 => ?_⟩
      obtain ⟨c, rfl, c1, c2⟩ := leaf_of g ev
      exact q _ (.leaf c) room H2 (d1.trans d2).of (d2.kp _ _ hR1 nRS nRS) (tm_leaf c) ⟨c1, c2⟩ (by simp only [Tm.depth]; omega) (by simp only [Tm.size]; omega)
    have hdeep' : ¬ ((deep : Nat) : Int) < 2 := fun z => hdeep (decide_eq_true z)
    refine ⟨_, rfl, R, _, _, _, rfl, rfl, SqL.of hR1, atI_nat (j := 0) rfl, _, rfl, _, _, rfl, rfl, _, _, rfl, rfl, _, rfl, ?_⟩
    refine ite2 (fun _ => ?_) (fun hro => ?_)
    · refine ⟨_, rfl, _, rfl, S, a, _, rfl, d1.so, SqL.of ha1, st_of ha1 naS, by have := g.ne; simpa using this, by have := g.le; rw [List.length_map]; omega, fun j v H2 ev d2 => ?_⟩
      obtain ⟨c, rfl, c1, c2⟩ := leaf_of g ev
      exact q _ (.leaf c) room H2 (d1.trans d2).of (d2.kp _ _ hR1 nRS nRS) (tm_leaf c) ⟨c1, c2⟩ (by simp only [Tm.depth]; omega) (by simp only [Tm.size]; omega)
    have hro' : ¬ ((room : Nat) : Int) < (m : Int) - 1 := fun z => hro (decide_eq_true z)
    refine ⟨_, rfl, S, 4, rfl, d1.so, by decide, by decide, fun k2 H2 _ _ d2 => ⟨rfl, _, rfl, ?_⟩⟩
    have d12 := d1.trans d2
    have ha2 := d2.kp _ _ ha1 naS naS
    have hR2 := d2.kp _ _ hR1 nRS nRS
    refine ite2 (fun _ => ?_) (fun _ => ?_)
    · refine ⟨_, rfl, _, rfl, S, a, _, rfl, d2.so, SqL.of ha2, st_of ha2 naS, by have := g.ne; simpa using this, by have := g.le; rw [List.length_map]; omega, fun j v H3 ev d3 => ?_⟩
      obtain ⟨c, rfl, c1, c2⟩ := leaf_of g ev
      exact q _ (.leaf c) room H3 (d12.trans d3).of (d3.kp _ _ hR2 nRS nRS) (tm_leaf c) ⟨c1, c2⟩ (by simp only [Tm.depth]; omega) (by simp only [Tm.size]; omega)
    -- an operator
    obtain ⟨room2, er, hr2'⟩ : ∃ room2 : Nat, (room : Int) - (m : Int) + 1 = (room2 : Int) ∧ room2 + m = room + 1 := ⟨(room - m + 1 : Int).toNat, by omega, by omega⟩
    refine ⟨_, rfl, R, _, _, _, rfl, rfl, SqL.of hR2, atI_nat (j := 0) rfl, _, rfl, _, _, rfl, rfl, _, _, rfl, rfl, _, rfl, R, _, _, 0, rfl, rfl, hR2, rfl, ?_⟩
    have hR3 : (upd H2 R (.lst ([V.int (room : Nat)].set 0 (.int ((room : Int) - (m : Int) + 1))))) R = some (.lst [.int (room2 : Nat)]) := by rw [upd_same, er]; rfl
    have d3 : Dr S R H (upd H2 R (.lst ([V.int (room : Nat)].set 0 (.int ((room : Int) - (m : Int) + 1))))) := by
      exact d12.of.put nRS (ni.dr src d12)
    generalize (upd H2 R (.lst ([V.int (room : Nat)].set 0 (.int ((room : Int) - (m : Int) + 1))))) = H3 at hR3 d3
    have nRa : a ≠ R := fun z => by
      rw [z, hR] at ha
      have e := HO.lst.inj (Option.some.inj ha)
      cases cs with
      | nil => exact g.ne rfl
      | cons c cs => simp [chV] at e
    have ha3 := d3.kp _ _ ha naS nRa
    refine ⟨_, rfl, (by show 2 ≤ sizeLine; decide), fun lo nlo => ?_⟩
    have s4 := same_upd (o := .lst [V.str "&", .str "|"]) nlo
    have nloS := Dr.noS d3.so nlo
    refine ⟨S, lo, _, rfl, d3.so.same s4, SqL.of upd_same, st_of upd_same nloS, by simp, by decide, fun j v H5 ev d5 => ?_⟩
    obtain ⟨op, rfl⟩ : ∃ op : Bool, v = .str (opS op) := by
      have : v ∈ [V.str "&", .str "|"] := List.mem_of_getElem? ev
      simp only [List.mem_cons, List.not_mem_nil, or_false] at this
      rcases this with rfl | rfl
      · exact ⟨true, by rw [opS_and]⟩
      · exact ⟨false, by rw [opS_or]⟩
    have d35 : Dr S R H H5 := (d3.same s4).trans d5.of
    have hR5 := d5.kp _ _ (s4 _ _ hR3) nRS nRS
    have ha5 := d5.kp _ _ (s4 _ _ ha3) naS naS
    refine ⟨_, rfl, (by show 1 ≤ sizeLine; decide), fun l1 nl1 => ?_⟩
    have s6 := same_upd (o := .lst [V.str (opS op)]) nl1
    refine ⟨_, rfl, (m : Nat), rfl, by omega, by omega, fun D7 nD7 => ?_⟩
    generalize eH6 : (upd H5 l1 (.lst [V.str (opS op)])) = H6 at s6 nD7
    have hl6 : H6 l1 = some (.lst [V.str (opS op)]) := by rw [← eH6]; exact upd_same
    have d36 : Dr S R H H6 := d35.same s6
    have hR6 := s6 _ _ hR5
    have ha6 := s6 _ _ ha5
    have nD7S := Dr.noS d36.so nD7
    have nl1S := Dr.noS d35.so nl1
    have nl1R : l1 ≠ R := (ne_of_none hR5 nl1).symm
    have nD7R : D7 ≠ R := (ne_of_none hR6 nD7).symm
    have nD70 : H D7 = none := d36.free nD7 nD7S nD7R
    have ni6 : NoIn H6 S R := ni.dr src d36
    refine lc_range (lo := 0) (n := m) (fun i H7 => ∃ (vs : List V) (ts : List Tm) (rm : Nat), H7 D7 = some (.lst vs) ∧ DpAll K H7 vs (tDs ts) ∧ ts.length = i ∧ (∀ t ∈ ts, t.WF ∧ t.depth ≤ deep - 1) ∧ sizes ts + rm = room2 + i ∧ H7 R = some (.lst [.int (rm : Nat)]) ∧ Dr S R H6 H7)
      ⟨[], [], room2, upd_same, .nil, rfl, fun t ht => by simp at ht, by simp [sizes], by rw [upd_ne nD7R.symm]; exact hR6, (Dr.refl d36.so).same (same_upd nD7)⟩ ?_ ?_
    · rintro i H7 hi ⟨vs, ts, rm, hD7, hva, hlt, hts, hsz, hR7, d7⟩
      refine ⟨rfl, _, rfl, _, rfl, _, rfl, _, _, rfl, rfl, _, rfl, S, a, R, cs, deep - 1, rm, ?_, d7.so, d7.kp _ _ ha6 naS nRa, g, hR7, by omega, nRS, ni6.dr d36.so d7, by omega, by omega, fun v t rm' H8 d8 hR8 ht wt dt sz => ?_⟩
      · show [V.ref S, V.ref a, V.int (((deep : Nat) : Int) - 1), V.ref R] = _
        rw [show ((deep : Nat) : Int) - 1 = ((deep - 1 : Nat) : Int) by omega]
      have hD8 := d8.kp _ _ hD7 nD7S nD7R
      have t78 := d8.tt2 d7.so hR7 trivial
      have t8u : Tt H8 (upd H8 D7 (.lst (vs ++ [v]))) := Tt.upd hD8 trivial
      have lvs : vs.length = ts.length := mapD_len hva
      refine ⟨vs, hD8, small1000 (by omega), vs ++ [v], ts ++ [t], rm', upd_same, ?_, by simp [hlt], fun u hu' => ?_, ?_, by rw [upd_ne nD7R.symm]; exact hR8, (d7.trans d8).write d36.so nD7⟩
      · rw [tDs_app]
        exact DpAll.append (DpAll.ts (t78.trans t8u).ts _ _ (flats_tDs _) hva) (.cons (ht.ts t8u.ts) .nil)
      · rcases List.mem_append.mp hu' with h | h
        · exact hts u h
        · have : u = t := by simpa using h
          subst this; exact ⟨wt, dt⟩
      · rw [sizes_app]; simp only [sizes]; omega
    · rintro H7 ⟨vs, ts, rm, hD7, hva, hlt, hts, hsz, hR7, d7⟩
      have hl7 := d7.kp _ _ hl6 nl1S nl1R
      have lvs : vs.length = ts.length := mapD_len hva
      refine ⟨l1, D7, _, vs, rfl, rfl, hl7, hD7, small (by simp only [List.length_cons, List.length_nil]; omega), fun p8 np8 => ?_⟩
      have s8 := same_upd (o := .lst ([V.str (opS op)] ++ vs)) np8
      refine ⟨p8, _, rfl, .inl ⟨SqL.of upd_same, fun p9 np9 => ?_⟩⟩
      have s9 := same_upd (o := .tup ([V.str (opS op)] ++ vs)) np9
      have s89 := s8.trans s9
      have d9 : Dr S R H _ := (d36.trans d7).same s89
      have wt : (Tm.node op ts).WF := ⟨by omega, (wfs_iff ts).mpr fun t ht => (hts t ht).1⟩
      refine q _ (.node op ts) rm _ d9 (s89 _ _ hR7) ?_ wt ?_ ?_
      · unfold TmAt
        rw [tD_node]
        exact .tup (SqT.of upd_same) (.cons (.str _) (DpAll.same s89 _ _ hva))
      · simp only [Tm.depth]
        have := depths_le_of fun t ht => (hts t ht).2
        omega
      · simp only [Tm.size]; omega
end
end FD
end T_G3

section T_G4
set_option Elab.async false
set_option linter.all false
set_option maxRecDepth 100000
set_option maxHeartbeats 2000000
/-! The law: goals drawn. -/
namespace FD
open PySem L2 FF FW
/-- a small term -/
structure TSm (n : Nat) (t : Tm) : Prop where
  wf : t.WF
  dp : t.depth ≤ 5
  sz : t.size ≤ n
theorem TSm.ok {n : Nat} {t : Tm} (h : TSm n t) (hn : n ≤ 24) : TOk t := ⟨h.wf, h.dp, Nat.le_trans h.sz hn⟩
theorem TSm.mono {m n : Nat} {t : Tm} (h : TSm m t) (hn : m ≤ n) : TSm n t := ⟨h.wf, h.dp, Nat.le_trans h.sz hn⟩
structure PSm (p : Tm × Tm) : Prop where
  l : TSm 6 p.1
  r : TSm 6 p.2
theorem PSm.ok {p : Tm × Tm} (h : PSm p) : POk p := ⟨h.l.ok (by decide), h.r.ok (by decide)⟩
/-! ### terms that are written -/
def MkT (K : PySem.W.Frag) (te : TE) (σ : L2.St) (t : Tm) : Prop := ∀ (H : Hp) (Q : VK), (∀ v H', Same H H' → TmAt K H' v t → Q v H') → te σ H Q
def MkP (K : PySem.W.Frag) (te : TE) (σ : L2.St) (p : Tm × Tm) : Prop := ∀ (H : Hp) (Q : VK), (∀ v H', Same H H' → Dp K H' v (prD2 p) → Q v H') → te σ H Q
section
variable {K : PySem.W.Frag} {σ : L2.St} {ta tb : TE} {t u : Tm}
theorem mkV {i c : Nat} (h : σ[i]? = some (some (.str (strC [c])))) : MkT K (tVar i) σ (.leaf c) := fun H Q q => ⟨_, h, q _ H (Same.refl _) (tm_leaf c)⟩
theorem mkN {op : Bool} (a : MkT K ta σ t) (b : MkT K tb σ u) : MkT K (tTup (tCons (tC (.str (opS op))) (tCons ta (tCons tb tNil)))) σ (.node op [t, u]) := fun H Q q =>
  a H _ fun v1 H1 s1 h1 => b H1 _ fun v2 H2 s2 h2 => ⟨(by show 3 ≤ sizeLine; decide), fun p np => q _ _ ((s1.trans s2).trans (same_upd np)) (by
    unfold TmAt
    rw [tD_node]
    exact Dp.mk np (.cons (.str _) (.cons (Dp.same s2 _ _ h1) (.cons h2 .nil))))⟩
theorem mkA (a : MkT K ta σ t) (b : MkT K tb σ u) : MkT K (tTup (tCons (tC (.str "&")) (tCons ta (tCons tb tNil)))) σ (.node true [t, u]) := by
  have := mkN (op := true) a b; rw [opS_and] at this; exact this
theorem mkO (a : MkT K ta σ t) (b : MkT K tb σ u) : MkT K (tTup (tCons (tC (.str "|")) (tCons ta (tCons tb tNil)))) σ (.node false [t, u]) := by
  have := mkN (op := false) a b; rw [opS_or] at this; exact this
theorem mkP (a : MkT K ta σ t) (b : MkT K tb σ u) : MkP K (tTup (tCons ta (tCons tb tNil))) σ (t, u) := fun H Q q =>
  a H _ fun v1 H1 s1 h1 => b H1 _ fun v2 H2 s2 h2 => ⟨(by show 2 ≤ sizeLine; decide), fun p np => q _ _ ((s1.trans s2).trans (same_upd np)) (Dp.mk np (.cons (Dp.same s2 _ _ h1) (.cons h2 .nil)))⟩
end
theorem useS {K : PySem.W.Frag} {te : TE} {u : L2.TS} {i : Nat} {D : Ends} {σ : L2.St} {H : Hp} (p : Tm × Tm) (m : MkP K te σ p) (q : ∀ v H' l, Same H H' → Dp K H' v (prD2 p) → H' l = none → u D (σ.set i (some (.ref l))) (L2.upd H' l (.lst [v]))) :
    tSeq (tAsg (tLst (tCons te tNil)) (gName i)) u D σ H := m H _ fun v H' s h => ⟨(by show 1 ≤ sizeLine; decide), fun l nl => q v H' l s h nl⟩
theorem useB {K K' : PySem.W.Frag} {te : TE} {u : L2.TS} {i : Nat} {D : Ends} {σ : L2.St} {H : Hp} {l : Addr} {xs : List V} (p : Tm × Tm) (m : MkP K te σ p) (hv : σ[i]? = some (some (.ref l))) (hl : H l = some (.lst xs)) (lt : xs.length < sizeLine)
    (q : ∀ v H', Same H H' → Dp K H' v (prD2 p) → u D σ (L2.upd H' l (.lst (xs ++ [v])))) : tSeq (tDrop (tBM K' "list" rAppend (tVar i) (tCons te tNil))) u D σ H :=
  ⟨_, hv, .inl ⟨rfl, _, SqL.of hl⟩, m H _ fun v H' s h => ⟨l, _, _, rfl, rfl, s _ _ hl, lt, q v H' s h⟩⟩
theorem useP {K : PySem.W.Frag} {te : TE} {σ : L2.St} {H : Hp} {Q : VK} (p : Tm × Tm) (m : MkP K te σ p) (q : ∀ v H', Same H H' → Dp K H' v (prD2 p) → Q v H') : te σ H Q := m H Q q
theorem Dr.fresh {S R : Addr} {H0 H1 H2 : Hp} (d1 : Dr S S H0 H1) (d2 : Dr S R H1 H2) (n : H0 R = none) : Dr S S H0 H2 :=
  ⟨fun x o e n1 n2 => d2.kp _ _ (d1.kp _ _ e n1 n2) n1 (ne_of_none e n), d2.so, fun l r e => by
    obtain ⟨r', e'⟩ := d1.nr l r e
    exact d2.nr l r' e'⟩
section
variable {P : Program} {w : World} {K : PySem.W.Frag} {mg : Str → Option Value} {base : Heap}
/-! ### _law_known_goal -/
def spKnown (K : PySem.W.Frag) : Sp := fun vs H Q _ => ∃ (S a : Addr) (cs : List Nat), vs = [.ref S, .ref a] ∧ SrcA H S ∧ H a = some (.lst (cs.map chV)) ∧ Sg cs ∧ ∀ v p H', Dr S S H H' → Dp K H' v (prD2 p) → PSm p → Q v H'
abbrev n54 : List Str := ["_law_source_here", "_law_signs_here", "_law_x", "_law_y", "_law_z", "_law_some", "_law_k"]
theorem sc54 : FnScope n54 ["_law_source_here", "_law_signs_here"] (defScope (topS 54)) := ⟨rfl, rfl, rfl, by decide +kernel, rfl, by decide +kernel, by decide +kernel⟩
theorem ok_known (D : Df K mg "_law_known_goal" (topS 54) ["_law_source_here", "_law_signs_here"]) (B : Bi mg) (FP : Fn P w K mg base 2 "_law_pick" ["_law_source_here", "_law_row"] (spPick K)) : Fn P w K mg base 3 "_law_known_goal" ["_law_source_here", "_law_signs_here"] (spKnown K) := by
  refine D.ok sc54 (fun vs H Q E h => ?_) (fun f cdv A outer s H vs Q E hr h => ?_)
  · obtain ⟨S, a, cs, rfl, _⟩ := h
    rfl
  obtain ⟨S, a, cs, rfl, src, ha, g, q⟩ := h
  refine ⟨_, pss_cons (ps_asg (pe_lc (own := [("_law_k", 6)]) (g := gName 6) (tt := tYes) (by rfl) sc54.nd (pi_range1 (by rfl) B.range (pa_cons pe_int pa_nil)) (blkOk_by (own := [("_law_k", 6)]) (N := n54) (sc := defScope (topS 54)) (by decide +kernel))
        (fun _ _ _ _ _ => pg_name (i := 6) sc54.nd rfl (Or.inl rfl)) (fun _ _ _ _ _ => pts_nil) (fun _ _ _ _ _ => pe_fn FP hr (by rfl) (pa_cons (pv 0) (pa_cons (pv 1) pa_nil))))
      (pg_lst rfl (pgs_cons (pg_name (i := 2) sc54.nd rfl (.inl rfl)) (pgs_cons (pg_name (i := 3) sc54.nd rfl (.inl rfl)) (pgs_cons (pg_name (i := 4) sc54.nd rfl (.inl rfl)) pgs_nil)))))
    (pss_cons (ps_set (i := 5) sc54.nd rfl (.inl rfl) (pe_lst (pa_cons (pe_tup (pa_cons (pe_tup (pa_cons pe_str (pa_cons (pv 2) (pa_cons (pe_tup (pa_cons pe_str (pa_cons (pv 3) (pa_cons (pv 4) pa_nil)))) pa_nil)))) (pa_cons (pe_tup (pa_cons pe_str (pa_cons (pe_tup (pa_cons pe_str (pa_cons (pv 2) (pa_cons (pv 3) pa_nil)))) (pa_cons (pe_tup (pa_cons pe_str (pa_cons (pv 2) (pa_cons (pv 4) pa_nil)))) pa_nil)))) pa_nil))) pa_nil)))
    (pss_cons (ps_expr (pe_bm PySem.F.plainAttrs_list PySem.F.slot_list_append PySem.F.type_list_append mt_append (pv 5) (pa_cons (pe_tup (pa_cons (pe_tup (pa_cons pe_str (pa_cons (pe_tup (pa_cons pe_str (pa_cons (pv 2) (pa_cons (pe_tup (pa_cons pe_str (pa_cons (pv 3) (pa_cons (pv 4) pa_nil)))) pa_nil)))) (pa_cons (pe_tup (pa_cons pe_str (pa_cons (pv 3) (pa_cons (pv 4) pa_nil)))) pa_nil))))
        (pa_cons (pe_tup (pa_cons pe_str (pa_cons (pe_tup (pa_cons pe_str (pa_cons (pv 2) (pa_cons (pe_tup (pa_cons pe_str (pa_cons (pv 3) (pa_cons (pv 4) pa_nil)))) pa_nil)))) (pa_cons (pe_tup (pa_cons pe_str (pa_cons (pv 3) (pa_cons (pv 4) pa_nil)))) pa_nil)))) pa_nil))) pa_nil)))
    (pss_cons (ps_expr (pe_bm PySem.F.plainAttrs_list PySem.F.slot_list_append PySem.F.type_list_append mt_append (pv 5) (pa_cons (pe_tup (pa_cons (pe_tup (pa_cons pe_str (pa_cons (pe_tup (pa_cons pe_str (pa_cons (pv 2) (pa_cons (pv 3) pa_nil)))) (pa_cons (pe_tup (pa_cons pe_str (pa_cons (pv 2) (pa_cons (pv 4) pa_nil)))) pa_nil))))
        (pa_cons (pe_tup (pa_cons pe_str (pa_cons (pv 2) (pa_cons (pe_tup (pa_cons pe_str (pa_cons (pv 3) (pa_cons (pv 4) pa_nil)))) pa_nil)))) pa_nil))) pa_nil)))
    (pss_cons (ps_expr (pe_bm PySem.F.plainAttrs_list PySem.F.slot_list_append PySem.F.type_list_append mt_append (pv 5) (pa_cons (pe_tup (pa_cons (pe_tup (pa_cons pe_str (pa_cons (pv 2) (pa_cons (pe_tup (pa_cons pe_str (pa_cons (pv 3) (pa_cons (pe_tup (pa_cons pe_str (pa_cons (pv 2) (pa_cons (pv 4) pa_nil)))) pa_nil)))) pa_nil))))
        (pa_cons (pe_tup (pa_cons pe_str (pa_cons (pe_tup (pa_cons pe_str (pa_cons (pv 2) (pa_cons (pv 3) pa_nil)))) (pa_cons (pe_tup (pa_cons pe_str (pa_cons (pv 2) (pa_cons (pv 4) pa_nil)))) pa_nil)))) pa_nil))) pa_nil)))
    (pss_one (ps_ret (pe_fn FP hr (by rfl) (pa_cons (pv 0) (pa_cons (pv 5) pa_nil))))))))), ?_⟩
  have naS := g.neS src ha
  refine ⟨3, rfl, by decide, by decide, fun D1 nD1 => ?_⟩
  have nD1S := Dr.noS src nD1
  refine lc_range (lo := 0) (n := 3) (fun i H2 => ∃ xs : List Nat, H2 D1 = some (.lst (xs.map chV)) ∧ xs.length = i ∧ (∀ c ∈ xs, 97 ≤ c ∧ c < 105) ∧ Dr S S H H2)
    ⟨[], upd_same, rfl, fun c h => by simp at h, (Dr.refl src).same (same_upd nD1)⟩ ?_ ?_
  · rintro i H2 hi ⟨xs, hD, hl, hx, d2⟩
    have ha2 := d2.kp _ _ ha naS naS
    refine ⟨rfl, _, rfl, _, rfl, S, a, _, rfl, d2.so, SqL.of ha2, st_of ha2 naS, by have := g.ne; simpa using this, by have := g.le; rw [List.length_map]; omega, fun j v H3 ev d3 => ?_⟩
    obtain ⟨c, rfl, c1, c2⟩ := leaf_of g ev
    refine ⟨xs.map chV, d3.kp _ _ hD nD1S nD1S, small1000 (by rw [List.length_map]; omega), xs ++ [c], by rw [upd_same, List.map_append]; rfl, by simp [hl], fun z hz => ?_, (d2.trans d3).write src nD1⟩
    rcases List.mem_append.mp hz with h | h
    · exact hx z h
    · have : z = c := by simpa using h
      subst this; exact ⟨c1, c2⟩
  rintro H2 ⟨xs, hD, hl, hx, d2⟩
  obtain ⟨x, y, z, rfl⟩ : ∃ x y z, xs = [x, y, z] := by
    match xs, hl with
    | [x, y, z], _ => exact ⟨x, y, z, rfl⟩
  have ox := hx x (by simp)
  have oy := hx y (by simp)
  have oz := hx z (by simp)
  refine ⟨D1, _, rfl, SqL.of hD, rfl, _, _, rfl, _, _, rfl, _, _, rfl, rfl, ?_⟩
  dsimp only
  refine useS (K := K) (.node true [.leaf x, .node false [.leaf y, .leaf z]], .node false [.node true [.leaf x, .leaf y], .node true [.leaf x, .leaf z]]) ?m1 fun v1 H3 l s3 h1 nl => ?_
  case m1 => exact mkP (mkA (mkV (c := x) rfl) (mkO (mkV (c := y) rfl) (mkV (c := z) rfl))) (mkO (mkA (mkV (c := x) rfl) (mkV (c := y) rfl)) (mkA (mkV (c := x) rfl) (mkV (c := z) rfl)))
  have s4 := same_upd (o := .lst [v1]) nl
  have nlS := Dr.noS (d2.so.same s3) nl
  have nl0 : H l = none := d2.free (s3.free nl) nlS nlS
  have d4 := d2.same (s3.trans s4)
  have h1' := Dp.same s4 _ _ h1
  have hl4 : (upd H3 l (.lst [v1])) l = some (.lst [v1]) := upd_same
  generalize (upd H3 l (.lst [v1])) = H4 at d4 h1' hl4
  refine useB (K := K) (.node true [.node false [.leaf x, .node true [.leaf y, .leaf z]], .node false [.leaf y, .leaf z]], .node false [.node true [.leaf x, .node false [.leaf y, .leaf z]], .node true [.leaf y, .leaf z]]) ?m2 rfl hl4 (small1000 (by simp)) fun v2 H5 s5 h2 => ?_
  case m2 => exact mkP (mkA (mkO (mkV (c := x) rfl) (mkA (mkV (c := y) rfl) (mkV (c := z) rfl))) (mkO (mkV (c := y) rfl) (mkV (c := z) rfl))) (mkO (mkA (mkV (c := x) rfl) (mkO (mkV (c := y) rfl) (mkV (c := z) rfl))) (mkA (mkV (c := y) rfl) (mkV (c := z) rfl)))
  have t5 : FW.TS H5 (upd H5 l (.lst ([v1] ++ [v2]))) := TS.upd (s5 _ _ hl4) trivial
  have d6 : Dr S S H (upd H5 l (.lst ([v1] ++ [v2]))) := (d4.same s5).write src nl0
  have h1'' := Dp.ts t5 _ _ (flat_prD2 _) (Dp.same s5 _ _ h1')
  have h2' := Dp.ts t5 _ _ (flat_prD2 _) h2
  have hl6 : (upd H5 l (.lst ([v1] ++ [v2]))) l = some (.lst [v1, v2]) := upd_same
  generalize (upd H5 l (.lst ([v1] ++ [v2]))) = H6 at d6 h1'' h2' hl6
  refine useB (K := K) (.node true [.node false [.leaf x, .leaf y], .node false [.leaf x, .leaf z]], .node false [.leaf x, .node true [.leaf y, .leaf z]]) ?m3 rfl hl6 (small1000 (by simp)) fun v3 H7 s7 h3 => ?_
  case m3 => exact mkP (mkA (mkO (mkV (c := x) rfl) (mkV (c := y) rfl)) (mkO (mkV (c := x) rfl) (mkV (c := z) rfl))) (mkO (mkV (c := x) rfl) (mkA (mkV (c := y) rfl) (mkV (c := z) rfl)))
  have t7 : FW.TS H7 (upd H7 l (.lst ([v1, v2] ++ [v3]))) := TS.upd (s7 _ _ hl6) trivial
  have d8 : Dr S S H (upd H7 l (.lst ([v1, v2] ++ [v3]))) := (d6.same s7).write src nl0
  have g1 := Dp.ts t7 _ _ (flat_prD2 _) (Dp.same s7 _ _ h1'')
  have g2 := Dp.ts t7 _ _ (flat_prD2 _) (Dp.same s7 _ _ h2')
  have g3 := Dp.ts t7 _ _ (flat_prD2 _) h3
  have hl8 : (upd H7 l (.lst ([v1, v2] ++ [v3]))) l = some (.lst [v1, v2, v3]) := upd_same
  generalize (upd H7 l (.lst ([v1, v2] ++ [v3]))) = H8 at d8 g1 g2 g3 hl8
  refine useB (K := K) (.node true [.leaf x, .node false [.leaf y, .node true [.leaf x, .leaf z]]], .node false [.node true [.leaf x, .leaf y], .node true [.leaf x, .leaf z]]) ?m4 rfl hl8 (small1000 (by simp)) fun v4 H9 s9 h4 => ?_
  case m4 => exact mkP (mkA (mkV (c := x) rfl) (mkO (mkV (c := y) rfl) (mkA (mkV (c := x) rfl) (mkV (c := z) rfl)))) (mkO (mkA (mkV (c := x) rfl) (mkV (c := y) rfl)) (mkA (mkV (c := x) rfl) (mkV (c := z) rfl)))
  have t9 : FW.TS H9 (upd H9 l (.lst ([v1, v2, v3] ++ [v4]))) := TS.upd (s9 _ _ hl8) trivial
  have d10 : Dr S S H (upd H9 l (.lst ([v1, v2, v3] ++ [v4]))) := (d8.same s9).write src nl0
  have f1 := Dp.ts t9 _ _ (flat_prD2 _) (Dp.same s9 _ _ g1)
  have f2 := Dp.ts t9 _ _ (flat_prD2 _) (Dp.same s9 _ _ g2)
  have f3 := Dp.ts t9 _ _ (flat_prD2 _) (Dp.same s9 _ _ g3)
  have f4 := Dp.ts t9 _ _ (flat_prD2 _) h4
  have hl10 : (upd H9 l (.lst ([v1, v2, v3] ++ [v4]))) l = some (.lst [v1, v2, v3, v4]) := upd_same
  generalize (upd H9 l (.lst ([v1, v2, v3] ++ [v4]))) = H10 at d10 f1 f2 f3 f4 hl10
  have wf : ∀ c, 97 ≤ c ∧ c < 105 → (Tm.leaf c).WF := fun c h => h
  refine ⟨_, rfl, _, rfl, S, l, _, rfl, d10.so, SqL.of hl10, st_of hl10 nlS, by simp, by simp, fun j v H11 ev d11 => ?_⟩
  have t11 := d11.tt d10.so
  match j, ev with
  | 0, ev =>
    cases ev
    refine q _ _ H11 (d10.trans d11) (Dp.ts t11.ts _ _ (flat_prD2 _) f1) ⟨⟨?_, by simp [Tm.depth, depths], by simp [Tm.size, sizes]⟩, ⟨?_, by simp [Tm.depth, depths], by simp [Tm.size, sizes]⟩⟩ <;> simp [Tm.WF, WFs] <;> omega
  | 1, ev =>
    cases ev
    refine q _ _ H11 (d10.trans d11) (Dp.ts t11.ts _ _ (flat_prD2 _) f2) ⟨⟨?_, by simp [Tm.depth, depths], by simp [Tm.size, sizes]⟩, ⟨?_, by simp [Tm.depth, depths], by simp [Tm.size, sizes]⟩⟩ <;> simp [Tm.WF, WFs] <;> omega
  | 2, ev =>
    cases ev
    refine q _ _ H11 (d10.trans d11) (Dp.ts t11.ts _ _ (flat_prD2 _) f3) ⟨⟨?_, by simp [Tm.depth, depths], by simp [Tm.size, sizes]⟩, ⟨?_, by simp [Tm.depth, depths], by simp [Tm.size, sizes]⟩⟩ <;> simp [Tm.WF, WFs] <;> omega
  | 3, ev =>
    cases ev
    refine q _ _ H11 (d10.trans d11) (Dp.ts t11.ts _ _ (flat_prD2 _) f4) ⟨⟨?_, by simp [Tm.depth, depths], by simp [Tm.size, sizes]⟩, ⟨?_, by simp [Tm.depth, depths], by simp [Tm.size, sizes]⟩⟩ <;> simp [Tm.WF, WFs] <;> omega
  | j + 4, ev => simp at ev
end
end FD
end T_G4

section T_G5
set_option Elab.async false
set_option linter.all false
set_option maxRecDepth 100000
set_option maxHeartbeats 2000000
/-! The law: goals and premises drawn. -/
namespace FD
open PySem L2 FF FW
theorem sh_rls {rs : List Rl} (ok : ∀ r ∈ rs, ROk r) : Sh (.list (rs.map rlD)) := by
  refine sh_list (flats_map flat_rlD rs) (Nat.le_trans (depthAll_le (n := 10) fun d hd => ?_) (by decide))
  obtain ⟨r, hr, rfl⟩ := List.mem_map.mp hd
  have b1 := tD_depth r.2.1
  have b2 := tD_depth r.2.2
  have b3 := (ok r hr).pr.l.dp
  have b4 := (ok r hr).pr.r.dp
  simp only [rlD, PyData.depth, PyData.depthAll]
  omega
mutual
theorem depth_size : ∀ t : Tm, t.WF → t.depth ≤ t.size
  | .leaf _, _ => Nat.le_refl 1
  | .node _ [], w => by simp [Tm.WF] at w
  | .node _ [t], w => by simp [Tm.WF] at w
  | .node _ (t :: u :: ts), w => by
    have w2 : WFs (t :: u :: ts) := w.2
    have h := depths_size (t :: u :: ts) w2
    simp only [Tm.depth, Tm.size]
    have h2 := sizes_len w2
    simp only [List.length_cons] at h h2
    omega
theorem depths_size : ∀ ts : List Tm, WFs ts → depths ts + ts.length ≤ sizes ts + 1
  | [], _ => by simp [depths, sizes]
  | t :: ts, w => by
    simp only [WFs] at w
    have h1 := depth_size t w.1
    have h2 := depths_size ts w.2
    have h3 := sizes_len w.2
    have h4 := size_pos t w.1
    simp only [depths, sizes, List.length_cons]
    omega
end
theorem depth3 {t : Tm} (h : TSm 3 t) : t.depth ≤ 4 := by have := depth_size t h.wf; have := h.sz; omega
/-- a drawn rule -/
structure RSm (r : Rl) : Prop where
  nm : NOk r.1
  l : TSm 3 r.2.1
  r : TSm 3 r.2.2
theorem RSm.ok {r : Rl} (h : RSm r) : ROk r := ⟨h.nm, h.l.ok (by decide), h.r.ok (by decide)⟩
section
variable {P : Program} {w : World} {K : PySem.W.Frag} {mg : Str → Option Value} {base : Heap}
/-! ### _law_goal -/
def spLGoal (K : PySem.W.Frag) : Sp := fun vs H Q _ => ∃ (S a b : Addr) (cs : List Nat) (us : List V) (rs : List Rl), vs = [.ref S, .ref a, .ref b] ∧ SrcA H S ∧ H a = some (.lst (cs.map chV)) ∧ Sg cs ∧ H b = some (.lst us) ∧ b ≠ S ∧ DpAll K H us (rs.map rlD) ∧ (∀ r ∈ rs, RSm r) ∧ rs.length ≤ 6 ∧ ∀ v p H', Dr S S H H' → Dp K H' v (prD2 p) → PSm p → Q v H'
abbrev n55 : List Str := ["_law_source_here", "_law_signs_here", "_law_premises_here", "_law_way", "_law_left", "_law_right", "_law_k"]
abbrev p55 : List Str := ["_law_source_here", "_law_signs_here", "_law_premises_here"]
theorem sc55 : FnScope n55 p55 (defScope (topS 55)) := ⟨rfl, rfl, rfl, by decide +kernel, rfl, by decide +kernel, by decide +kernel⟩
theorem ok_lgoal (D : Df K mg "_law_goal" (topS 55) p55) (B : Bi mg) (FT : Fn P w K mg base 1 "_law_take" ["_law_source_here", "_law_many"] (spTake K)) (FP : Fn P w K mg base 2 "_law_pick" ["_law_source_here", "_law_row"] (spPick K))
    (FK : Fn P w K mg base 3 "_law_known_goal" ["_law_source_here", "_law_signs_here"] (spKnown K)) (FM : Fn P w K mg base 6 "_law_term" p50 (spLTerm K 3)) : Fn P w K mg base 7 "_law_goal" p55 (spLGoal K) := by
  refine D.ok sc55 (fun vs H Q E h => ?_) (fun f cdv A outer s H vs Q E hr h => ?_)
  · obtain ⟨S, a, b, cs, us, rs, rfl, _⟩ := h
    rfl
  obtain ⟨S, a, b, cs, us, rs, rfl, src, ha, g, hb, nbS, hus, okr, hl, q⟩ := h
  have hu := hr.units
  have hr1 : Room 1 _ := hr.mono (by decide)
  have hr2 : Room 2 _ := hr.mono (by decide)
  have hr3 : Room 3 _ := hr.mono (by decide)
  refine ⟨_, pss_cons (ps_set (i := 3) sc55.nd rfl (.inl rfl) (pe_fn FT hr1 (by rfl) (pa_cons (pv 0) (pa_cons pe_int pa_nil))))
    (pss_cons (ps_if (pt_cmpR op_eq (pv 3) pe_int (nomark _)) (pss_one (ps_ret (pe_fn FK hr3 (by rfl) (pa_cons (pv 0) (pa_cons (pv 1) pa_nil))))) pss_nil)
    (pss_cons (ps_asg (pe_lc (own := [("_law_k", 6)]) (g := gName 6) (tt := tYes) (by rfl) sc55.nd (pi_range1 (by rfl) B.range (pa_cons pe_int pa_nil)) (blkOk_by (own := [("_law_k", 6)]) (N := n55) (sc := defScope (topS 55)) (by decide +kernel))
        (fun _ _ _ _ _ => pg_name (i := 6) sc55.nd rfl (Or.inl rfl)) (fun _ _ _ _ _ => pts_nil) (fun _ _ _ _ _ => pe_fn FM hr (by rfl) (pa_cons (pv 0) (pa_cons (pv 1) (pa_cons (pe_op op_add pe_int (pe_fn FT hr1 (by rfl) (pa_cons (pv 0) (pa_cons pe_int pa_nil)))) (pa_cons (pe_lst (pa_cons pe_int pa_nil)) pa_nil))))))
      (pg_lst rfl (pgs_cons (pg_name (i := 4) sc55.nd rfl (.inl rfl)) (pgs_cons (pg_name (i := 5) sc55.nd rfl (.inl rfl)) pgs_nil))))
    (Evl.pss_cut (ps_if (PW.pt (pw_and (pt_cmpR (op_neP hu) (pv 2) (pe_lst pa_nil) (by rfl)) (pw_and1 (pt_cmpR op_lt (pv 3) pe_int (nomark _)))))
        (pss_cons (ps_set (i := 4) sc55.nd rfl (.inl rfl) (pe_ix ix_tup (pe_fn FP hr2 (by rfl) (pa_cons (pv 0) (pa_cons (pv 2) pa_nil))) pe_int (fun _ _ => rfl)))
        (pss_one (ps_set (i := 5) sc55.nd rfl (.inl rfl) (pe_ix ix_tup (pe_fn FP hr2 (by rfl) (pa_cons (pv 0) (pa_cons (pv 2) pa_nil))) pe_int (fun _ _ => rfl))))) pss_nil)
    (pss_cons (ps_if (pt_cmpR op_eq (pv 3) pe_int (nomark _)) (pss_one (ps_set (i := 5) sc55.nd rfl (.inl rfl) (pe_tup (pa_cons pe_str (pa_cons (pv 5) (pa_cons (pe_fn FP hr2 (by rfl) (pa_cons (pv 0) (pa_cons (pv 1) pa_nil))) pa_nil)))))) pss_nil)
    (pss_one (ps_ret (pe_tup (pa_cons (pv 4) (pa_cons (pv 5) pa_nil))))))))), ?_⟩
  have naS := g.neS src ha
  refine ⟨_, rfl, S, 5, rfl, src, by decide, by decide, fun way H1 _ _ d1 => ?_⟩
  have ha1 := d1.kp _ _ ha naS naS
  refine ⟨_, rfl, rfl, _, rfl, ?_⟩
  refine ite2 (fun _ => ?_) (fun _ => ?_)
  · exact ⟨_, rfl, _, rfl, S, a, cs, rfl, d1.so, ha1, g, fun v p H2 d2 hp sm => q v p H2 (d1.trans d2) hp sm⟩
  refine ⟨2, rfl, by decide, by decide, fun D2 nD2 => ?_⟩
  have nD2S := Dr.noS d1.so nD2
  have nD20 : H D2 = none := d1.free nD2 nD2S nD2S
  refine lc_range (lo := 0) (n := 2) (fun i H2 => ∃ (vs : List V) (ts : List Tm), H2 D2 = some (.lst vs) ∧ DpAll K H2 vs (tDs ts) ∧ ts.length = i ∧ (∀ t ∈ ts, TSm 4 t ∧ t.depth ≤ 3) ∧ Dr S S H H2)
    ⟨[], [], upd_same, .nil, rfl, fun t ht => by simp at ht, d1.same (same_upd nD2)⟩ ?_ ?_
  · rintro i H2 hi ⟨vs, ts, hD, hva, hlt, hts, d2⟩
    have ha2 := d2.kp _ _ ha naS naS
    refine ⟨rfl, _, rfl, _, rfl, _, rfl, S, 3, rfl, d2.so, by decide, by decide, fun k H3 k0 k3 d3 => ⟨_, _, rfl, rfl, (by show 1 ≤ sizeLine; decide), fun R nR => ?_⟩⟩
    have d23 := d2.trans d3
    have nRS := Dr.noS d23.so nR
    have nR0 : H R = none := d23.free nR nRS nRS
    have sR := same_upd (o := .lst [V.int 3]) nR
    have ha3 := sR _ _ (d3.kp _ _ ha2 naS naS)
    have hD3 := sR _ _ (d3.kp _ _ hD nD2S nD2S)
    have nD2R : D2 ≠ R := ne_of_none (d3.kp _ _ hD nD2S nD2S) nR
    obtain ⟨kk, ek, hk1, hk3⟩ : ∃ kk : Nat, (1 : Int) + k = (kk : Int) ∧ 1 ≤ kk ∧ kk ≤ 3 := ⟨(1 + k).toNat, by omega, by omega, by omega⟩
    refine ⟨S, a, R, cs, kk, 3, ?_, d3.so.same sR, ha3, g, upd_same, by decide, nRS, (NoIn.new d3.so nR : NoIn H3 S R) |> fun ni => ?_, hk1, hk3, fun v t rm H4 d4 hR4 ht wt dt sz => ?_⟩
    · show [V.ref S, V.ref a, V.int (1 + k), V.ref R] = _
      rw [ek]
    · exact fun l r e => by
        have e' : H3 S = some (.lst (V.ref l :: r)) := by rw [upd_ne nRS.symm] at e; exact e
        exact ni l r e'
    have d5 : Dr S S H H4 := (d23.same sR).fresh d4 nR0
    have hD4 := d4.kp _ _ hD3 nD2S nD2R
    have t4 : Tt H2 H4 := (d3.tt d2.so).trans ((Tt.same sR).trans (d4.tt2 (d3.so.same sR) upd_same trivial))
    have t4u : Tt H4 (upd H4 D2 (.lst (vs ++ [v]))) := Tt.upd hD4 trivial
    have lvs : vs.length = ts.length := mapD_len hva
    refine ⟨vs, hD4, small1000 (by omega), vs ++ [v], ts ++ [t], upd_same, ?_, by simp [hlt], fun u hu' => ?_, d5.write src nD20⟩
    · rw [tDs_app]
      exact DpAll.append (DpAll.ts (t4.trans t4u).ts _ _ (flats_tDs _) hva) (.cons (ht.ts t4u.ts) .nil)
    · rcases List.mem_append.mp hu' with h | h
      · exact hts u h
      · have : u = t := by simpa using h
        subst this; exact ⟨⟨wt, by omega, by omega⟩, by omega⟩
  rintro H2 ⟨vs, ts, hD, hva, hlt, hts, d2⟩
  obtain ⟨tl, tr, rfl⟩ : ∃ tl tr, ts = [tl, tr] := by
    match ts, hlt with
    | [x, y], _ => exact ⟨x, y, rfl⟩
  obtain ⟨vl, vr, rfl, hvl, hvr⟩ := FD.DpAll.two hva
  have sl := hts tl (by simp)
  have sr := hts tr (by simp)
  refine ⟨D2, _, rfl, SqL.of hD, rfl, _, _, rfl, _, _, rfl, rfl, ?_⟩
  refine ⟨fun σ' H' => ∃ (vl vr : V) (tl tr : Tm), σ' = [some (.ref S), some (.ref a), some (.ref b), some (.int way), some vl, some vr, none] ∧ TmAt K H' vl tl ∧ TmAt K H' vr tr ∧ (TSm 4 tl ∧ tl.depth ≤ 4) ∧ (TSm 4 tr ∧ tr.depth ≤ 4) ∧ Dr S S H H', ?_, ?_⟩
  · have hb2 := d2.kp _ _ hb nbS nbS
    have hus2 := DpAll.ts (d2.tt src).ts _ _ (flats_map flat_rlD _) hus
    refine ⟨_, rfl, (by show 0 ≤ sizeLine; decide), fun p1 np1 => ?_⟩
    have s1 := same_upd (o := .lst []) np1
    refine ⟨_, _, Dp.same s1 _ _ (.lst (SqL.of hb2) hus2), .lst (SqL.of upd_same) .nil, sh_rls (fun r hr => (okr r hr).ok), sh_nil, _, rfl, ?_⟩
    have d3 := d2.same s1
    have hvl1 := Dp.same s1 _ _ hvl
    have hvr1 := Dp.same s1 _ _ hvr
    have hb3 := s1 _ _ hb2
    have hus3 := DpAll.same s1 _ _ hus2
    generalize (upd H2 p1 (.lst [])) = H3 at d3 hvl1 hvr1 hb3 hus3 s1
    rw [eqv_nil]
    refine ite2 (fun hne => ?_) (fun _ => ?_)
    · have lu : us.length = rs.length := mapD_len hus
      have une : us ≠ [] := fun z => by
        rw [z] at lu
        have : rs = [] := List.length_eq_zero_iff.mp lu.symm
        rw [this] at hne; simp at hne
      refine ⟨_, rfl, _, _, rfl, rfl, _, rfl, ?_⟩
      refine ite2 (fun _ => ?_) (fun _ => ?_)
      · refine ⟨_, rfl, _, rfl, S, b, us, rfl, d3.so, SqL.of hb3, st_of hb3 nbS, une, by omega, fun j v H4 ev d4 => ?_⟩
        have t4 := d4.tt d3.so
        obtain ⟨r, er, hr'⟩ := mapD_get (DpAll.ts t4.ts _ _ (flats_map flat_rlD _) hus3) ev
        have okr1 := okr r (List.mem_of_getElem? er)
        obtain ⟨tq, x1, y1, rfl, ht, h1, h2⟩ := rl_inv hr'
        refine ⟨tq, _, _, _, rfl, rfl, ht, atI_nat (j := 1) rfl, ?_⟩
        have hb4 := d4.kp _ _ hb3 nbS nbS
        refine ⟨_, rfl, _, rfl, S, b, us, rfl, d4.so, SqL.of hb4, st_of hb4 nbS, une, by omega, fun j2 v2 H5 ev2 d5 => ?_⟩
        have t5 := d5.tt d4.so
        obtain ⟨r2, er2, hr2'⟩ := mapD_get (DpAll.ts (t4.trans t5).ts _ _ (flats_map flat_rlD _) hus3) ev2
        have okr2 := okr r2 (List.mem_of_getElem? er2)
        obtain ⟨tq2, x2, y2, rfl, ht2, g1, g2⟩ := rl_inv hr2'
        refine ⟨tq2, _, _, _, rfl, rfl, ht2, atI_nat (j := 2) rfl, ?_⟩
        have dl := okr1.l
        have dr := okr2.r
        exact ⟨x1, y2, r.2.1, r2.2.2, rfl, h1.ts t5.ts, g2, ⟨dl.mono (by decide), depth3 dl⟩, ⟨dr.mono (by decide), depth3 dr⟩, (d3.trans d4).trans d5⟩
      · exact ⟨vl, vr, tl, tr, rfl, hvl1, hvr1, ⟨sl.1, by omega⟩, ⟨sr.1, by omega⟩, d3⟩
    · exact ⟨vl, vr, tl, tr, rfl, hvl1, hvr1, ⟨sl.1, by omega⟩, ⟨sr.1, by omega⟩, d3⟩
  rintro σ5 H5 ⟨vl, vr, tl, tr, rfl, hvl, hvr, sl, sr, d5⟩
  have ha5 := d5.kp _ _ ha naS naS
  refine ⟨_, rfl, rfl, _, rfl, ?_⟩
  refine ite2 (fun _ => ?_) (fun _ => ?_)
  · refine ⟨_, rfl, _, rfl, _, rfl, S, a, _, rfl, d5.so, SqL.of ha5, st_of ha5 naS, by have := g.ne; simpa using this, by have := g.le; rw [List.length_map]; omega, fun j v H6 ev d6 => ?_⟩
    obtain ⟨c, rfl, c1, c2⟩ := leaf_of g ev
    have t6 := d6.tt d5.so
    refine ⟨(by show 3 ≤ sizeLine; decide), fun p7 np7 => ?_⟩
    have s7 := same_upd (o := .tup [V.str "|", vr, .str (strC [c])]) np7
    have t7 := t6.trans (Tt.same s7)
    refine ⟨_, rfl, _, rfl, (by show 2 ≤ sizeLine; decide), fun p8 np8 => ?_⟩
    have s8 := same_upd (o := .tup [vl, V.ref p7]) np8
    refine q _ (tl, .node false [tr, .leaf c]) _ (((d5.trans d6).same s7).same s8) (Dp.mk np8 (.cons (hvl.ts t7.ts) (.cons ?_ .nil))) ⟨sl.1.mono (by decide), ⟨?_, ?_, ?_⟩⟩
    · show TmAt K _ _ (.node false [tr, .leaf c])
      unfold TmAt
      rw [tD_node, opS_or]
      exact .tup (SqT.of upd_same) (.cons (.str _) (.cons (hvr.ts t7.ts) (.cons (tm_leaf c) .nil)))
    · exact ⟨by simp, sr.1.wf, ⟨c1, c2⟩, trivial⟩
    · have := sr.2; simp only [Tm.depth, depths]; omega
    · have := sr.1.sz; simp only [Tm.size, sizes]; omega
  · refine ⟨_, rfl, _, rfl, (by show 2 ≤ sizeLine; decide), fun p8 np8 => ?_⟩
    exact q _ (tl, tr) _ (d5.same (same_upd np8)) (Dp.mk np8 (.cons hvl (.cons hvr .nil))) ⟨sl.1.mono (by decide), sr.1.mono (by decide)⟩
end
end FD
end T_G5

section T_G6
set_option Elab.async false
set_option linter.all false
set_option maxRecDepth 100000
set_option maxHeartbeats 2000000
/-! The law: scenes. -/
namespace FD
open PySem L2 FF FW
section
variable {P : Program} {w : World} {K : PySem.W.Frag} {mg : Str → Option Value} {base : Heap}
/-! ### _law_premises -/
def spPrem (K : PySem.W.Frag) : Sp := fun vs H Q _ => ∃ (S a : Addr) (cs : List Nat), vs = [.ref S, .ref a, .int 6] ∧ SrcA H S ∧ H a = some (.lst (cs.map chV)) ∧ Sg cs ∧ ∀ r us (rs : List Rl) H', Dr S S H H' → H r = none → H' r = some (.lst us) → DpAll K H' us (rs.map rlD) → (∀ r ∈ rs, RSm r) → (rs.map (·.1)).Nodup → rs.length ≤ 6 → Q (.ref r) H'
abbrev n56 : List Str := ["_law_source_here", "_law_signs_here", "_law_most", "_law_found", "_law_name", "_law_left", "_law_right"]
abbrev p56 : List Str := ["_law_source_here", "_law_signs_here", "_law_most"]
theorem sc56 : FnScope n56 p56 (defScope (topS 56)) := ⟨rfl, rfl, rfl, by decide +kernel, rfl, by decide +kernel, by decide +kernel⟩
theorem ok_prem (D : Df K mg "_law_premises" (topS 56) p56) (B : Bi mg) (FT : Fn P w K mg base 1 "_law_take" ["_law_source_here", "_law_many"] (spTake K)) (FP : Fn P w K mg base 2 "_law_pick" ["_law_source_here", "_law_row"] (spPick K))
    (FN : Fn P w K mg base 3 "_law_names" ["_law_source_here", "_law_many"] (spNames K)) (FM : Fn P w K mg base 6 "_law_term" p50 (spLTerm K 3)) : Fn P w K mg base 7 "_law_premises" p56 (spPrem K) := by
  refine D.ok sc56 (fun vs H Q E h => ?_) (fun f cdv A outer s H vs Q E hr h => ?_)
  · obtain ⟨S, a, cs, rfl, _⟩ := h
    rfl
  obtain ⟨S, a, cs, rfl, src, ha, g, q⟩ := h
  have hu := hr.units
  have hr1 : Room 1 _ := hr.mono (by decide)
  have hr2 : Room 2 _ := hr.mono (by decide)
  have hr3 : Room 3 _ := hr.mono (by decide)
  refine ⟨_, pss_cons (ps_set (i := 3) sc56.nd rfl (.inl rfl) (pe_lst pa_nil))
    (pss_cons (ps_for PassesOwn.never rfl (pi_list (pe_fn FN hr3 (by rfl) (pa_cons (pv 0) (pa_cons (pe_fn FT hr1 (by rfl) (pa_cons (pv 0) (pa_cons (pe_op op_add (pv 2) pe_int) pa_nil))) pa_nil)))) (pg_name (i := 4) sc56.nd rfl (.inl rfl))
      (pss_cons (ps_set (i := 5) sc56.nd rfl (.inl rfl) (pe_fn FM hr (by rfl) (pa_cons (pv 0) (pa_cons (pv 1) (pa_cons (pe_op op_add pe_int (pe_fn FT hr1 (by rfl) (pa_cons (pv 0) (pa_cons pe_int pa_nil)))) (pa_cons (pe_lst (pa_cons pe_int pa_nil)) pa_nil))))))
      (pss_cons (ps_set (i := 6) sc56.nd rfl (.inl rfl) (pe_fn FM hr (by rfl) (pa_cons (pv 0) (pa_cons (pv 1) (pa_cons (pe_op op_add pe_int (pe_fn FT hr1 (by rfl) (pa_cons (pv 0) (pa_cons pe_int pa_nil)))) (pa_cons (pe_lst (pa_cons pe_int pa_nil)) pa_nil))))))
      (Evl.pss_cut (ps_if (PW.pt (pw_and (pt_cmpR (op_neP hu) (pv 3) (pe_lst pa_nil) (by rfl)) (pw_and1 (pt_cmpR op_eq (pe_fn FT hr1 (by rfl) (pa_cons (pv 0) (pa_cons pe_int pa_nil))) pe_int (nomark _)))))
          (pss_one (ps_set (i := 5) sc56.nd rfl (.inl rfl) (pe_ix ix_tup (pe_fn FP hr2 (by rfl) (pa_cons (pv 0) (pa_cons (pv 3) pa_nil))) pe_int (fun _ _ => rfl)))) pss_nil)
      (pss_one (ps_expr (pe_bm PySem.F.plainAttrs_list PySem.F.slot_list_append PySem.F.type_list_append mt_append (pv 3) (pa_cons (pe_tup (pa_cons (pv 4) (pa_cons (pv 5) (pa_cons (pv 6) pa_nil)))) pa_nil))))))))
    (pss_one (ps_ret (pv 3)))), ?_⟩
  have naS := g.neS src ha
  refine ⟨(by show 0 ≤ sizeLine; decide), fun l nl => ?_⟩
  have s1 := same_upd (o := .lst []) nl
  have nlS := Dr.noS src nl
  have src1 := src.same s1
  refine ⟨_, rfl, _, rfl, _, rfl, _, _, rfl, rfl, S, 7, rfl, src1, by decide, by decide, fun k H2 k0 k7 d2 => ?_⟩
  obtain ⟨kk, rfl⟩ : ∃ kk : Nat, k = (kk : Int) := ⟨k.toNat, by omega⟩
  refine ⟨S, kk, rfl, d2.so, by omega, fun rn nms H3 d3 nrn hrn lnm okn ndn => ?_⟩
  have d03 : Dr S S H H3 := (((Dr.refl src).same s1).trans d2).trans d3
  have nrnS := Dr.noS d2.so nrn
  have hl3 := d3.kp _ _ (d2.kp _ _ (upd_same (o := HO.lst []) (H := H) (a := l)) nlS nlS) nlS nlS
  have nlrn : l ≠ rn := fun z => by
    have := d2.kp _ _ (upd_same (o := HO.lst []) (H := H) (a := l)) nlS nlS
    rw [z, nrn] at this; cases this
  refine ⟨rn, rfl, ⟨_, SqL.of hrn⟩, for_list (K := K) (a := rn) (xs := nms.map fun l => V.str (strC l)) (fun i σ H4 => ∃ (us : List V) (rs : List Rl) (x4 x5 x6 : Option V), σ = [some (.ref S), some (.ref a), some (.int 6), some (.ref l), x4, x5, x6] ∧ Dr S S H H4 ∧ H4 rn = some (.lst (nms.map fun l => V.str (strC l))) ∧ H4 l = some (.lst us) ∧ DpAll K H4 us (rs.map rlD) ∧ (∀ r ∈ rs, RSm r) ∧ rs.map (·.1) = nms.take i)
    ⟨[], [], none, none, none, rfl, d03, hrn, hl3, .nil, fun r h => by simp at h, rfl⟩ (fun i σ H4 _ ⟨_, _, _, _, _, _, _, h, _⟩ => SqL.of h) ?_ ?_⟩
  · rintro i x σ H4 hx ⟨us, rs, x4, x5, x6, rfl, d4, hrn4, hl4, hus, okr, enm⟩
    rw [List.getElem?_map] at hx
    obtain ⟨nm, enmi, rfl⟩ := Option.map_eq_some_iff.mp hx
    have hi : i < nms.length := (List.getElem?_eq_some_iff.mp enmi).1
    have lrs : rs.length = i := by
      have := congrArg List.length enm
      rw [List.length_map, List.length_take] at this; omega
    have lus : us.length = rs.length := mapD_len hus
    have ha4 := d4.kp _ _ ha naS naS
    -- left
    refine ⟨_, rfl, _, rfl, _, rfl, S, 3, rfl, d4.so, by decide, by decide, fun k1 H5 j0 j3 d5 => ⟨_, _, rfl, rfl, (by show 1 ≤ sizeLine; decide), fun R nR => ?_⟩⟩
    have d45 := d4.trans d5
    have nRS := Dr.noS d5.so nR
    have sR := same_upd (o := .lst [V.int 2]) nR
    obtain ⟨q1, eq1, hq1, hq3⟩ : ∃ kk : Nat, (1 : Int) + k1 = (kk : Int) ∧ 1 ≤ kk ∧ kk ≤ 3 := ⟨(1 + k1).toNat, by omega, by omega, by omega⟩
    have ni : NoIn H5 S R := NoIn.new d5.so nR
    have ha5 := sR _ _ (d5.kp _ _ ha4 naS naS)
    have hrn5 := sR _ _ (d5.kp _ _ hrn4 nrnS nrnS)
    have hl5 := sR _ _ (d5.kp _ _ hl4 nlS nlS)
    refine ⟨S, a, R, cs, q1, 2, ?_, d5.so.same sR, ha5, g, upd_same, by decide, nRS, fun l r e => ni l r (by rw [upd_ne nRS.symm] at e; exact e), hq1, hq3, fun v1 t1 rm1 H6 d6 hR6 ht1 wt1 dt1 sz1 => ?_⟩
    · show [V.ref S, V.ref a, V.int (1 + k1), V.ref R] = _
      rw [eq1]
    have nR4 : H4 R = none := d5.free nR nRS nRS
    have d46 : Dr S S H4 H6 := (d5.same sR).fresh d6 nR4
    have d06 := d4.trans d46
    have hrn6 := d46.kp _ _ hrn4 nrnS nrnS
    have hl6 := d46.kp _ _ hl4 nlS nlS
    have ha6 := d46.kp _ _ ha4 naS naS
    have hus6 := DpAll.ts (d46.tt d4.so).ts _ _ (flats_map flat_rlD _) hus
    have sm1 : TSm 3 t1 := ⟨wt1, by omega, by omega⟩
    clear d6 hR6 ha5 hrn5 hl5 ni sR nR nRS nR4 d45
    -- right
    refine ⟨_, rfl, _, rfl, _, rfl, S, 3, rfl, d06.so, by decide, by decide, fun k2 H7 j0' j3' d7 => ⟨_, _, rfl, rfl, (by show 1 ≤ sizeLine; decide), fun R nR => ?_⟩⟩
    have nRS := Dr.noS d7.so nR
    have sR := same_upd (o := .lst [V.int 2]) nR
    obtain ⟨q2, eq2, hq4, hq5⟩ : ∃ kk : Nat, (1 : Int) + k2 = (kk : Int) ∧ 1 ≤ kk ∧ kk ≤ 3 := ⟨(1 + k2).toNat, by omega, by omega, by omega⟩
    have ni : NoIn H7 S R := NoIn.new d7.so nR
    have ha7 := sR _ _ (d7.kp _ _ ha6 naS naS)
    refine ⟨S, a, R, cs, q2, 2, ?_, d7.so.same sR, ha7, g, upd_same, by decide, nRS, fun l r e => ni l r (by rw [upd_ne nRS.symm] at e; exact e), hq4, hq5, fun v2 t2 rm2 H8 d8 hR8 ht2 wt2 dt2 sz2 => ?_⟩
    · show [V.ref S, V.ref a, V.int (1 + k2), V.ref R] = _
      rw [eq2]
    have nR6 : H6 R = none := d7.free nR nRS nRS
    have d68 : Dr S S H6 H8 := (d7.same sR).fresh d8 nR6
    have d08 := d06.trans d68
    have hrn8 := d68.kp _ _ hrn6 nrnS nrnS
    have hl8 := d68.kp _ _ hl6 nlS nlS
    have t68 := d68.tt d06.so
    have hus8 := DpAll.ts t68.ts _ _ (flats_map flat_rlD _) hus6
    have ht18 := ht1.ts t68.ts
    have sm2 : TSm 3 t2 := ⟨wt2, by omega, by omega⟩
    clear d8 hR8 ha7 ni sR nR nRS nR6 d7
    refine ⟨fun σ' H' => ∃ (v1 : V) (t1 : Tm), σ' = [some (.ref S), some (.ref a), some (.int 6), some (.ref l), some (.str (strC nm)), some v1, some v2] ∧ TmAt K H' v1 t1 ∧ TSm 3 t1 ∧ TmAt K H' v2 t2 ∧ Dr S S H H' ∧ H' rn = some (.lst (nms.map fun l => V.str (strC l))) ∧ H' l = some (.lst us) ∧ DpAll K H' us (rs.map rlD), ?_, ?_⟩
    · refine ⟨_, rfl, (by show 0 ≤ sizeLine; decide), fun p1 np1 => ?_⟩
      have s9 := same_upd (o := .lst []) np1
      refine ⟨_, _, Dp.same s9 _ _ (.lst (SqL.of hl8) hus8), .lst (SqL.of upd_same) .nil, sh_rls (fun r hr => (okr r hr).ok), sh_nil, _, rfl, ?_⟩
      have d9 := d08.same s9
      have h1 := Dp.same s9 _ _ ht18
      have h2 := Dp.same s9 _ _ ht2
      have hrn9 := s9 _ _ hrn8
      have hl9 := s9 _ _ hl8
      have hus9 := DpAll.same s9 _ _ hus8
      generalize (upd H8 p1 (.lst [])) = H9 at d9 h1 h2 hrn9 hl9 hus9 s9
      rw [eqv_nil]
      refine ite2 (fun hne => ?_) (fun _ => ?_)
      · have une : us ≠ [] := fun z => by
          rw [z] at lus
          have : rs = [] := List.length_eq_zero_iff.mp lus.symm
          rw [this] at hne; simp at hne
        refine ⟨_, rfl, S, 3, rfl, d9.so, by decide, by decide, fun k3 H10 _ _ d10 => ⟨rfl, _, rfl, ?_⟩⟩
        have t10 := d10.tt d9.so
        have hl10 := d10.kp _ _ hl9 nlS nlS
        have hrn10 := d10.kp _ _ hrn9 nrnS nrnS
        have hus10 := DpAll.ts t10.ts _ _ (flats_map flat_rlD _) hus9
        refine ite2 (fun _ => ?_) (fun _ => ?_)
        · refine ⟨_, rfl, _, rfl, S, l, us, rfl, d10.so, SqL.of hl10, st_of hl10 nlS, une, by omega, fun j v H11 ev d11 => ?_⟩
          have t11 := d11.tt d10.so
          have hus11 := DpAll.ts t11.ts _ _ (flats_map flat_rlD _) hus10
          obtain ⟨r, er, hr'⟩ := mapD_get hus11 ev
          have okr1 := okr r (List.mem_of_getElem? er)
          obtain ⟨tq, x1, y1, rfl, ht, g1, g2⟩ := rl_inv hr'
          refine ⟨tq, _, _, _, rfl, rfl, ht, atI_nat (j := 2) rfl, ?_⟩
          exact ⟨y1, r.2.2, rfl, g2, okr1.r, TmAt.ts h2 (t10.trans t11).ts, (d9.trans d10).trans d11, d11.kp _ _ hrn10 nrnS nrnS, d11.kp _ _ hl10 nlS nlS, hus11⟩
        · exact ⟨v1, t1, rfl, TmAt.ts h1 t10.ts, sm1, TmAt.ts h2 t10.ts, d9.trans d10, hrn10, hl10, hus10⟩
      · exact ⟨v1, t1, rfl, h1, sm1, h2, d9, hrn9, hl9, hus9⟩
    rintro σ9 H9 ⟨v1, t1, rfl, h1, sm1, h2, d9, hrn9, hl9, hus9⟩
    refine ⟨_, rfl, .inl ⟨rfl, _, SqL.of hl9⟩, _, rfl, _, rfl, _, rfl, (by show 3 ≤ sizeLine; decide), fun p np => ?_⟩
    have s10 := same_upd (o := .tup [V.str (strC nm), v1, v2]) np
    have hl10 := s10 _ _ hl9
    refine ⟨l, us, _, rfl, rfl, hl10, small1000 (by omega), ?_⟩
    have t10u : Tt _ (upd (upd H9 p (.tup [V.str (strC nm), v1, v2])) l (.lst (us ++ [V.ref p]))) := Tt.upd hl10 trivial
    have d10 : Dr S S H (upd (upd H9 p (.tup [V.str (strC nm), v1, v2])) l (.lst (us ++ [V.ref p]))) := (d9.same s10).write src nl
    refine ⟨us ++ [V.ref p], rs ++ [(nm, t1, t2)], _, _, _, rfl, d10, by rw [upd_ne nlrn.symm]; exact s10 _ _ hrn9, upd_same, ?_, fun r hr' => ?_, ?_⟩
    · rw [List.map_append]
      refine DpAll.append (DpAll.ts ((Tt.same s10).trans t10u).ts _ _ (flats_map flat_rlD _) hus9) (.cons ?_ .nil)
      exact Dp.ts t10u.ts _ _ (flat_rlD _) (.tup (SqT.of upd_same) (.cons (.str _) (.cons (Dp.same s10 _ _ h1) (.cons (Dp.same s10 _ _ h2) .nil))))
    · rcases List.mem_append.mp hr' with h | h
      · exact okr r h
      · have : r = (nm, t1, t2) := by simpa using h
        subst this
        exact ⟨okn nm (List.mem_of_getElem? enmi), sm1, sm2⟩
    · rw [List.map_append, enm, take_snoc enmi]; rfl
  · rintro σ H4 ⟨us, rs, x4, x5, x6, rfl, d4, hrn4, hl4, hus, okr, enm⟩
    rw [List.length_map, List.take_length] at enm
    refine ⟨_, rfl, q l us rs H4 d4 nl hl4 hus okr (by rw [enm]; exact ndn) ?_⟩
    have := congrArg List.length enm
    rw [List.length_map] at this; omega
end
end FD
end T_G6

section T_G7
set_option Elab.async false
set_option linter.all false
set_option maxRecDepth 100000
set_option maxHeartbeats 2000000
/-! The law: scenes. -/
namespace FD
open PySem L2 FF FW
theorem walk6 {t : Tm} {n : Nat} (h : TSm n t) : t.walk.length + 1 ≤ 2 * n := by have := walk_len t h.wf; have := h.sz; omega
theorem words_more {rs : List Rl} {r : Rl} {p : Tm × Tm} (ok : ∀ q ∈ rpairs (rs ++ [r]) p, POk q) : (wordsOf (rpairs (rs ++ [r]) p)).length ≤ (wordsOf (rpairs rs p)).length + (r.2.1.walk.length + r.2.2.walk.length) := by
  have ok0 : ∀ q ∈ rpairs rs p, POk q := fun q hq => by
    refine ok q ?_
    rw [rpairs, List.map_append]
    rcases List.mem_append.mp hq with h | h
    · exact List.mem_append_left _ (List.mem_append_left _ h)
    · exact List.mem_append_right _ h
  have := vocab_le (pairTs_wf (wfp_of ok)) (us := wordsOf (rpairs rs p) ++ (r.2.1.walk ++ r.2.2.walk)) fun t ht => by
    obtain ⟨q, hq, m⟩ := mem_pairTs.mp ht
    rw [rpairs, List.map_append] at hq
    rcases List.mem_append.mp hq with h | h
    · rcases List.mem_append.mp h with h | h
      · exact List.mem_append_left _ ((mem_words (wfp_of ok0)).mpr ⟨q, List.mem_append_left _ h, m⟩)
      · have : q = r.2 := by simpa using h
        subst this
        rcases m with m | m
        · exact List.mem_append_right _ (List.mem_append_left _ m)
        · exact List.mem_append_right _ (List.mem_append_right _ m)
    · exact List.mem_append_left _ ((mem_words (wfp_of ok0)).mpr ⟨q, List.mem_append_right _ h, m⟩)
  rw [List.length_append, List.length_append] at this
  exact this
theorem words_one {p : Tm × Tm} (ok : POk p) : (wordsOf [p]).length ≤ p.1.walk.length + p.2.walk.length := by
  have ok' : ∀ q ∈ [p], POk q := fun q hq => (List.mem_singleton.mp hq ▸ ok)
  have := vocab_le (pairTs_wf (wfp_of ok')) (us := p.1.walk ++ p.2.walk) fun t ht => by
    obtain ⟨q, hq, m⟩ := mem_pairTs.mp ht
    have : q = p := by simpa using hq
    subst this
    exact List.mem_append.mpr m
  rw [List.length_append] at this
  exact this
section
variable {P : Program} {w : World} {K : PySem.W.Frag} {mg : Str → Option Value} {base : Heap}
/-! ### _law_kept_few -/
def spKept (K : PySem.W.Frag) : Sp := fun vs H Q _ => ∃ (b : Addr) (z : V) (us : List V) (rs : List Rl) (p : Tm × Tm) (most : Nat), vs = [.ref b, z, .int most] ∧ SqL K H b us ∧ DpAll K H us (rs.map rlD) ∧ (∀ r ∈ rs, RSm r) ∧ (rs.map (·.1)).Nodup ∧ rs.length ≤ 6 ∧ Dp K H z (prD2 p) ∧ PSm p ∧ (wordsOf [p]).length ≤ most ∧ most ≤ 18 ∧
  ∀ r us' rs' H', Same H H' → H r = none → H' r = some (.lst us') → DpAll K H' us' (rs'.map rlD) → SOk rs' p → rs'.length ≤ 6 → Q (.ref r) H'
abbrev n53 : List Str := ["_law_premises_here", "_law_aim", "_law_most", "_law_found", "_law_one"]
abbrev p53 : List Str := ["_law_premises_here", "_law_aim", "_law_most"]
theorem sc53 : FnScope n53 p53 (defScope (topS 53)) := ⟨rfl, rfl, rfl, by decide +kernel, rfl, by decide +kernel, by decide +kernel⟩
theorem ok_kept (D : Df K mg "_law_kept_few" (topS 53) p53) (B : Bi mg) (FW_ : Fn P w K mg base 8 "_law_words" ["_law_pairs_here"] (spLWords K)) (FP : Fn P w K mg base 1 "_law_pairs" ["_law_premises_here", "_law_aim"] (spPairsIn K)) : Fn P w K mg base 9 "_law_kept_few" p53 (spKept K) := by
  refine D.ok sc53 (fun vs H Q E h => ?_) (fun f cdv A outer s H vs Q E hr h => ?_)
  · obtain ⟨b, z, us, rs, p, most, rfl, _⟩ := h
    rfl
  obtain ⟨b, z, us, rs, p, most, rfl, hS, ha, ok, nd, hl, hz, sm, hw, hm, q⟩ := h
  have hr1 : Room 1 _ := hr.mono (by decide)
  refine ⟨_, pss_cons (ps_set (i := 3) sc53.nd rfl (.inl rfl) (pe_lst pa_nil))
    (pss_cons (ps_for PassesOwn.never rfl (pi_list (pv 0)) (pg_name (i := 4) sc53.nd rfl (.inl rfl))
      (pss_one (ps_if (pt_cmpR op_le (pe_callB call_len (by rfl) B.len b_len (pa_cons (pe_fn FW_ hr (by rfl) (pa_cons (pe_fn FP hr1 (by rfl) (pa_cons (pe_op op_cat (pv 3) (pe_lst (pa_cons (pv 4) pa_nil))) (pa_cons (pv 1) pa_nil))) pa_nil)) pa_nil)) (pv 2) (nomark _))
        (pss_one (ps_expr (pe_bm PySem.F.plainAttrs_list PySem.F.slot_list_append PySem.F.type_list_append mt_append (pv 3) (pa_cons (pv 4) pa_nil)))) pss_nil)))
    (pss_one (ps_ret (pv 3)))), ?_⟩
  have hul : us.length = rs.length := mapD_len ha
  refine ⟨(by show 0 ≤ sizeLine; decide), fun l nl => ?_⟩
  have s1 := same_upd (o := .lst []) nl
  have sok : ∀ rs' : List Rl, rs'.Sublist rs → (wordsOf (rpairs rs' p)).length ≤ 18 → SOk rs' p := fun rs' sb hw' =>
    ⟨fun r hr => (ok r (sb.subset hr)).ok, (sb.map _).nodup nd, Nat.le_trans sb.length_le (by omega), sm.ok, Nat.le_trans hw' (by decide)⟩
  refine ⟨_, rfl, b, rfl, ⟨_, s1.seq hS⟩, for_list (K := K) (a := b) (xs := us) (fun i σ H2 => ∃ (vs : List V) (rs' : List Rl) (x4 : Option V), σ = [some (.ref b), some z, some (.int most), some (.ref l), x4] ∧ Same H H2 ∧ H2 l = some (.lst vs) ∧ DpAll K H2 vs (rs'.map rlD) ∧ rs'.Sublist (rs.take i) ∧ (wordsOf (rpairs rs' p)).length ≤ most)
    ⟨[], [], none, rfl, s1, upd_same, .nil, List.nil_sublist _, hw⟩ (fun i σ H2 _ ⟨_, _, _, _, s2, _⟩ => s2.seq hS) ?_ ?_⟩
  · rintro i x σ H2 hx ⟨vs, rs', x4, rfl, s2, hl2, hvs, sb, hw2⟩
    obtain ⟨r, er, hr'⟩ := mapD_get (DpAll.same s2 _ _ ha) hx
    have mr : r ∈ rs := List.mem_of_getElem? er
    have okr := ok r mr
    have sb0 : rs'.Sublist rs := sb.trans (List.take_sublist _ _)
    have sb1 : (rs' ++ [r]).Sublist (rs.take (i + 1)) := by rw [take_snoc er]; exact sb.append (List.Sublist.refl _)
    have lrs : rs'.length ≤ 6 := Nat.le_trans sb0.length_le hl
    have lvs : vs.length = rs'.length := mapD_len hvs
    refine ⟨_, rfl, _, rfl, (by show 1 ≤ sizeLine; decide), fun p3 np3 => ?_⟩
    have s3 := same_upd (o := .lst [x]) np3
    refine ⟨l, p3, vs, [x], rfl, rfl, s3 _ _ hl2, upd_same, small (by simp only [List.length_cons, List.length_nil]; omega), fun p4 np4 => ?_⟩
    have s4 := s3.trans (same_upd (o := .lst (vs ++ [x])) np4)
    have h4 : DpAll K (upd (upd H2 p3 (.lst [x])) p4 (.lst (vs ++ [x]))) (vs ++ [x]) ((rs' ++ [r]).map rlD) := by
      rw [List.map_append]
      exact DpAll.append (DpAll.same s4 _ _ hvs) (.cons (Dp.same s4 _ _ hr') .nil)
    have ok4 : ∀ q ∈ rpairs (rs' ++ [r]) p, POk q := fun q hq => by
      rcases List.mem_append.mp hq with h | h
      · obtain ⟨r', hr', rfl⟩ := List.mem_map.mp h
        rcases List.mem_append.mp hr' with h | h
        · exact (ok r' (sb0.subset h)).ok.pr
        · have : r' = r := by simpa using h
          subst this; exact okr.ok.pr
      · have : q = p := by simpa using h
        subst this; exact sm.ok
    have wm := words_more ok4
    have w1 := walk6 okr.l
    have w2 := walk6 okr.r
    refine ⟨_, rfl, p4, z, vs ++ [x], rs' ++ [r], p, rfl, SqL.of upd_same, h4, Dp.same (s2.trans s4) _ _ hz, by rw [List.length_append]; simp only [List.length_cons, List.length_nil]; omega, fun r5 w5 H5 s5 nr5 hr5 ha5 => ?_⟩
    refine ⟨r5, w5, rpairs (rs' ++ [r]) p, rfl, SqL.of hr5, ha5, ok4, ?_, by omega, fun r6 w6 H6 s6 nr6 hr6 ha6 => ?_⟩
    · rw [rpairs, List.length_append, List.length_map, List.length_append]; simp only [List.length_cons, List.length_nil]; omega
    have l6 : w6.length = (wordsOf (rpairs (rs' ++ [r]) p)).length := mapD_len ha6
    have s26 := (s4.trans s5).trans s6
    refine ⟨_, w6.length, rfl, .inl ⟨_, SqL.of hr6, rfl⟩, _, rfl, _, _, rfl, rfl, _, rfl, ?_⟩
    refine ite2 (fun hle => ?_) (fun _ => ?_)
    · have hle' : ((w6.length : Nat) : Int) ≤ (most : Nat) := of_decide_eq_true hle
      have hl6 := s26 _ _ hl2
      have t6 : FW.TS H6 (upd H6 l (.lst (vs ++ [x]))) := TS.upd hl6 trivial
      refine ⟨_, rfl, .inl ⟨rfl, _, SqL.of hl6⟩, _, rfl, l, vs, _, rfl, rfl, hl6, small1000 (by omega), ?_⟩
      refine ⟨vs ++ [x], rs' ++ [r], _, rfl, fun b o hb => ?_, upd_same, ?_, sb1, by omega⟩
      · rw [upd_ne (ne_of_none hb nl)]
        exact s26 _ _ (s2 _ _ hb)
      · exact DpAll.ts t6 _ _ (flats_map flat_rlD _) (DpAll.same (s5.trans s6) _ _ h4)
    · exact ⟨vs, rs', _, rfl, s2.trans s26, s26 _ _ hl2, DpAll.same s26 _ _ hvs, sb.trans (by rw [take_snoc er]; exact List.sublist_append_left _ _), hw2⟩
  · rintro σ H2 ⟨vs, rs', x4, rfl, s2, hl2, hvs, sb, hw2⟩
    have sb0 : rs'.Sublist rs := sb.trans (List.take_sublist _ _)
    exact ⟨_, rfl, q l vs rs' H2 s2 nl hl2 hvs (sok rs' sb0 (by omega)) (Nat.le_trans sb0.length_le hl)⟩
/-! ### _law_scene -/
def spScene (K : PySem.W.Frag) : Sp := fun vs H Q _ => ∃ (S : Addr) (wn : Nat), vs = [.ref S, .int 6, .int wn] ∧ SrcA H S ∧ 10 ≤ wn ∧ wn ≤ 18 ∧ ∀ t b z us rs p H', Dr S S H H' → H' t = some (.tup [.ref b, z]) → H' b = some (.lst us) → b ≠ S → DpAll K H' us (rs.map rlD) → Dp K H' z (prD2 p) → SOk rs p → rs.length ≤ 6 → Q (.ref t) H'
abbrev n57 : List Str := ["_law_source_here", "_law_most", "_law_words_here", "_law_signs_here", "_law_premises_here", "_law_aim"]
abbrev p57 : List Str := ["_law_source_here", "_law_most", "_law_words_here"]
theorem sc57 : FnScope n57 p57 (defScope (topS 57)) := ⟨rfl, rfl, rfl, by decide +kernel, rfl, by decide +kernel, by decide +kernel⟩
theorem abcd : (["a", "b", "c", "d"] : List Str) = ([97, 98, 99, 100] : List Nat).map fun c => strC [c] := by decide +kernel
theorem ok_scene (D : Df K mg "_law_scene" (topS 57) p57) (B : Bi mg) (FS : Fn P w K mg base 3 "_law_signs" ["_law_source_here", "_law_most"] (spSigns K)) (FP : Fn P w K mg base 7 "_law_premises" p56 (spPrem K)) (FG : Fn P w K mg base 7 "_law_goal" p55 (spLGoal K))
    (FW_ : Fn P w K mg base 8 "_law_words" ["_law_pairs_here"] (spLWords K)) (FK : Fn P w K mg base 9 "_law_kept_few" p53 (spKept K)) : Fn P w K mg base 10 "_law_scene" p57 (spScene K) := by
  refine D.ok sc57 (fun vs H Q E h => ?_) (fun f cdv A outer s H vs Q E hr h => ?_)
  · obtain ⟨S, wn, rfl, _⟩ := h
    rfl
  obtain ⟨S, wn, rfl, src, h10, h18, q⟩ := h
  have hr3 : Room 3 _ := hr.mono (by decide)
  have hr7 : Room 7 _ := hr.mono (by decide)
  have hr8 : Room 8 _ := hr.mono (by decide)
  refine ⟨_, pss_cons (ps_set (i := 3) sc57.nd rfl (.inl rfl) (pe_fn FS hr3 (by rfl) (pa_cons (pv 0) (pa_cons pe_int pa_nil))))
    (Evl.pss_cut (ps_if (pt_cmpR op_eq (pe_callB call_len (by rfl) B.len b_len (pa_cons (pv 3) pa_nil)) pe_int (nomark _)) (pss_one (ps_set (i := 3) sc57.nd rfl (.inl rfl) (pe_lst (pa_cons pe_str (pa_cons pe_str (pa_cons pe_str (pa_cons pe_str pa_nil))))))) pss_nil)
    (pss_cons (ps_set (i := 4) sc57.nd rfl (.inl rfl) (pe_fn FP hr7 (by rfl) (pa_cons (pv 0) (pa_cons (pv 3) (pa_cons (pv 1) pa_nil)))))
    (pss_cons (ps_set (i := 5) sc57.nd rfl (.inl rfl) (pe_fn FG hr7 (by rfl) (pa_cons (pv 0) (pa_cons (pv 3) (pa_cons (pv 4) pa_nil)))))
    (Evl.pss_cut (ps_if (pt_cmpR op_gt (pe_callB call_len (by rfl) B.len b_len (pa_cons (pe_fn FW_ hr8 (by rfl) (pa_cons (pe_lst (pa_cons (pv 5) pa_nil)) pa_nil)) pa_nil)) (pv 2) (nomark _))
        (pss_one (ps_set (i := 5) sc57.nd rfl (.inl rfl) (pe_tup (pa_cons (pe_ix ix_list (pv 3) pe_int (fun _ _ => rfl)) (pa_cons (pe_tup (pa_cons pe_str (pa_cons (pe_ix ix_list (pv 3) pe_int (fun _ _ => rfl)) (pa_cons (pe_ix ix_list (pv 3) (pe_un un_neg pe_int) (fun _ _ => rfl)) pa_nil)))) pa_nil))))) pss_nil)
    (pss_one (ps_ret (pe_tup (pa_cons (pe_fn FK hr (by rfl) (pa_cons (pv 4) (pa_cons (pv 5) (pa_cons (pv 2) pa_nil)))) (pa_cons (pv 5) pa_nil))))))))), ?_⟩
  refine ⟨_, rfl, S, rfl, src, fun a0 cs0 H1 d1 na0 ha0 g0 => ?_⟩
  refine ⟨fun σ' H' => ∃ (a : Addr) (cs : List Nat), σ' = [some (.ref S), some (.int 6), some (.int wn), some (.ref a), none, none] ∧ Dr S S H H' ∧ H' a = some (.lst (cs.map chV)) ∧ Sg cs ∧ 2 ≤ cs.length, ?_, ?_⟩
  · refine ⟨_, rfl, _, (cs0.map chV).length, rfl, .inl ⟨_, SqL.of ha0, rfl⟩, rfl, _, rfl, ?_⟩
    refine ite2 (fun _ => ?_) (fun hn => ?_)
    · refine ⟨(by show 4 ≤ sizeLine; decide), fun a na => ?_⟩
      refine ⟨a, [97, 98, 99, 100], rfl, d1.same (same_upd na), ?_, ⟨by simp, by simp, fun c hc => ?_⟩, by simp⟩
      · rw [upd_same]
        have e := congrArg (List.map V.str) abcd
        simp only [List.map_cons, List.map_nil] at e
        simp only [List.map_cons, List.map_nil, chV]
        rw [e]
      · simp only [List.mem_cons, List.not_mem_nil, or_false] at hc
        omega
    · refine ⟨a0, cs0, rfl, d1, ha0, g0, ?_⟩
      have h1 : ¬ V.int ((cs0.map chV).length : Nat) = V.int 1 := fun z => hn (decide_eq_true z)
      rw [List.length_map] at h1
      have h0 := List.length_pos_iff.mpr g0.ne
      have : cs0.length ≠ 1 := fun z => h1 (by rw [z]; rfl)
      omega
  clear d1 na0 ha0 g0
  rintro σ1 H1 ⟨a, cs, rfl, d1, ha, g, h2c⟩
  have naS := g.neS d1.so ha
  refine ⟨_, rfl, _, rfl, _, rfl, S, a, cs, rfl, d1.so, ha, g, fun b us rs H2 d2 nb hb hus okr ndr hlr => ?_⟩
  have nbS := Dr.noS d1.so nb
  have ha2 := d2.kp _ _ ha naS naS
  refine ⟨_, rfl, _, rfl, _, rfl, S, a, b, cs, us, rs, rfl, d2.so, ha2, g, hb, nbS, hus, okr, hlr, fun z p H3 d3 hz sm => ?_⟩
  have t3 := d3.tt d2.so
  have d03 := (d1.trans d2).trans d3
  have hb3 := d3.kp _ _ hb nbS nbS
  have ha3 := d3.kp _ _ ha2 naS naS
  have hus3 := DpAll.ts t3.ts _ _ (flats_map flat_rlD _) hus
  refine ⟨fun σ' H' => ∃ (z : V) (p : Tm × Tm), σ' = [some (.ref S), some (.int 6), some (.int wn), some (.ref a), some (.ref b), some z] ∧ Same H3 H' ∧ Dp K H' z (prD2 p) ∧ PSm p ∧ (wordsOf [p]).length ≤ wn, ?_, ?_⟩
  · refine ⟨_, rfl, (by show 1 ≤ sizeLine; decide), fun p4 np4 => ?_⟩
    have s4 := same_upd (o := .lst [z]) np4
    have wk1 := walk6 sm.l
    have wk2 := walk6 sm.r
    have wo := words_one sm.ok
    refine ⟨p4, [z], [p], rfl, SqL.of upd_same, .cons (Dp.same s4 _ _ hz) .nil, fun q hq => (List.mem_singleton.mp hq ▸ sm.ok), by simp, by omega, fun r5 w5 H5 s5 nr5 hr5 ha5 => ?_⟩
    have l5 : w5.length = (wordsOf [p]).length := mapD_len ha5
    have s45 := s4.trans s5
    refine ⟨_, w5.length, rfl, .inl ⟨_, SqL.of hr5, rfl⟩, _, rfl, _, _, rfl, rfl, _, rfl, ?_⟩
    refine ite2 (fun _ => ?_) (fun hle => ?_)
    · obtain ⟨c0, c1, rest, rfl⟩ : ∃ c0 c1 rest, cs = c0 :: c1 :: rest := by
        match cs, h2c with
        | c0 :: c1 :: rest, _ => exact ⟨c0, c1, rest, rfl⟩
      obtain ⟨ini, cl, el⟩ : ∃ ini cl, (c0 :: c1 :: rest) = ini ++ [cl] := ⟨_, _, (List.dropLast_concat_getLast (by simp)).symm⟩
      have ha5' := s45 _ _ ha3
      have hla : H5 a = some (.lst (ini.map chV ++ [chV cl])) := by rw [ha5', el, List.map_append]; rfl
      have g0 := g.az c0 (by simp)
      have g1 := g.az c1 (by simp)
      have gl := g.az cl (by rw [el]; simp)
      refine ⟨_, rfl, a, _, _, _, rfl, rfl, SqL.of ha5', atI_nat (j := 0) rfl, _, rfl, a, _, _, _, rfl, rfl, SqL.of ha5', atI_nat (j := 1) rfl, _, rfl, _, rfl, a, _, _, _, rfl, rfl, SqL.of hla, atI_last _ _, (by show 3 ≤ sizeLine; decide), fun p6 np6 => ⟨(by show 2 ≤ sizeLine; decide), fun p7 np7 => ?_⟩⟩
      have s6 := same_upd (o := .tup [V.str "|", chV c1, chV cl]) np6
      have s7 := same_upd (o := .tup [chV c0, V.ref p6]) np7
      have smN : PSm (.leaf c0, .node false [.leaf c1, .leaf cl]) := ⟨⟨g0, by simp [Tm.depth], by simp [Tm.size]⟩, ⟨⟨by simp, g1, gl, trivial⟩, by simp [Tm.depth, depths], by simp [Tm.size, sizes]⟩⟩
      refine ⟨_, (.leaf c0, .node false [.leaf c1, .leaf cl]), rfl, (s45.trans s6).trans s7, Dp.mk np7 (.cons (tm_leaf c0) (.cons ?_ .nil)), smN, ?_⟩
      · show TmAt K _ _ (.node false [.leaf c1, .leaf cl])
        unfold TmAt
        rw [tD_node, opS_or]
        exact .tup (SqT.of upd_same) (.cons (.str _) (.cons (tm_leaf c1) (.cons (tm_leaf cl) .nil)))
      · have := words_one smN.ok
        have e : ((Tm.leaf c0).walk.length + (Tm.node false [Tm.leaf c1, Tm.leaf cl]).walk.length) = 4 := by simp [Tm.walk, walks]
        simp only at this
        omega
    · have hle' : ¬ ((w5.length : Nat) : Int) > (wn : Nat) := fun z => hle (decide_eq_true z)
      exact ⟨z, p, rfl, s45, Dp.same s45 _ _ hz, sm, by omega⟩
  clear hz sm
  rintro σ5 H5 ⟨z, p, rfl, s5, hz, sm, hwd⟩
  refine ⟨_, rfl, _, rfl, _, rfl, b, z, us, rs, p, wn, rfl, SqL.of (s5 _ _ hb3), DpAll.same s5 _ _ hus3, okr, ndr, hlr, hz, sm, hwd, h18, fun r us' rs' H6 s6 nr6 hr6 ha6 sok hl6 => ?_⟩
  refine ⟨_, rfl, (by show 2 ≤ sizeLine; decide), fun t nt => ?_⟩
  have s7 := same_upd (o := .tup [V.ref r, z]) nt
  have d07 := (d03.same s5).same (s6.trans s7)
  refine q t r z us' rs' p _ d07 upd_same (s7 _ _ hr6) (Dr.noS (d03.same s5).so nr6) (DpAll.same s7 _ _ ha6) (Dp.same (s6.trans s7) _ _ hz) sok hl6
end
end FD
end T_G7

section T_L1
set_option Elab.async false
set_option linter.all false
set_option maxRecDepth 100000
set_option maxHeartbeats 4000000
/-! The law. -/
namespace FD
open PySem L2 FF FW
def gK0 {α : Type} : List α → List α → List α
  | [], [g, r] => [r, g]
  | _, _ => []
def gK1 {α : Type} : List α → List α → List α
  | [r], [g] => [r, g]
  | _, _ => []
theorem relK0 {vs : List V} {us : List Value} {zs : List V} {ws : List Value} (a : Vals vs us) (b : Vals zs ws) : Vals (gK0 vs zs) (gK0 us ws) := by
  cases a with
  | nil =>
    cases b with
    | nil => exact .nil
    | cons h b =>
      cases b with
      | nil => exact .nil
      | cons h2 b =>
        cases b with
        | nil => exact .cons h2 (.cons h .nil)
        | cons h3 b => exact .nil
  | cons h a => exact .nil
theorem relK1 {vs : List V} {us : List Value} {zs : List V} {ws : List Value} (a : Vals vs us) (b : Vals zs ws) : Vals (gK1 vs zs) (gK1 us ws) := by
  cases a with
  | nil => exact .nil
  | cons h a =>
    cases a with
    | cons h2 a => exact .nil
    | nil =>
      cases b with
      | nil => exact .nil
      | cons h3 b =>
        cases b with
        | nil => exact .cons h (.cons h3 .nil)
        | cons h4 b => exact .nil
section
variable {K : PySem.W.Frag} {f : Addr} {fd : FuncData}
theorem kb0 (F : Fun K "derive" "derive" (topS 36) f fd) : KBinds K fd ["rules", "goal"] ["goal", "rules"] gK0 gK0 := by
  obtain ⟨oc, od, kV, doc, pm, an, cdv, ct, osl, rfl, lk, hcd⟩ := F.ex
  exact ⟨fun s us ws _ hl => match us, ws, hl with
    | [], [a, b], _ => .of_eq rfl, relK0⟩
theorem kb1 (F : Fun K "table_of" "table_of" (topS 38) f fd) : KBinds K fd ["rules", "goal"] ["goal"] gK1 gK1 := by
  obtain ⟨oc, od, kV, doc, pm, an, cdv, ct, osl, rfl, lk, hcd⟩ := F.ex
  exact ⟨fun s us ws _ hl => match us, ws, hl with
    | [a], [b], _ => .of_eq rfl, relK1⟩
end
theorem sh_tDs {ts : List Tm} (ok : ∀ t ∈ ts, TOk t) : Sh (.list (tDs ts)) := by
  refine sh_list (flats_tDs _) (Nat.le_trans (depthAll_le (n := 10) fun d hd => ?_) (by decide))
  obtain ⟨u, hu', rfl⟩ := List.mem_map.mp hd
  have b1 := tD_depth u
  have b2 := (ok u hu').dp
  omega
theorem eqv_list {ds : List PyData} (f : flats ds = true) : PyData.eqv (.list ds) (.list ds) = true := by
  simp only [PyData.eqv]; exact eqvs_self ds f
theorem sh_prs {T : List (Tm × Tm)} (ok : ∀ p ∈ T, POk p) : Sh (.list (T.map prD2)) := by
  refine sh_list (flats_map flat_prD2 T) (Nat.le_trans (depthAll_le (n := 20) fun d hd => ?_) (by decide))
  obtain ⟨p, hp, rfl⟩ := List.mem_map.mp hd
  have b1 := tD_depth p.1
  have b2 := tD_depth p.2
  have b3 := (ok p hp).l.dp
  have b4 := (ok p hp).r.dp
  simp only [prD2, PyData.depth, PyData.depthAll]
  omega
section
variable {rs : List Rl} {p : Tm × Tm}
theorem SOk.tok (h : SOk rs p) : ∀ t ∈ vocS rs p, TOk t := fun t ht => pairTs_ok h.pairs ((h.voc.mem t).mp ht)
theorem SOk.steps (h : SOk rs p) : SOkT (stepsM (vocS rs p) (cloS rs p) (goalPr rs p)) ∧ (∀ (k : Nat) x, (stepsM (vocS rs p) (cloS rs p) (goalPr rs p))[k]? = some x → StpOk rs (stepsM (vocS rs p) (cloS rs p) (goalPr rs p)) k x) ∧ (∀ x ∈ stepsM (vocS rs p) (cloS rs p) (goalPr rs p), x.l ∈ vocS rs p ∧ x.r ∈ vocS rs p) ∧ (stepsM (vocS rs p) (cloS rs p) (goalPr rs p)).length ≤ 1000 := by
  have G := h.closed.good
  have O := h.wok.ws
  have a : ∀ x ∈ stepsM (vocS rs p) (cloS rs p) (goalPr rs p), x.l ∈ vocS rs p ∧ x.r ∈ vocS rs p := fun x hx => by
    obtain ⟨k, hk⟩ := List.mem_iff_getElem?.mp hx
    exact (steps_ok O G hk).2
  refine ⟨fun x hx => ⟨h.tok _ (a x hx).1, h.tok _ (a x hx).2⟩, fun k x e => (steps_ok O G e).1, a, ?_⟩
  unfold stepsM
  rw [List.length_map]
  exact Nat.le_trans (List.length_filter_le _ _) (h.wok.len G)
def tabT (V_ : List Tm) (ps : List Pr) : List (Tm × Tm) := ps.map fun q => (atW V_ q.1, atW V_ q.2)
theorem SOk.table (h : SOk rs p) (hout : goalPr rs p ∉ keys (cloS rs p)) {ps : List Pr} (sk : SrtK (cloS rs p) ps) :
    (tabT (vocS rs p) ps).Nodup ∧ (tabT (vocS rs p) ps).length ≤ 600 ∧ (∀ q ∈ tabT (vocS rs p) ps, POk q) ∧ p ∉ tabT (vocS rs p) ps ∧ wordsOf (tabT (vocS rs p) ps) = wordsOf (rpairs rs p) ∧ TabOk rs (wordsOf (tabT (vocS rs p) ps)) (fun a b => (a, b) ∈ tabT (vocS rs p) ps) := by
  have C := h.closed
  have G := C.good
  have O := h.wok.ws
  have mem : ∀ a b, (a, b) ∈ tabT (vocS rs p) ps ↔ RelC (vocS rs p) (cloS rs p) a b := fun a b => mem_table O G sk.perm
  have okT : ∀ q ∈ tabT (vocS rs p) ps, POk q := fun q hq => by
    have r := (mem q.1 q.2).mp hq
    exact ⟨h.tok _ r.1, h.tok _ r.2.1⟩
  have tab := table_ok O C
  have clos : ∀ u ∈ vocS rs p, ∀ t ∈ u.walk, t ∈ vocS rs p := fun u hu t ht => by
    obtain ⟨q, hq, m⟩ := mem_pairTs.mp ((h.voc.mem u).mp hu)
    refine (h.voc.mem t).mpr (mem_pairTs.mpr ⟨q, hq, ?_⟩)
    rcases m with m | m
    · exact .inl (walk_trans _ _ _ m ht)
    · exact .inr (walk_trans _ _ _ m ht)
  have eW : wordsOf (tabT (vocS rs p) ps) = wordsOf (rpairs rs p) := by
    refine voc_unique (words_is (wfp_of okT)) h.voc fun t => ⟨fun ht => ?_, fun ht => ?_⟩
    · obtain ⟨q, hq, m⟩ := mem_pairTs.mp ht
      have r := (mem q.1 q.2).mp hq
      refine (h.voc.mem t).mp ?_
      rcases m with m | m
      · exact clos _ r.1 t m
      · exact clos _ r.2.1 t m
    · have htV := (h.voc.mem t).mpr ht
      exact mem_pairTs.mpr ⟨(t, t), (mem t t).mpr (tab.refl t htV), .inl (self_walk t)⟩
  refine ⟨table_nodup O G sk.perm, ?_, okT, fun hp => ?_, eW, ?_⟩
  · unfold tabT
    rw [List.length_map, sk.perm.length_eq, keys_len]
    have := G.len
    have n : (wdOf (vocS rs p) rs).n = (vocS rs p).length := rfl
    have le := h.wok.le
    have : (wdOf (vocS rs p) rs).n * (wdOf (vocS rs p) rs).n ≤ 24 * 24 := Nat.mul_le_mul (by omega) (by omega)
    omega
  · exact hout ((mem p.1 p.2).mp hp).2.2
  · rw [eW]
    have e : (fun a b => (a, b) ∈ tabT (vocS rs p) ps) = RelC (vocS rs p) (cloS rs p) := funext fun a => funext fun b => propext (mem a b)
    rw [e]
    exact tab
end
/-- the derivation's data, the table's data -/
noncomputable def derD (rs : List Rl) (p : Tm × Tm) : PyData := .list ((stepsM (vocS rs p) (cloS rs p) (goalPr rs p)).map stpD)
section
variable {P : Program} {w : World} {K : PySem.W.Frag} {mg : Str → Option Value} {base : Heap}
def spLaw (K : PySem.W.Frag) : Sp := fun vs H Q _ => ∃ (a : Addr) (ns : List Int), vs = [.ref a] ∧ SqL K H a (ns.map V.int) ∧ ns.length ≤ 63 ∧ ∀ H', Q (.bl true) H'
abbrev n65 : List Str := ["_law_script", "_law_source_here", "_law_turn", "_law_premises_here", "_law_aim", "_law_handed", "_law_steps", "_law_table", "_law_words_here", "_law_left", "_law_right", "_law_reason"]
theorem sc65 : FnScope n65 ["_law_script"] (defScope (topS 65)) := ⟨rfl, rfl, rfl, by decide +kernel, rfl, by decide +kernel, by decide +kernel⟩
theorem ok_law {f : Addr} {fd : FuncData} (D : Fun K "law" "law" (topS 65) f fd) (B : Bi mg) (FSo : Fn P w K mg base 1 "_law_source" ["_law_script"] (spSource K)) (FT : Fn P w K mg base 1 "_law_take" ["_law_source_here", "_law_many"] (spTake K)) (FSc : Fn P w K mg base 10 "_law_scene" p57 (spScene K))
    (FD_ : FnS P w K mg base 13 "derive" (topS 36) ["rules", "goal"] (spDerive K)) (FTa : FnS P w K mg base 13 "table_of" (topS 38) ["rules", "goal"] (spTable K)) (FW_ : Fn P w K mg base 8 "_law_words" ["_law_pairs_here"] (spLWords K)) (FP : Fn P w K mg base 1 "_law_pairs" ["_law_premises_here", "_law_aim"] (spPairsIn K))
    (FSt : Fn P w K mg base 7 "_law_steps_right" ["_law_premises_here", "_law_aim", "_law_steps"] (spStepsR K)) (FTr : Fn P w K mg base 9 "_law_table_right" ["_law_premises_here", "_law_aim", "_law_table"] (spTableR K)) : FnOk P w K mg base CX0 14 f fd ["_law_script"] (spLaw K) := by
  have FD1 := FD_.fn
  have FT1 := FTa.fn
  obtain ⟨fdv, fdd, GD, HD, bD, mD⟩ := FD_
  obtain ⟨ftv, ftd, GT, HT, bT, mT⟩ := FTa
  refine D.ok sc65 (fun vs H Q E h => ?_) (fun cdv A outer s H vs Q E hr h => ?_)
  · obtain ⟨a, ns, rfl, _⟩ := h
    rfl
  obtain ⟨a, ns, rfl, hS, hns, q⟩ := h
  have hu := hr.units
  have hr1 : Room 1 _ := hr.mono (by decide)
  have hr7 : Room 7 _ := hr.mono (by decide)
  have hr8 : Room 8 _ := hr.mono (by decide)
  have hr9 : Room 9 _ := hr.mono (by decide)
  have hr10 : Room 10 _ := hr.mono (by decide)
  refine ⟨_, pss_cons (ps_set (i := 1) sc65.nd rfl (.inl rfl) (pe_fn FSo hr1 (by rfl) (pa_cons (pv 0) pa_nil)))
    (pss_cons (ps_for PassesOwn.never rfl (pi_range1 (by rfl) B.range (pa_cons pe_int pa_nil)) (pg_name (i := 2) sc65.nd rfl (.inl rfl))
      (pss_cons (ps_asg (pe_fn FSc hr10 (by rfl) (pa_cons (pv 1) (pa_cons pe_int (pa_cons (pe_ix ix_list (pe_lst (pa_cons pe_int (pa_cons pe_int (pa_cons pe_int pa_nil)))) (pe_fn FT hr1 (by rfl) (pa_cons (pv 1) (pa_cons pe_int pa_nil))) (fun _ _ => rfl)) pa_nil)))) (pg_tup rfl (pgs_cons (pg_name (i := 3) sc65.nd rfl (.inl rfl)) (pgs_cons (pg_name (i := 4) sc65.nd rfl (.inl rfl)) pgs_nil))))
      (pss_cons (ps_set (i := 5) sc65.nd rfl (.inl rfl) (pe_callTy call_list_of (by rfl) B.lst b_lst (pa_cons (pv 3) pa_nil)))
      (pss_cons (ps_par (i := 6) (j := 7) (by rfl) sc65.nd rfl rfl (by decide) rfl rfl (pa_cons (pe_fn FD1 hr (by rfl) (pa_cons (pv 5) (pa_cons (pv 4) pa_nil))) (pa_cons (pe_fn FT1 hr (by rfl) (pa_cons (pv 5) (pa_cons (pv 4) pa_nil))) pa_nil)) rfl)
      (pss_cons (ps_if (PW.pt (pw_or (pt_cmpR op_eq (pe_cmpR op_isN (pv 6) pe_non (nomark _)) (pe_cmpR op_isN (pv 7) pe_non (nomark _)) (nomark _)) (pw_or1 (pt_cmpR (op_neP hu) (pv 5) (pv 3) (by rfl))))) (pss_one (ps_ret pe_bl)) pss_nil)
      (pss_cons (ps_set (i := 8) sc65.nd rfl (.inr rfl) (pe_fn FW_ hr8 (by rfl) (pa_cons (pe_fn FP hr1 (by rfl) (pa_cons (pv 3) (pa_cons (pv 4) pa_nil))) pa_nil)))
      (Evl.pss_cut (ps_if (pt_cmpR op_notN (pv 6) pe_non (nomark _))
          (pss_cons (ps_if (pt_not (pt_val (pe_fn FSt hr7 (by rfl) (pa_cons (pv 3) (pa_cons (pv 4) (pa_cons (pv 6) pa_nil)))))) (pss_one (ps_ret pe_bl)) pss_nil)
          (pss_one (ps_if (pt_not (pt_val (pe_callB (cr_all rfl) (by rfl) B.all b_all (pa_cons (pe_lc (own := [("_law_left", 9), ("_law_right", 10), ("_law_reason", 11)]) (tt := tYes) (by rfl) sc65.nd (pi_list (pv 6)) (blkOk_by (own := [("_law_left", 9), ("_law_right", 10), ("_law_reason", 11)]) (N := n65) (sc := defScope (topS 65)) (by decide +kernel))
              (fun _ _ _ _ _ => pg_tupK K 3 rfl (pgs_cons (pg_name (i := 9) sc65.nd rfl (.inl rfl)) (pgs_cons (pg_name (i := 10) sc65.nd rfl (.inl rfl)) (pgs_cons (pg_name (i := 11) sc65.nd rfl (.inl rfl)) pgs_nil)))) (fun _ _ _ _ _ => pts_nil)
              (fun _ _ _ _ _ => pe_and (pe_cmpR (op_inPK K hu) (pv 9) (pv 8) (by rfl)) (pe_one (pe_cmpR (op_inPK K hu) (pv 10) (pv 8) (by rfl))))) pa_nil)))) (pss_one (ps_ret pe_bl)) pss_nil)))
          (pss_one (ps_if (PW.pt (pw_or (pt_not (pt_val (pe_fn FTr hr9 (by rfl) (pa_cons (pv 3) (pa_cons (pv 4) (pa_cons (pv 7) pa_nil)))))) (pw_or1 (pt_cmpR (op_neP hu) (pe_fn FW_ hr8 (by rfl) (pa_cons (pv 7) pa_nil)) (pv 8) (by rfl))))) (pss_one (ps_ret pe_bl)) pss_nil)))
      (pss_one (ps_if (PW.pt (pw_or (pt_cmpR (op_neP hu) (pe_callK0 GD hr (by rfl) mD HD.kp (kb0 HD) pass0 (pk_cons (pv 4) (pk_cons (pv 3) pk_nil))) (pv 6) (by rfl))
          (pw_or1 (pt_cmpR (op_neP hu) (pe_callK GT hr (by rfl) mT HT.kp (kb1 HT) pass0 (pa_cons (pv 3) pa_nil) (pk_cons (pv 4) pk_nil)) (pv 7) (by rfl))))) (pss_one (ps_ret pe_bl)) pss_nil)))))))))
    (pss_one (ps_ret pe_bl))), ?_⟩
  refine ⟨_, rfl, a, ns, rfl, hS, hns, fun S H1 s1 nS src1 => ?_⟩
  refine ⟨2, rfl, by decide, by decide, ?_⟩
  refine forS 2 (fun i x H H' => H' = H ∧ x = .int (i : Nat)) (fun i σ H2 => ∃ x2 x3 x4 x5 x6 x7 x8 x9 x10 x11, σ = [some (.ref a), some (.ref S), x2, x3, x4, x5, x6, x7, x8, x9, x10, x11] ∧ SrcA H2 S)
    ⟨none, none, none, none, none, none, none, none, none, none, rfl, src1⟩ (fun i σ H2 _ _ => ⟨fun hi => ⟨hi, fun x H' y => ⟨y.1, by rw [y.2]; simp⟩⟩, fun e => Nat.le_of_eq e.symm⟩) ?_ ?_
  rotate_left
  · rintro σ H2 ⟨x2, x3, x4, x5, x6, x7, x8, x9, x10, x11, rfl, _⟩
    exact q H2
  rintro i x σ Hx H2 hi ⟨x2, x3, x4, x5, x6, x7, x8, x9, x10, x11, rfl, src⟩ ⟨rfl, rfl⟩
  refine ⟨_, rfl, (by show 3 ≤ sizeLine; decide), fun l nl => ⟨_, rfl, S, 3, rfl, src.same (same_upd nl), by decide, by decide, fun k H3 k0 k3 d3 => ?_⟩⟩
  have nlS := Dr.noS src nl
  have hl3 := d3.kp _ _ (upd_same (H := H2) (a := l) (o := HO.lst [V.int 10, .int 14, .int 18])) nlS nlS
  obtain ⟨j, rfl⟩ : ∃ j : Nat, k = (j : Int) := ⟨k.toNat, by omega⟩
  obtain ⟨wn, ewn, w10, w18⟩ : ∃ wn : Nat, ([V.int 10, .int 14, .int 18] : List V)[j]? = some (.int (wn : Nat)) ∧ 10 ≤ wn ∧ wn ≤ 18 := by
    have : j = 0 ∨ j = 1 ∨ j = 2 := by omega
    rcases this with rfl | rfl | rfl
    · exact ⟨10, rfl, by decide, by decide⟩
    · exact ⟨14, rfl, by decide, by decide⟩
    · exact ⟨18, rfl, by decide, by decide⟩
  refine ⟨l, _, _, _, rfl, rfl, SqL.of hl3, atI_nat ewn, S, wn, rfl, d3.so, w10, w18, fun t b z us rs p H4 d4 ht hb nbS hus hz sok hl6 => ?_⟩
  refine ⟨t, _, rfl, SqT.of ht, rfl, _, _, rfl, _, _, rfl, rfl, ?_⟩
  refine ⟨_, rfl, b, us, rfl, .inl (SqL.of hb), fun hd nhd => ?_⟩
  have s5 := same_upd (o := .lst us) nhd
  have src5 := d4.so.same s5
  have hhd : (upd H4 hd (.lst us)) hd = some (.lst us) := upd_same
  have hb5 := s5 _ _ hb
  have hus5 := DpAll.same s5 _ _ hus
  have hz5 := Dp.same s5 _ _ hz
  generalize (upd H4 hd (.lst us)) = H5 at src5 hhd hb5 hus5 hz5 s5
  clear hb hus hz ht d4 d3 hl3 nl nhd
  have okr : ∀ r ∈ rs, ROk r := sok.rl
  have shR := sh_rls okr
  have eqR : PyData.eqv (.list (rs.map rlD)) (.list (rs.map rlD)) = true := eqv_list (flats_map flat_rlD rs)
  have tokV := sok.tok
  have lvoc : (vocS rs p).length ≤ 24 := sok.wd
  by_cases hin : goalPr rs p ∈ keys (cloS rs p)
  · -- a derivation
    obtain ⟨okS, soS, inV, lS⟩ := sok.steps
    obtain ⟨S0, wl, est⟩ := steps_last sok.closed.good sok.goal.1 sok.goal.2 hin
    refine ⟨_, rfl, _, rfl, hd, z, us, rs, p, rfl, SqL.of hhd, hus5, hz5, sok, fun _ r ws H6 s6 nr hr6 ha6 => ?_, fun h => absurd hin h⟩
    refine ⟨_, rfl, _, rfl, hd, z, us, rs, p, rfl, SqL.of (s6 _ _ hhd), DpAll.same s6 _ _ hus5, Dp.same s6 _ _ hz5, sok, fun _ H7 s7 => ?_, fun h => absurd hin h⟩
    have s57 := s6.trans s7
    refine ⟨_, _, rfl, ?_⟩
    refine ⟨_, rfl, rfl, _, rfl, rfl, rfl, _, rfl, iteF ?_⟩
    have hb7 := s57 _ _ hb5
    have hus7 := DpAll.same s57 _ _ hus5
    have hz7 := Dp.same s57 _ _ hz5
    refine ⟨_, rfl, _, rfl, _, _, .lst (SqL.of (s57 _ _ hhd)) hus7, .lst (SqL.of hb7) hus7, shR, shR, _, rfl, ?_⟩
    rw [eqR]
    refine iteF ?_
    refine ⟨_, rfl, _, rfl, b, z, us, rs, p, rfl, SqL.of hb7, hus7, hz7, by omega, fun r8 w8 H8 s8 nr8 hr8 ha8 => ?_⟩
    refine ⟨r8, w8, rpairs rs p, rfl, SqL.of hr8, ha8, sok.pairs, by rw [rpairs, List.length_append, List.length_map]; simp only [List.length_cons, List.length_nil]; omega, Nat.lt_of_le_of_lt sok.wd (by decide), fun rv wv H9 s9 nrv hrv hav => ?_⟩
    have hav : DpAll K H9 wv (tDs (vocS rs p)) := hav
    have s59 := (s57.trans s8).trans s9
    have s69 := (s7.trans s8).trans s9
    have hr9' := s69 _ _ hr6
    have ha9 := DpAll.same s69 _ _ ha6
    have hb9 := s59 _ _ hb5
    have hus9 := DpAll.same s59 _ _ hus5
    have hz9 := Dp.same s59 _ _ hz5
    refine ⟨fun σ' H' => (∃ x9 x10 x11, σ' = [some (.ref a), some (.ref S), some (.int (i : Nat)), some (.ref b), some z, some (.ref hd), some (.ref r), some .non, some (.ref rv), x9, x10, x11]) ∧ Same H9 H', ?_, ?_⟩
    · refine ⟨_, rfl, rfl, _, rfl, iteT ?_⟩
      have ha9' : DpAll K H9 ws ((S0 ++ [(⟨p.1, p.2, wl⟩ : Stp)]).map stpD) := by rw [← est]; exact ha9
      have est' : stepsM (vocS rs p) (cloS rs p) (goalPr rs p) = S0 ++ [(⟨p.1, p.2, wl⟩ : Stp)] := est
      refine ⟨_, rfl, _, rfl, _, rfl, r, ws, S0, rs, _, z, p, wl, rfl, SqL.of hr9', ha9', by rw [← est']; exact okS, by rw [← est']; omega, fun k x ex => by rw [← est'] at ex ⊢; exact soS k x ex, .lst (SqL.of hb9) hus9, okr, hz9, fun H10 s10 => ⟨_, rfl, iteF ?_⟩⟩
      have ha10 := DpAll.same s10 _ _ ha9
      have hav10 := DpAll.same s10 _ _ hav
      have hrv10 := s10 _ _ hrv
      have lws : ws.length = (stepsM (vocS rs p) (cloS rs p) (goalPr rs p)).length := mapD_len ha6
      refine ⟨_, rfl, r, rfl, ⟨_, SqL.of (s10 _ _ hr9')⟩, fun D1 nD1 => ?_⟩
      refine lcB nD1 (src_list (SqL.of (s10 _ _ hr9'))) (fun i => List.replicate i (V.bl true)) rfl (fun i _ => small1000 (by rw [List.length_replicate]; omega)) (fun m x Ha F G hm sa _ hx kF kG => ?_) (fun Ha sa hDa => ?_)
      · obtain ⟨sx, esx, hsx⟩ := mapD_get (DpAll.same sa _ _ ha10) hx
        have mV := inV sx (List.mem_of_getElem? esx)
        obtain ⟨qx, vsx, rfl, hqx, hax⟩ := FD.Dp.tupInv hsx
        obtain ⟨vl, vr, vw, rfl, h1, h2, h3⟩ := FD.DpAll.three hax
        refine ⟨qx, _, rfl, hqx, rfl, _, _, rfl, _, _, rfl, _, _, rfl, rfl, rfl, ?_⟩
        refine ⟨_, rfl, _, rfl, _, _, h1, .inl (.lst (SqL.of (sa _ _ hrv10)) (DpAll.same sa _ _ hav10)), sh_t (tokV _ mV.1), flats_plain _ (flats_tDs _), _, rfl, ?_⟩
        rw [any_yes (flats_tDs _) (flat_tD _) (List.mem_map.mpr ⟨_, mV.1, rfl⟩)]
        refine iteT ⟨_, rfl, _, rfl, _, _, h2, .inl (.lst (SqL.of (sa _ _ hrv10)) (DpAll.same sa _ _ hav10)), sh_t (tokV _ mV.2), flats_plain _ (flats_tDs _), ?_⟩
        rw [any_yes (flats_tDs _) (flat_tD _) (List.mem_map.mpr ⟨_, mV.2, rfl⟩)]
        exact kF _ _ (Same.refl _) (replicate_snoc _ _)
      · rw [bls_true] at hDa
        refine ⟨D1, _, rfl, SqL.of hDa, _, rfl, ?_⟩
        rw [all_true]
        exact iteF ⟨⟨_, _, _, rfl⟩, s10.trans sa⟩
    rintro σ9 H10 ⟨⟨x9, x10, x11, rfl⟩, s10⟩
    have shS := sh_steps okS
    refine ⟨_, rfl, _, rfl, b, z, us, rs, p, rfl, SqL.of (s10 _ _ hb9), DpAll.same s10 _ _ hus9, Dp.same s10 _ _ hz9, sok, fun _ r2 w2 H11 s11 nr2 hr2' ha2 => ?_, fun h => absurd hin h⟩
    have s911 := s10.trans s11
    refine ⟨_, rfl, _, _, .lst (SqL.of hr2') ha2, .lst (SqL.of (s911 _ _ hr9')) (DpAll.same s911 _ _ ha9), shS, shS, _, rfl, ?_⟩
    rw [eqv_list (flats_map flat_stpD _)]
    refine iteF ?_
    refine ⟨_, rfl, _, rfl, b, z, us, rs, p, rfl, SqL.of (s911 _ _ hb9), DpAll.same s911 _ _ hus9, Dp.same s911 _ _ hz9, sok, fun _ H12 s12 => ?_, fun h => absurd hin h⟩
    refine ⟨_, rfl, .none, .none, .non, .non, sh_flat (by simp [flat]) (by simp [PyData.depth]), sh_flat (by simp [flat]) (by simp [PyData.depth]), _, rfl, ?_⟩
    rw [eqv_self .none (by simp [flat])]
    exact iteF ⟨_, _, _, _, _, _, _, _, _, _, rfl, src5.same (s59.trans (s911.trans s12))⟩
  · -- a table
    refine ⟨_, rfl, _, rfl, hd, z, us, rs, p, rfl, SqL.of hhd, hus5, hz5, sok, fun h => absurd h hin, fun _ H6 s6 => ?_⟩
    refine ⟨_, rfl, _, rfl, hd, z, us, rs, p, rfl, SqL.of (s6 _ _ hhd), DpAll.same s6 _ _ hus5, Dp.same s6 _ _ hz5, sok, fun h => absurd h hin, fun _ r ws ps H7 s7 nr hr7' sk ha7 => ?_⟩
    obtain ⟨ndT, lT, okT, pT, eW, tab⟩ := sok.table hin sk
    have s57 := s6.trans s7
    have ha7' : DpAll K H7 ws ((tabT (vocS rs p) ps).map prD2) := by unfold tabT; rw [List.map_map]; exact ha7
    refine ⟨_, _, rfl, ?_⟩
    refine ⟨_, rfl, rfl, _, rfl, rfl, rfl, _, rfl, iteF ?_⟩
    have hb7 := s57 _ _ hb5
    have hus7 := DpAll.same s57 _ _ hus5
    have hz7 := Dp.same s57 _ _ hz5
    refine ⟨_, rfl, _, rfl, _, _, .lst (SqL.of (s57 _ _ hhd)) hus7, .lst (SqL.of hb7) hus7, shR, shR, _, rfl, ?_⟩
    rw [eqR]
    refine iteF ?_
    refine ⟨_, rfl, _, rfl, b, z, us, rs, p, rfl, SqL.of hb7, hus7, hz7, by omega, fun r8 w8 H8 s8 nr8 hr8 ha8 => ?_⟩
    refine ⟨r8, w8, rpairs rs p, rfl, SqL.of hr8, ha8, sok.pairs, by rw [rpairs, List.length_append, List.length_map]; simp only [List.length_cons, List.length_nil]; omega, Nat.lt_of_le_of_lt sok.wd (by decide), fun rv wv H9 s9 nrv hrv hav => ?_⟩
    have hav : DpAll K H9 wv (tDs (vocS rs p)) := hav
    have s59 := (s57.trans s8).trans s9
    have s79 := s8.trans s9
    have hr9' := s79 _ _ hr7'
    have ha9 := DpAll.same s79 _ _ ha7'
    have hb9 := s59 _ _ hb5
    have hus9 := DpAll.same s59 _ _ hus5
    have hz9 := Dp.same s59 _ _ hz5
    refine ⟨fun σ' H' => (∃ x9 x10 x11, σ' = [some (.ref a), some (.ref S), some (.int (i : Nat)), some (.ref b), some z, some (.ref hd), some .non, some (.ref r), some (.ref rv), x9, x10, x11]) ∧ Same H9 H', ?_, ?_⟩
    · refine ⟨_, rfl, rfl, _, rfl, iteF ?_⟩
      refine ⟨_, rfl, _, rfl, _, rfl, r, b, z, ws, us, tabT (vocS rs p) ps, rs, p, rfl, SqL.of hb9, hus9, hz9, SqL.of hr9', ha9, ndT, lT, okT, pT, sok, eW, tab, fun H10 s10 => ⟨_, rfl, iteF ?_⟩⟩
      refine ⟨_, rfl, r, ws, tabT (vocS rs p) ps, rfl, SqL.of (s10 _ _ hr9'), DpAll.same s10 _ _ ha9, okT, lT, by rw [eW]; exact Nat.lt_of_le_of_lt sok.wd (by decide), fun r11 w11 H11 s11 nr11 hr11 ha11 => ?_⟩
      have s911 := s10.trans s11
      rw [eW] at ha11
      have ha11 : DpAll K H11 w11 (tDs (vocS rs p)) := ha11
      have shV : Sh (.list (tDs (vocS rs p))) := sh_tDs tokV
      refine ⟨_, rfl, .list (tDs (vocS rs p)), .list (tDs (vocS rs p)), .lst (SqL.of hr11) ha11, .lst (SqL.of (s911 _ _ hrv)) (DpAll.same s911 _ _ hav), shV, shV, _, rfl, ?_⟩
      rw [eqv_list (flats_tDs _)]
      exact iteF ⟨⟨_, _, _, rfl⟩, s911⟩
    rintro σ9 H10 ⟨⟨x9, x10, x11, rfl⟩, s10⟩
    refine ⟨_, rfl, _, rfl, b, z, us, rs, p, rfl, SqL.of (s10 _ _ hb9), DpAll.same s10 _ _ hus9, Dp.same s10 _ _ hz9, sok, fun h => absurd h hin, fun _ H11 s11 => ?_⟩
    have s911 := s10.trans s11
    refine ⟨_, rfl, .none, .none, .non, .non, sh_flat (by simp [flat]) (by simp [PyData.depth]), sh_flat (by simp [flat]) (by simp [PyData.depth]), _, rfl, ?_⟩
    rw [eqv_self .none (by simp [flat])]
    refine iteF ?_
    refine ⟨_, rfl, _, rfl, b, z, us, rs, p, rfl, SqL.of (s911 _ _ hb9), DpAll.same s911 _ _ hus9, Dp.same s911 _ _ hz9, sok, fun h => absurd h hin, fun _ r2 w2 ps2 H12 s12 nr2 hr2' sk2 ha2 => ?_⟩
    have eps := srt_unique sk2 sk
    subst eps
    have ha2' : DpAll K H12 w2 ((tabT (vocS rs p) ps2).map prD2) := by unfold tabT; rw [List.map_map]; exact ha2
    have shT := sh_prs okT
    have s912 := s911.trans s12
    refine ⟨_, rfl, _, _, .lst (SqL.of hr2') ha2', .lst (SqL.of (s912 _ _ hr9')) (DpAll.same s912 _ _ ha9), shT, shT, _, rfl, ?_⟩
    rw [eqv_list (flats_map flat_prD2 _)]
    exact iteF ⟨_, _, _, _, _, _, _, _, _, _, rfl, src5.same (s59.trans s912)⟩
end
end FD
end T_L1

section T_M1
set_option Elab.async false
set_option linter.all false
set_option maxRecDepth 100000
set_option maxHeartbeats 4000000
/-! The end: what the top has written. -/
namespace FD
open PySem L2 FF FW
section
variable {K : PySem.W.Frag} {h : Heap} {mg : Str → Option Value} {C : Addr}
theorem df_mk (X : K.In h) (G : h.Ns mainGlobals mg) {x : Str} {st : Stmt} {ps : List Str} {f : Addr} {oc kV dc pm cd ct : Value} {od an : Option Addr} {sl : Array (Option Value)}
    (a : PySem.W.nsIn K mainGlobals x = some (some (.ref f))) (l : K.lookup f = some ⟨oc, od, .func (PySem.W.fnOf x x (defArgs st) (defBody st) (defScope st) .none kV dc pm an cd ct), sl⟩) (c : PySem.W.codeIn K cd x = true) (k : PySem.W.keepIn K (.ref f) = true)
    (b : ∀ (kV doc pm : Value) (an : Option Addr) (cdv ct : Value) (us : List Value), us.length = ps.length → bindArgs (PySem.W.fnOf x x (defArgs st) (defBody st) (defScope st) .none kV doc pm an cdv ct) ⟨us, []⟩ = pure (ps.zip us)) : Df K mg x st ps :=
  ⟨f, _, fun_mk l c k, (fun_mk l c k).binds b, PySem.W.mg_of X G a⟩
theorem dm_mk {m q : Str} {st : Stmt} {ps : List Str} {f : Addr} {oc kV dc pm cd ct : Value} {od an : Option Addr} {sl : Array (Option Value)}
    (a : PySem.W.findIn K (.ref C) m = some (some (.ref f))) (i : PySem.W.isFn K (.ref f) = true) (l : K.lookup f = some ⟨oc, od, .func (PySem.W.fnOf m q (defArgs st) (defBody st) (defScope st) .none kV dc pm an cd ct), sl⟩) (c : PySem.W.codeIn K cd q = true) (k : PySem.W.keepIn K (.ref f) = true)
    (b : ∀ (kV doc pm : Value) (an : Option Addr) (cdv ct : Value) (us : List Value), us.length = ps.length → bindArgs (PySem.W.fnOf m q (defArgs st) (defBody st) (defScope st) .none kV doc pm an cdv ct) ⟨us, []⟩ = pure (ps.zip us)) : Dm K C m q st ps :=
  ⟨f, _, fun_mk l c k, (fun_mk l c k).binds b, a, i, k⟩
theorem dft_mk (X : K.In h) (G : h.Ns mainGlobals mg) {f D1 : Addr} {u1 u2 : Value} {oc dc pm cd ct : Value} {od an : Option Addr} {sl : Array (Option Value)}
    (a : PySem.W.nsIn K mainGlobals "is_term" = some (some (.ref f))) (l : K.lookup f = some ⟨oc, od, .func (PySem.W.fnOf "is_term" "is_term" (defArgs (topS 14)) (defBody (topS 14)) (defScope (topS 14)) .none (.ref D1) dc pm an cd ct), sl⟩) (c : PySem.W.codeIn K cd "is_term" = true) (k : PySem.W.keepIn K (.ref f) = true)
    (d1 : PySem.W.nsIn K D1 "max_depth" = some (some u1)) (d2 : PySem.W.nsIn K D1 "max_size" = some (some u2)) (r1 : RelV (.int 5) u1) (r2 : RelV (.int 24) u2) : DfT K mg :=
  ⟨f, _, ⟨⟨oc, od, .none, .ref D1, dc, pm, an, cd, ct, sl, rfl, l, c, .inl ⟨rfl, rfl⟩, .inr ⟨D1, rfl, fun q hq => by
    simp only [kw14, List.mem_cons, List.not_mem_nil, or_false] at hq
    rcases hq with rfl | rfl
    · exact ⟨u1, d1, r1⟩
    · exact ⟨u2, d2, r2⟩⟩⟩, k⟩, PySem.W.mg_of X G a⟩
theorem gl_mk (X : K.In h) (G : h.Ns mainGlobals mg) {x : Str} {v : V} {u : Value} (a : PySem.W.nsIn K mainGlobals x = some (some u)) (r : RelV v u) : ∃ u, mg x = some u ∧ RelV v u := ⟨u, PySem.W.mg_of X G a, r⟩
theorem ops_mk {T : Addr} {oT : Obj} (l : K.lookup T = some oT) (h : oT.cls = .type "tuple" ∧ ∃ (its : Array Value) (n : Nat) (t1 t2 : Tok), oT.data = .seq its n ∧ its.toList = [.str "&" t1, .str "|" t2]) : OpsAt K T := fun H => by
  obtain ⟨h1, its, n, t1, t2, h2, h3⟩ := h
  refine .tup (.inr ⟨oT, its, n, l, h1, h2, ?_, ?_⟩) (.cons (.str "&") (.cons (.str "|") .nil))
  · rw [← Array.length_toList, h3]; show 2 ≤ sizeLine; decide
  · rw [h3]; exact .cons ⟨_, rfl⟩ (.cons ⟨_, rfl⟩ .nil)
end
theorem all_of {l : PySem.W.OpenLaw} {w : World} {K : PySem.W.Frag} {h : Heap} {mg : Str → Option Value} {fa f65 C T_ : Addr} (X : K.In h) (G : h.Ns mainGlobals mg) (hfa : mg "law" = some (.ref fa))
    {oc kV dc pm cd ct : Value} {od an : Option Addr} {sl : Array (Option Value)}
    (a : PySem.W.nsIn K mainGlobals "law" = some (some (.ref f65))) (l65 : K.lookup f65 = some ⟨oc, od, .func (PySem.W.fnOf "law" "law" (defArgs (topS 65)) (defBody (topS 65)) (defScope (topS 65)) .none kV dc pm an cd ct), sl⟩) (c : PySem.W.codeIn K cd "law" = true) (k : PySem.W.keepIn K (.ref f65) = true)
    (B : Bi mg) (T : Tx K mg C) (gL : ∃ u, mg "LETTERS" = some u ∧ RelV (.str "abcdefgh") u) (gS : ∃ u, mg "SMALL_LETTERS" = some u ∧ RelV (.str "abcdefghijklmnopqrstuvwxyz") u) (gN : ∃ u, mg "MAX_NAME" = some u ∧ RelV (.int 6) u) (gR : ∃ u, mg "MAX_RULES" = some u ∧ RelV (.int 12) u) (gT : ∃ u, mg "MAX_TERMS" = some u ∧ RelV (.int 24) u)
    (mO : mg "OPERATORS" = some (.ref T_)) (hT : OpsAt K T_) (d14 : DfT K mg)
    (d12 : Df K mg "is_letter" (topS 12) ["value"]) (d13 : Df K mg "measured" (topS 13) ["value", "max_depth"]) (d15 : Df K mg "parts_of" (topS 15) ["term"]) (d16 : Df K mg "walked" (topS 16) ["term"]) (d20 : Df K mg "is_name" (topS 20) ["text"]) (d21 : Df K mg "text_of" (topS 21) ["term"]) (d22 : Df K mg "is_goal" (topS 22) ["value"]) (d23 : Df K mg "is_rule" (topS 23) ["value"]) (d27 : Df K mg "words_of" (topS 27) ["pairs"]) (d28 : Df K mg "pairs_in" (topS 28) ["rules", "goal"]) (d29 : Df K mg "need_list" (topS 29) ["rules"]) (d30 : Df K mg "checked_words" (topS 30) ["rules", "goal"]) (d31 : Df K mg "goal_words" (topS 31) ["rules", "goal"]) (d33 : Df K mg "needed_before" (topS 33) ["reason"]) (d34 : Df K mg "moved" (topS 34) ["reason", "place_of"]) (d35 : Df K mg "steps_for" (topS 35) ["closure", "pair"]) (d36 : Df K mg "derive" (topS 36) ["rules", "goal"]) (d38 : Df K mg "table_of" (topS 38) ["rules", "goal"]) (d40 : Df K mg "_law_source" (topS 40) ["_law_script"]) (d41 : Df K mg "_law_take" (topS 41) ["_law_source_here", "_law_many"]) (d42 : Df K mg "_law_pick" (topS 42) ["_law_source_here", "_law_row"]) (d43 : Df K mg "_law_mixed" (topS 43) ["_law_source_here", "_law_row"]) (d44 : Df K mg "_law_parts" (topS 44) ["_law_word"]) (d45 : Df K mg "_law_text" (topS 45) ["_law_word"]) (d46 : Df K mg "_law_walk" (topS 46) ["_law_word"]) (d47 : Df K mg "_law_by_text" (topS 47) ["_law_row"]) (d48 : Df K mg "_law_pairs" (topS 48) ["_law_premises_here", "_law_aim"]) (d49 : Df K mg "_law_words" (topS 49) ["_law_pairs_here"]) (d50 : Df K mg "_law_term" (topS 50) ["_law_source_here", "_law_signs_here", "_law_deep", "_law_room"]) (d51 : Df K mg "_law_signs" (topS 51) ["_law_source_here", "_law_most"]) (d52 : Df K mg "_law_names" (topS 52) ["_law_source_here", "_law_many"]) (d53 : Df K mg "_law_kept_few" (topS 53) ["_law_premises_here", "_law_aim", "_law_most"]) (d54 : Df K mg "_law_known_goal" (topS 54) ["_law_source_here", "_law_signs_here"]) (d55 : Df K mg "_law_goal" (topS 55) ["_law_source_here", "_law_signs_here", "_law_premises_here"]) (d56 : Df K mg "_law_premises" (topS 56) ["_law_source_here", "_law_signs_here", "_law_most"]) (d57 : Df K mg "_law_scene" (topS 57) ["_law_source_here", "_law_most", "_law_words_here"]) (d58 : Df K mg "_law_index" (topS 58) ["_law_one", "_law_at"]) (d59 : Df K mg "_law_long" (topS 59) ["_law_word", "_law_deep"]) (d60 : Df K mg "_law_many_right" (topS 60) ["_law_steps", "_law_at", "_law_indexes"]) (d61 : Df K mg "_law_reason_right" (topS 61) ["_law_steps", "_law_at", "_law_premises_here"]) (d62 : Df K mg "_law_steps_right" (topS 62) ["_law_premises_here", "_law_aim", "_law_steps"]) (d63 : Df K mg "_law_closed" (topS 63) ["_law_pairs_here", "_law_words_here"]) (d64 : Df K mg "_law_table_right" (topS 64) ["_law_premises_here", "_law_aim", "_law_table"])
    (m0 : Dm K C "__init__" "Closure.__init__" (mS 0) ["self", "rules", "words"]) (m1 : Dm K C "holds" "Closure.holds" (mS 1) ["self", "one", "other"]) (m2 : Dm K C "note" "Closure.note" (mS 2) ["self", "one", "other", "reason"]) (m3 : Dm K C "begin" "Closure.begin" (mS 3) ["self", "rules"]) (m4 : Dm K C "finish" "Closure.finish" (mS 4) ["self"]) (m5 : Dm K C "widen" "Closure.widen" (mS 5) ["self", "one", "other"]) (m6 : Dm K C "pairs" "Closure.pairs" (mS 6) ["self"]) (m7 : Dm K C "has_goal" "Closure.has_goal" (mS 7) ["self", "goal"]) :
    ∃ fd : FuncData, (∀ (s : Shared) (u : Value), BindsTo s fd ⟨[u], []⟩ [("_law_script", u)]) ∧ ∀ base : Heap, K.In base → base.Ns mainGlobals mg → FnOk l.prog w K mg base CX0 65 fa fd ["_law_script"] (spLaw K) := by
  have e := hfa.symm.trans (PySem.W.mg_of X G a)
  cases e
  have D := fun_mk (st := topS 65) l65 c k
  obtain ⟨_, gL, tL, rfl⟩ := gL
  obtain ⟨_, gS, tS, rfl⟩ := gS
  obtain ⟨_, gN, tN, rfl⟩ := gN
  obtain ⟨_, gR, tR, rfl⟩ := gR
  obtain ⟨_, gT, tT, rfl⟩ := gT
  have mL := gL
  have mS_ := gS
  have mN := gN
  have mR := gR
  have mT := gT
  refine ⟨PySem.W.fnOf "law" "law" (defArgs (topS 65)) (defBody (topS 65)) (defScope (topS 65)) .none kV dc pm an cd ct, fun s u => .of_eq rfl, fun base _ _ => ?_⟩
  have B12 := ok_letter (P := l.prog) (w := w) (base := base) d12 B mL
  have B13 := ok_measured (P := l.prog) (w := w) (base := base) d13 B B12 mO hT 5
  have B14 := ok_term d14 B13
  have B15 := ok_parts (P := l.prog) (w := w) (base := base) d15 B
  have B16 := ok_walked (P := l.prog) (w := w) (base := base) d16 B15 5
  have B20 := ok_name (P := l.prog) (w := w) (base := base) d20 B mS_ mN
  have B21 := ok_text (P := l.prog) (w := w) (base := base) d21 B 5
  have B22 := ok_goal d22 B B14
  have B23 := ok_rule d23 B B20 B22
  have B27 := ok_words d27 B B16 B21
  have B28 := ok_pairsIn (P := l.prog) (w := w) (base := base) d28
  have B29 := ok_need d29 B mR B23
  have B30 := ok_checked d30 B mT B29 B22 B28 B27
  have B31 := ok_goalWords d31 B29 B30
  have B33 := ok_needed (P := l.prog) (w := w) (base := base) d33 B
  have B34 := ok_moved (P := l.prog) (w := w) (base := base) d34 B
  have B35 := ok_steps (C := C) d35 B T B33 B34
  have M1 := ok_holds (P := l.prog) (w := w) (base := base) m1 T
  have M2 := ok_note (P := l.prog) (w := w) (base := base) m2 T
  have M3 := ok_begin m3 B T M2
  have M5 := ok_widen m5 B T M2
  have M4 := ok_finish m4 B T M1 M2 M5
  have M6 := ok_pairs (P := l.prog) (w := w) (base := base) m6 B T
  have M7 := ok_hasGoal m7 T M1
  have M0 := ok_init m0 B T M3 M4
  have B36 := ok_derive d36 T M0 B31 M7 B35
  have B38 := ok_table d38 T M0 B31 M7 M6
  have B40 := ok_source (P := l.prog) (w := w) (base := base) d40 B
  have B41 := ok_take (P := l.prog) (w := w) (base := base) d41 B
  have B42 := ok_pick d42 B B41
  have B43 := ok_mixed d43 B B41
  have B44 := ok_lparts (P := l.prog) (w := w) (base := base) d44 B
  have B45 := ok_ltext (P := l.prog) (w := w) (base := base) d45 B 5
  have B46 := ok_lwalk d46 B44 5
  have B47 := ok_byText d47 B B45
  have B48 := ok_lpairs (P := l.prog) (w := w) (base := base) d48
  have B49 := ok_lwords d49 B46 B47
  have B50 := ok_lterm d50 B B41 B42 3
  have B51 := ok_signs d51 B B41 B43
  have B52 := ok_names d52 B B41 B42
  have B53 := ok_kept d53 B B49 B48
  have B54 := ok_known d54 B B42
  have B55 := ok_lgoal d55 B B41 B42 B54 B50
  have B56 := ok_prem d56 B B41 B42 B52 B50
  have B57 := ok_scene d57 B B51 B56 B55 B49 B53
  have B58 := ok_index (P := l.prog) (w := w) (base := base) d58 B
  have B59 := ok_long (P := l.prog) (w := w) (base := base) d59 B 5
  have B60 := ok_many d60 B B58
  have B61 := ok_reason d61 B B58 B60
  have B62 := ok_stepsR d62 B B59 B61
  have B63 := ok_closed d63 B B44
  have B64 := ok_tableR d64 B B49 B48 B63
  exact (ok_law D B B40 B41 B57 B36 B38 B49 B48 B62 B64).mono (by decide)

theorem walk {l : PySem.W.OpenLaw} {q : Program} {loose : List Str} {XP : (Str → Option Value) → Heap → Prop} {YP : World → Heap → Prop} {d : DefRec} {K : Params → PySem.W.Frag} (hn : l.most = some 63) (hdf : d.params.defaults = [])
    (hY : ∀ (w : World) (h : Heap), YP w h → (K w.params).In h)
    (F : ∀ (w : World) (mg : Str → Option Value) (fa : Addr) (h : Heap), (K w.params).In h → h.Ns mainGlobals mg → mg d.name = some (.ref fa) →
      ∃ fd : FuncData, (∀ (s : Shared) (u : Value), BindsTo s fd ⟨[u], []⟩ [("_law_script", u)]) ∧ ∀ base : Heap, (K w.params).In base → base.Ns mainGlobals mg → FnOk l.prog w (K w.params) mg base CX0 65 fa fd ["_law_script"] (spLaw (K w.params))) :
    PySem.W.WalkO q loose XP YP l.row.toRowW d [] (fun f vs => PySem.call f vs) :=
  L2.walk_of (n := 63) (k := 65) (x := "_law_script") (CX := fun _ => CX0) (sp := fun w => spLaw (K w.params)) hn (by decide) hdf ⟨rfl, by decide, by decide⟩ hY F (fun _ _ a ns hl _ hS => ⟨a, ns, rfl, hS, hl, fun _ => rfl⟩) fun _ _ _ _ _ z => z
end FD
end T_M1
open PySem PySem.W PyProof.Rows
set_option maxRecDepth 100000 in
set_option maxHeartbeats 0 in
theorem PySem.Challenge.cw_fivefault_k13_whole_goals_have_a_derivat_holds : PySem.Challenge.rw_fivefault_k13_whole_goals_have_a_derivat.Holds := by
  refine hd ?_
  k_fill
  refine FD.walk (l := PySem.Challenge.rw_fivefault_k13_whole_goals_have_a_derivat) rfl rfl (fun w h Y => PySem.W.kIn_of Y) ?F
  case F =>
    intro w mg fa h KX G hmg
    refine' FD.all_of (l := PySem.Challenge.rw_fivefault_k13_whole_goals_have_a_derivat) KX G hmg ?a ?l65 ?c ?k ⟨PySem.W.mg_none_of KX G ?z1, PySem.W.mg_none_of KX G ?z2, PySem.W.mg_none_of KX G ?z3, PySem.W.mg_none_of KX G ?z4, PySem.W.mg_none_of KX G ?z5, PySem.W.mg_none_of KX G ?z6, PySem.W.mg_none_of KX G ?z7, PySem.W.mg_none_of KX G ?z8, PySem.W.mg_none_of KX G ?z9, PySem.W.mg_none_of KX G ?z10, PySem.W.mg_none_of KX G ?z11, PySem.W.mg_none_of KX G ?z12, PySem.W.mg_none_of KX G ?z13⟩ ⟨⟨?pg, ?hd, ?po, ?sa⟩, PySem.W.mg_of KX G ?aC, ?mks, ?kc, ?nW, ?nN, ?nR, ?nO, ?nI⟩
      (FD.gl_mk KX G ?g1 ?r1) (FD.gl_mk KX G ?g2 ?r2) (FD.gl_mk KX G ?g3 ?r3) (FD.gl_mk KX G ?g4 ?r4) (FD.gl_mk KX G ?g5 ?r5) (PySem.W.mg_of KX G ?g6) (FD.ops_mk ?lT ?hT) (FD.dft_mk KX G ?ta ?tl ?tc ?tk ?td1 ?td2 ?tr1 ?tr2)
      (FD.df_mk KX G ?a12 ?l12 ?c12 ?k12 ?b12)
      (FD.df_mk KX G ?a13 ?l13 ?c13 ?k13 ?b13)
      (FD.df_mk KX G ?a15 ?l15 ?c15 ?k15 ?b15)
      (FD.df_mk KX G ?a16 ?l16 ?c16 ?k16 ?b16)
      (FD.df_mk KX G ?a20 ?l20 ?c20 ?k20 ?b20)
      (FD.df_mk KX G ?a21 ?l21 ?c21 ?k21 ?b21)
      (FD.df_mk KX G ?a22 ?l22 ?c22 ?k22 ?b22)
      (FD.df_mk KX G ?a23 ?l23 ?c23 ?k23 ?b23)
      (FD.df_mk KX G ?a27 ?l27 ?c27 ?k27 ?b27)
      (FD.df_mk KX G ?a28 ?l28 ?c28 ?k28 ?b28)
      (FD.df_mk KX G ?a29 ?l29 ?c29 ?k29 ?b29)
      (FD.df_mk KX G ?a30 ?l30 ?c30 ?k30 ?b30)
      (FD.df_mk KX G ?a31 ?l31 ?c31 ?k31 ?b31)
      (FD.df_mk KX G ?a33 ?l33 ?c33 ?k33 ?b33)
      (FD.df_mk KX G ?a34 ?l34 ?c34 ?k34 ?b34)
      (FD.df_mk KX G ?a35 ?l35 ?c35 ?k35 ?b35)
      (FD.df_mk KX G ?a36 ?l36 ?c36 ?k36 ?b36)
      (FD.df_mk KX G ?a38 ?l38 ?c38 ?k38 ?b38)
      (FD.df_mk KX G ?a40 ?l40 ?c40 ?k40 ?b40)
      (FD.df_mk KX G ?a41 ?l41 ?c41 ?k41 ?b41)
      (FD.df_mk KX G ?a42 ?l42 ?c42 ?k42 ?b42)
      (FD.df_mk KX G ?a43 ?l43 ?c43 ?k43 ?b43)
      (FD.df_mk KX G ?a44 ?l44 ?c44 ?k44 ?b44)
      (FD.df_mk KX G ?a45 ?l45 ?c45 ?k45 ?b45)
      (FD.df_mk KX G ?a46 ?l46 ?c46 ?k46 ?b46)
      (FD.df_mk KX G ?a47 ?l47 ?c47 ?k47 ?b47)
      (FD.df_mk KX G ?a48 ?l48 ?c48 ?k48 ?b48)
      (FD.df_mk KX G ?a49 ?l49 ?c49 ?k49 ?b49)
      (FD.df_mk KX G ?a50 ?l50 ?c50 ?k50 ?b50)
      (FD.df_mk KX G ?a51 ?l51 ?c51 ?k51 ?b51)
      (FD.df_mk KX G ?a52 ?l52 ?c52 ?k52 ?b52)
      (FD.df_mk KX G ?a53 ?l53 ?c53 ?k53 ?b53)
      (FD.df_mk KX G ?a54 ?l54 ?c54 ?k54 ?b54)
      (FD.df_mk KX G ?a55 ?l55 ?c55 ?k55 ?b55)
      (FD.df_mk KX G ?a56 ?l56 ?c56 ?k56 ?b56)
      (FD.df_mk KX G ?a57 ?l57 ?c57 ?k57 ?b57)
      (FD.df_mk KX G ?a58 ?l58 ?c58 ?k58 ?b58)
      (FD.df_mk KX G ?a59 ?l59 ?c59 ?k59 ?b59)
      (FD.df_mk KX G ?a60 ?l60 ?c60 ?k60 ?b60)
      (FD.df_mk KX G ?a61 ?l61 ?c61 ?k61 ?b61)
      (FD.df_mk KX G ?a62 ?l62 ?c62 ?k62 ?b62)
      (FD.df_mk KX G ?a63 ?l63 ?c63 ?k63 ?b63)
      (FD.df_mk KX G ?a64 ?l64 ?c64 ?k64 ?b64)
      (FD.dm_mk ?ma0 ?mi0 ?ml0 ?mc0 ?mk0 ?mb0)
      (FD.dm_mk ?ma1 ?mi1 ?ml1 ?mc1 ?mk1 ?mb1)
      (FD.dm_mk ?ma2 ?mi2 ?ml2 ?mc2 ?mk2 ?mb2)
      (FD.dm_mk ?ma3 ?mi3 ?ml3 ?mc3 ?mk3 ?mb3)
      (FD.dm_mk ?ma4 ?mi4 ?ml4 ?mc4 ?mk4 ?mb4)
      (FD.dm_mk ?ma5 ?mi5 ?ml5 ?mc5 ?mk5 ?mb5)
      (FD.dm_mk ?ma6 ?mi6 ?ml6 ?mc6 ?mk6 ?mb6)
      (FD.dm_mk ?ma7 ?mi7 ?ml7 ?mc7 ?mk7 ?mb7)
    (case a => k_is); (case l65 => k_is); (case c => k_is); (case k => k_is)
    (case z1 => k_is); (case z2 => k_is); (case z3 => k_is); (case z4 => k_is); (case z5 => k_is); (case z6 => k_is); (case z7 => k_is); (case z8 => k_is); (case z9 => k_is); (case z10 => k_is); (case z11 => k_is); (case z12 => k_is); (case z13 => k_is)
    (case aC => k_is)
    (case pg => k_is); (case hd => k_is); (case po => k_is); (case sa => k_is); (case mks => k_is); (case kc => k_is); (case nW => show PySem.W.findIn _ (.ref _) "words" = some none; k_is); (case nN => show PySem.W.findIn _ (.ref _) "number" = some none; k_is); (case nR => show PySem.W.findIn _ (.ref _) "reasons" = some none; k_is); (case nO => show PySem.W.findIn _ (.ref _) "order" = some none; k_is); (case nI => show PySem.W.findIn _ (.ref _) "inner" = some none; k_is)
    (case g1 => k_is); (case r1 => exact ⟨_, rfl⟩)
    (case g2 => k_is); (case r2 => exact ⟨_, rfl⟩)
    (case g3 => k_is); (case r3 => exact ⟨_, rfl⟩)
    (case g4 => k_is); (case r4 => exact ⟨_, rfl⟩)
    (case g5 => k_is); (case r5 => exact ⟨_, rfl⟩)
    (case g6 => k_is); (case lT => k_is); (case hT => exact ⟨rfl, _, _, _, _, rfl, rfl⟩)
    (case ta => k_is); (case tl => k_is); (case tc => k_is); (case tk => k_is); (case td1 => k_is); (case td2 => k_is); (case tr1 => exact ⟨_, rfl⟩); (case tr2 => exact ⟨_, rfl⟩)
    (case a12 => k_is); (case l12 => k_is); (case c12 => k_is); (case k12 => k_is); (case b12 => exact (fun _ _ _ _ _ _ us hl => match us, hl with | [_], _ => rfl))
    (case a13 => k_is); (case l13 => k_is); (case c13 => k_is); (case k13 => k_is); (case b13 => exact (fun _ _ _ _ _ _ us hl => match us, hl with | [_, _], _ => rfl))
    (case a15 => k_is); (case l15 => k_is); (case c15 => k_is); (case k15 => k_is); (case b15 => exact (fun _ _ _ _ _ _ us hl => match us, hl with | [_], _ => rfl))
    (case a16 => k_is); (case l16 => k_is); (case c16 => k_is); (case k16 => k_is); (case b16 => exact (fun _ _ _ _ _ _ us hl => match us, hl with | [_], _ => rfl))
    (case a20 => k_is); (case l20 => k_is); (case c20 => k_is); (case k20 => k_is); (case b20 => exact (fun _ _ _ _ _ _ us hl => match us, hl with | [_], _ => rfl))
    (case a21 => k_is); (case l21 => k_is); (case c21 => k_is); (case k21 => k_is); (case b21 => exact (fun _ _ _ _ _ _ us hl => match us, hl with | [_], _ => rfl))
    (case a22 => k_is); (case l22 => k_is); (case c22 => k_is); (case k22 => k_is); (case b22 => exact (fun _ _ _ _ _ _ us hl => match us, hl with | [_], _ => rfl))
    (case a23 => k_is); (case l23 => k_is); (case c23 => k_is); (case k23 => k_is); (case b23 => exact (fun _ _ _ _ _ _ us hl => match us, hl with | [_], _ => rfl))
    (case a27 => k_is); (case l27 => k_is); (case c27 => k_is); (case k27 => k_is); (case b27 => exact (fun _ _ _ _ _ _ us hl => match us, hl with | [_], _ => rfl))
    (case a28 => k_is); (case l28 => k_is); (case c28 => k_is); (case k28 => k_is); (case b28 => exact (fun _ _ _ _ _ _ us hl => match us, hl with | [_, _], _ => rfl))
    (case a29 => k_is); (case l29 => k_is); (case c29 => k_is); (case k29 => k_is); (case b29 => exact (fun _ _ _ _ _ _ us hl => match us, hl with | [_], _ => rfl))
    (case a30 => k_is); (case l30 => k_is); (case c30 => k_is); (case k30 => k_is); (case b30 => exact (fun _ _ _ _ _ _ us hl => match us, hl with | [_, _], _ => rfl))
    (case a31 => k_is); (case l31 => k_is); (case c31 => k_is); (case k31 => k_is); (case b31 => exact (fun _ _ _ _ _ _ us hl => match us, hl with | [_, _], _ => rfl))
    (case a33 => k_is); (case l33 => k_is); (case c33 => k_is); (case k33 => k_is); (case b33 => exact (fun _ _ _ _ _ _ us hl => match us, hl with | [_], _ => rfl))
    (case a34 => k_is); (case l34 => k_is); (case c34 => k_is); (case k34 => k_is); (case b34 => exact (fun _ _ _ _ _ _ us hl => match us, hl with | [_, _], _ => rfl))
    (case a35 => k_is); (case l35 => k_is); (case c35 => k_is); (case k35 => k_is); (case b35 => exact (fun _ _ _ _ _ _ us hl => match us, hl with | [_, _], _ => rfl))
    (case a36 => k_is); (case l36 => k_is); (case c36 => k_is); (case k36 => k_is); (case b36 => exact (fun _ _ _ _ _ _ us hl => match us, hl with | [_, _], _ => rfl))
    (case a38 => k_is); (case l38 => k_is); (case c38 => k_is); (case k38 => k_is); (case b38 => exact (fun _ _ _ _ _ _ us hl => match us, hl with | [_, _], _ => rfl))
    (case a40 => k_is); (case l40 => k_is); (case c40 => k_is); (case k40 => k_is); (case b40 => exact (fun _ _ _ _ _ _ us hl => match us, hl with | [_], _ => rfl))
    (case a41 => k_is); (case l41 => k_is); (case c41 => k_is); (case k41 => k_is); (case b41 => exact (fun _ _ _ _ _ _ us hl => match us, hl with | [_, _], _ => rfl))
    (case a42 => k_is); (case l42 => k_is); (case c42 => k_is); (case k42 => k_is); (case b42 => exact (fun _ _ _ _ _ _ us hl => match us, hl with | [_, _], _ => rfl))
    (case a43 => k_is); (case l43 => k_is); (case c43 => k_is); (case k43 => k_is); (case b43 => exact (fun _ _ _ _ _ _ us hl => match us, hl with | [_, _], _ => rfl))
    (case a44 => k_is); (case l44 => k_is); (case c44 => k_is); (case k44 => k_is); (case b44 => exact (fun _ _ _ _ _ _ us hl => match us, hl with | [_], _ => rfl))
    (case a45 => k_is); (case l45 => k_is); (case c45 => k_is); (case k45 => k_is); (case b45 => exact (fun _ _ _ _ _ _ us hl => match us, hl with | [_], _ => rfl))
    (case a46 => k_is); (case l46 => k_is); (case c46 => k_is); (case k46 => k_is); (case b46 => exact (fun _ _ _ _ _ _ us hl => match us, hl with | [_], _ => rfl))
    (case a47 => k_is); (case l47 => k_is); (case c47 => k_is); (case k47 => k_is); (case b47 => exact (fun _ _ _ _ _ _ us hl => match us, hl with | [_], _ => rfl))
    (case a48 => k_is); (case l48 => k_is); (case c48 => k_is); (case k48 => k_is); (case b48 => exact (fun _ _ _ _ _ _ us hl => match us, hl with | [_, _], _ => rfl))
    (case a49 => k_is); (case l49 => k_is); (case c49 => k_is); (case k49 => k_is); (case b49 => exact (fun _ _ _ _ _ _ us hl => match us, hl with | [_], _ => rfl))
    (case a50 => k_is); (case l50 => k_is); (case c50 => k_is); (case k50 => k_is); (case b50 => exact (fun _ _ _ _ _ _ us hl => match us, hl with | [_, _, _, _], _ => rfl))
    (case a51 => k_is); (case l51 => k_is); (case c51 => k_is); (case k51 => k_is); (case b51 => exact (fun _ _ _ _ _ _ us hl => match us, hl with | [_, _], _ => rfl))
    (case a52 => k_is); (case l52 => k_is); (case c52 => k_is); (case k52 => k_is); (case b52 => exact (fun _ _ _ _ _ _ us hl => match us, hl with | [_, _], _ => rfl))
    (case a53 => k_is); (case l53 => k_is); (case c53 => k_is); (case k53 => k_is); (case b53 => exact (fun _ _ _ _ _ _ us hl => match us, hl with | [_, _, _], _ => rfl))
    (case a54 => k_is); (case l54 => k_is); (case c54 => k_is); (case k54 => k_is); (case b54 => exact (fun _ _ _ _ _ _ us hl => match us, hl with | [_, _], _ => rfl))
    (case a55 => k_is); (case l55 => k_is); (case c55 => k_is); (case k55 => k_is); (case b55 => exact (fun _ _ _ _ _ _ us hl => match us, hl with | [_, _, _], _ => rfl))
    (case a56 => k_is); (case l56 => k_is); (case c56 => k_is); (case k56 => k_is); (case b56 => exact (fun _ _ _ _ _ _ us hl => match us, hl with | [_, _, _], _ => rfl))
    (case a57 => k_is); (case l57 => k_is); (case c57 => k_is); (case k57 => k_is); (case b57 => exact (fun _ _ _ _ _ _ us hl => match us, hl with | [_, _, _], _ => rfl))
    (case a58 => k_is); (case l58 => k_is); (case c58 => k_is); (case k58 => k_is); (case b58 => exact (fun _ _ _ _ _ _ us hl => match us, hl with | [_, _], _ => rfl))
    (case a59 => k_is); (case l59 => k_is); (case c59 => k_is); (case k59 => k_is); (case b59 => exact (fun _ _ _ _ _ _ us hl => match us, hl with | [_, _], _ => rfl))
    (case a60 => k_is); (case l60 => k_is); (case c60 => k_is); (case k60 => k_is); (case b60 => exact (fun _ _ _ _ _ _ us hl => match us, hl with | [_, _, _], _ => rfl))
    (case a61 => k_is); (case l61 => k_is); (case c61 => k_is); (case k61 => k_is); (case b61 => exact (fun _ _ _ _ _ _ us hl => match us, hl with | [_, _, _], _ => rfl))
    (case a62 => k_is); (case l62 => k_is); (case c62 => k_is); (case k62 => k_is); (case b62 => exact (fun _ _ _ _ _ _ us hl => match us, hl with | [_, _, _], _ => rfl))
    (case a63 => k_is); (case l63 => k_is); (case c63 => k_is); (case k63 => k_is); (case b63 => exact (fun _ _ _ _ _ _ us hl => match us, hl with | [_, _], _ => rfl))
    (case a64 => k_is); (case l64 => k_is); (case c64 => k_is); (case k64 => k_is); (case b64 => exact (fun _ _ _ _ _ _ us hl => match us, hl with | [_, _, _], _ => rfl))
    (case ma0 => k_is); (case mi0 => k_is); (case ml0 => k_is); (case mc0 => k_is); (case mk0 => k_is); (case mb0 => exact (fun _ _ _ _ _ _ us hl => match us, hl with | [_, _, _], _ => rfl))
    (case ma1 => k_is); (case mi1 => k_is); (case ml1 => k_is); (case mc1 => k_is); (case mk1 => k_is); (case mb1 => exact (fun _ _ _ _ _ _ us hl => match us, hl with | [_, _, _], _ => rfl))
    (case ma2 => k_is); (case mi2 => k_is); (case ml2 => k_is); (case mc2 => k_is); (case mk2 => k_is); (case mb2 => exact (fun _ _ _ _ _ _ us hl => match us, hl with | [_, _, _, _], _ => rfl))
    (case ma3 => k_is); (case mi3 => k_is); (case ml3 => k_is); (case mc3 => k_is); (case mk3 => k_is); (case mb3 => exact (fun _ _ _ _ _ _ us hl => match us, hl with | [_, _], _ => rfl))
    (case ma4 => k_is); (case mi4 => k_is); (case ml4 => k_is); (case mc4 => k_is); (case mk4 => k_is); (case mb4 => exact (fun _ _ _ _ _ _ us hl => match us, hl with | [_], _ => rfl))
    (case ma5 => k_is); (case mi5 => k_is); (case ml5 => k_is); (case mc5 => k_is); (case mk5 => k_is); (case mb5 => exact (fun _ _ _ _ _ _ us hl => match us, hl with | [_, _, _], _ => rfl))
    (case ma6 => k_is); (case mi6 => k_is); (case ml6 => k_is); (case mc6 => k_is); (case mk6 => k_is); (case mb6 => exact (fun _ _ _ _ _ _ us hl => match us, hl with | [_], _ => rfl))
    (case ma7 => k_is); (case mi7 => k_is); (case ml7 => k_is); (case mc7 => k_is); (case mk7 => k_is); (case mb7 => exact (fun _ _ _ _ _ _ us hl => match us, hl with | [_, _], _ => rfl))
