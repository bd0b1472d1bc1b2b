import PyProof.Rows.All
import Wide.All
import OpenK.AllK
import Wide.FinOn
import HandS.ForMost
import HandS.ForExc
import HandS.IsInst
import HandS.SortInts
import HandS.SortKw
import HandS.Conv
import HandS.Deep
import HandS.Zip
import HandS.TupAny
import HandS.Style
import HandS.EndBits
import KE.KUnpackStar
import HandS.ExcInit
import HandS.ExcField
import HandS.ExcOwn
import HandS.WordsExc
import HandS.ClsMeth
import HandS.Walk
import HandS.DictTup
import PyProof.ReprReads
import PyProof.ReprRoads
import PyProof.StrHeap
import PyProof.FactsAll.list
import PyProof.ReprBulk
import PyProof.Rows.ReprShort
import PyProof.EqKinds
import PyProof.FactsAll.dict
import PySem.Challenge.RW_onescale_k23_whole_lots_that_show_which
set_option Elab.async false
set_option linter.all false
set_option maxRecDepth 100000
set_option maxHeartbeats 4200000
namespace K23
/-- a tree: a button, or a trip of a bound and its parts -/
inductive Tr where
  | leaf (b : Int)
  | node (k : Int) (ps : List Tr)

theorem Tr.ind {P : Tr → Prop} (hl : ∀ b, P (.leaf b)) (hn : ∀ k ps, (∀ p ∈ ps, P p) → P (.node k ps)) : ∀ t, P t
  | .leaf b => hl b
  | .node k ps => hn k ps fun p hp => Tr.ind hl hn p
termination_by t => sizeOf t
decreasing_by
  have := List.sizeOf_lt_of_mem hp
  simp only [Tr.node.sizeOf_spec]; omega

mutual
def Tr.go (S : Int → Bool) : Tr → Bool
  | .leaf b => S b
  | .node k ps => decide (k ≤ ((goN S ps : Nat) : Int))
def goN (S : Int → Bool) : List Tr → Nat
  | [] => 0
  | p :: r => (if p.go S = true then 1 else 0) + goN S r
end
mutual
def Tr.btn : Tr → List Int
  | .leaf b => [b]
  | .node _ ps => btns ps
def btns : List Tr → List Int
  | [] => []
  | p :: r => p.btn ++ btns r
end
mutual
def Tr.ok : Tr → Prop
  | .leaf _ => True
  | .node k ps => 1 ≤ k ∧ k ≤ (ps.length : Int) ∧ okA ps
def okA : List Tr → Prop
  | [] => True
  | p :: r => p.ok ∧ okA r
end
mutual
def Tr.dep : Tr → Nat
  | .leaf _ => 0
  | .node _ ps => depA ps + 1
def depA : List Tr → Nat
  | [] => 0
  | p :: r => max p.dep (depA r)
end
def Tr.parts : Tr → List Tr
  | .leaf _ => []
  | .node _ ps => ps
def Tr.isLeaf : Tr → Bool
  | .leaf _ => true
  | .node _ _ => false
/-- a one-of within a one-of, an all-of within an all-of -/
def like (bound : Int) (many : Nat) : Tr → Bool
  | .leaf _ => false
  | .node k ps => (decide (bound = 1) && decide (k = 1)) || (decide (bound = (many : Int)) && decide (k = (ps.length : Int)))
mutual
def Tr.red : Tr → Prop
  | .leaf _ => True
  | .node k ps => 2 ≤ ps.length ∧ (∀ p ∈ ps, like k ps.length p = false) ∧ redA ps
def redA : List Tr → Prop
  | [] => True
  | p :: r => p.red ∧ redA r
end
theorem okA_iff : ∀ {ps : List Tr}, okA ps ↔ ∀ p ∈ ps, p.ok
  | [] => by simp [okA]
  | p :: r => by simp [okA, okA_iff (ps := r)]
theorem redA_iff : ∀ {ps : List Tr}, redA ps ↔ ∀ p ∈ ps, p.red
  | [] => by simp [redA]
  | p :: r => by simp [redA, redA_iff (ps := r)]
theorem goN_eq (S : Int → Bool) : ∀ ps : List Tr, goN S ps = ps.countP (Tr.go S)
  | [] => by simp [goN]
  | p :: r => by rw [goN, goN_eq S r, List.countP_cons]; omega
theorem btns_eq : ∀ ps : List Tr, btns ps = ps.flatMap Tr.btn
  | [] => by simp [btns]
  | p :: r => by simp [btns, btns_eq r]
theorem mem_btns {x : Int} {ps : List Tr} : x ∈ btns ps ↔ ∃ p ∈ ps, x ∈ p.btn := by rw [btns_eq, List.mem_flatMap]
theorem btns_append (a b : List Tr) : btns (a ++ b) = btns a ++ btns b := by rw [btns_eq, btns_eq, btns_eq, List.flatMap_append]
theorem goN_append (S : Int → Bool) (a b : List Tr) : goN S (a ++ b) = goN S a + goN S b := by rw [goN_eq, goN_eq, goN_eq, List.countP_append]
theorem goN_perm (S : Int → Bool) {a b : List Tr} (h : a.Perm b) : goN S a = goN S b := by rw [goN_eq, goN_eq]; exact h.countP_eq _
theorem btns_perm {a b : List Tr} (h : a.Perm b) : (btns a).Perm (btns b) := by
  rw [btns_eq, btns_eq]; exact h.flatMap_right _
theorem depA_le {n : Nat} : ∀ {ps : List Tr}, depA ps ≤ n ↔ ∀ p ∈ ps, p.dep ≤ n
  | [] => by simp [depA]
  | p :: r => by rw [depA, Nat.max_le, depA_le (ps := r)]; simp
theorem go_node {S : Int → Bool} {k : Int} {ps : List Tr} : (Tr.node k ps).go S = decide (k ≤ ((goN S ps : Nat) : Int)) := by rw [Tr.go]
theorem btn_node {k : Int} {ps : List Tr} : (Tr.node k ps).btn = btns ps := by rw [Tr.btn]
theorem btn_leaf {b : Int} : (Tr.leaf b).btn = [b] := by rw [Tr.btn]
theorem go_leaf {S : Int → Bool} {b : Int} : (Tr.leaf b).go S = S b := by rw [Tr.go]

theorem go_congr {S T : Int → Bool} : ∀ t : Tr, (∀ x ∈ t.btn, S x = T x) → t.go S = t.go T := by
  refine Tr.ind (fun b h => ?_) fun k ps ih h => ?_
  · rw [go_leaf, go_leaf]; exact h b (by simp [btn_leaf])
  · rw [go_node, go_node, goN_eq, goN_eq]
    have e : ps.countP (Tr.go S) = ps.countP (Tr.go T) := by
      refine List.countP_congr fun p hp => ?_
      rw [ih p hp fun x hx => h x (by rw [btn_node, mem_btns]; exact ⟨p, hp, hx⟩)]
    rw [e]
theorem go_mono {S T : Int → Bool} : ∀ t : Tr, (∀ x ∈ t.btn, S x = true → T x = true) → t.go S = true → t.go T = true := by
  refine Tr.ind (fun b h => ?_) fun k ps ih h => ?_
  · rw [go_leaf, go_leaf]; exact h b (by simp [btn_leaf])
  · rw [go_node, go_node, goN_eq, goN_eq, decide_eq_true_eq, decide_eq_true_eq]
    intro hk
    have e : ps.countP (Tr.go S) ≤ ps.countP (Tr.go T) := by
      refine List.countP_mono_left fun p hp => ?_
      exact ih p hp fun x hx => h x (by rw [btn_node, mem_btns]; exact ⟨p, hp, hx⟩)
    omega
theorem goN_full {S : Int → Bool} {ps : List Tr} (h : ∀ p ∈ ps, p.go S = true) : goN S ps = ps.length := by
  rw [goN_eq, List.countP_eq_length]; exact h
theorem goN_empty {S : Int → Bool} {ps : List Tr} (h : ∀ p ∈ ps, p.go S = false) : goN S ps = 0 := by
  rw [goN_eq, List.countP_eq_zero]; intro p hp; rw [h p hp]; decide
theorem goN_le {S : Int → Bool} {ps : List Tr} : goN S ps ≤ ps.length := by rw [goN_eq]; exact List.countP_le_length
theorem go_full {S : Int → Bool} : ∀ t : Tr, t.ok → (∀ x ∈ t.btn, S x = true) → t.go S = true := by
  refine Tr.ind (fun b _ h => ?_) fun k ps ih o h => ?_
  · rw [go_leaf]; exact h b (by simp [btn_leaf])
  · rw [Tr.ok, okA_iff] at o
    rw [go_node, goN_full fun p hp => ih p hp (o.2.2 p hp) fun x hx => h x (by rw [btn_node, mem_btns]; exact ⟨p, hp, hx⟩)]
    exact decide_eq_true o.2.1
theorem go_empty {S : Int → Bool} : ∀ t : Tr, t.ok → (∀ x ∈ t.btn, S x = false) → t.go S = false := by
  refine Tr.ind (fun b _ h => ?_) fun k ps ih o h => ?_
  · rw [go_leaf]; exact h b (by simp [btn_leaf])
  · rw [Tr.ok, okA_iff] at o
    rw [go_node, goN_empty fun p hp => ih p hp (o.2.2 p hp) fun x hx => h x (by rw [btn_node, mem_btns]; exact ⟨p, hp, hx⟩)]
    (exact decide_eq_false (by omega))
theorem btn_ne : ∀ t : Tr, t.ok → t.btn ≠ [] := by
  refine Tr.ind (fun b _ h => by simp [btn_leaf] at h) fun k ps ih o h => ?_
  rw [Tr.ok, okA_iff] at o
  cases ps with
  | nil => have := o.2.1; simp at this; omega
  | cons p r =>
    rw [btn_node, btns] at h
    exact ih p (by simp) (o.2.2 p (by simp)) (List.append_eq_nil_iff.mp h).1

/-! ### a node by a split of its parts: some full, some empty -/
theorem goN_split {S : Int → Bool} {ps C A B : List Tr} (hp : ps.Perm (C ++ (A ++ B))) (hA : ∀ q ∈ A, q.go S = true) (hB : ∀ q ∈ B, q.go S = false) : goN S ps = goN S C + A.length := by
  rw [goN_perm S hp, goN_append, goN_append, goN_full hA, goN_empty hB]; omega

/-! ### the parts that hold a button -/
def pw (ps : List Tr) (b : Int) : Tr := (ps.find? fun p => decide (b ∈ p.btn)).getD (.leaf 0)
def wo (ps : List Tr) (bs : List Int) : List Tr := ps.filter fun p => bs.all fun b => decide (b ∉ p.btn)
theorem pw_cons (p : Tr) (r : List Tr) (b : Int) : pw (p :: r) b = if b ∈ p.btn then p else pw r b := by
  unfold pw; rw [List.find?_cons]
  by_cases h : b ∈ p.btn
  · simp [h]
  · simp [h]
theorem pw_mem {b : Int} : ∀ {ps : List Tr}, b ∈ btns ps → pw ps b ∈ ps ∧ b ∈ (pw ps b).btn
  | [], h => by simp [btns] at h
  | p :: r, h => by
    rw [pw_cons]
    by_cases c : b ∈ p.btn
    · rw [if_pos c]; exact ⟨by simp, c⟩
    · rw [if_neg c]
      have h' : b ∈ btns r := by rw [btns] at h; exact (List.mem_append.mp h).resolve_left c
      exact ⟨List.mem_cons_of_mem _ (pw_mem h').1, (pw_mem h').2⟩
/-- one button's part and the rest -/
theorem split1 {b : Int} : ∀ {ps : List Tr}, (btns ps).Nodup → b ∈ btns ps → ps.Perm (pw ps b :: wo ps [b])
  | [], _, h => by simp [btns] at h
  | p :: r, nd, h => by
    rw [pw_cons]
    rw [btns, List.nodup_append] at nd
    by_cases c : b ∈ p.btn
    · rw [if_pos c]
      have e : wo (p :: r) [b] = r := by
        unfold wo
        rw [List.filter_cons_of_neg (by simp [c])]
        refine List.filter_eq_self.mpr fun q hq => ?_
        have : b ∉ q.btn := fun hb => nd.2.2 b c b (mem_btns.mpr ⟨q, hq, hb⟩) rfl
        simp [this]
      rw [e]
    · rw [if_neg c]
      have h' : b ∈ btns r := by rw [btns] at h; exact (List.mem_append.mp h).resolve_left c
      have e : wo (p :: r) [b] = p :: wo r [b] := by unfold wo; rw [List.filter_cons_of_pos (by simp [c])]
      rw [e]
      exact ((split1 nd.2.1 h').cons p).trans (List.Perm.swap _ _ _)
/-- two buttons in two parts, and the rest -/
theorem split2 {a b : Int} {ps : List Tr} (nd : (btns ps).Nodup) (ha : a ∈ btns ps) (hb : b ∈ btns ps) (hn : b ∉ (pw ps a).btn) : ps.Perm (pw ps a :: pw ps b :: wo ps [a, b]) := by
  have h1 := split1 nd ha
  have nd1 : (btns (pw ps a :: wo ps [a])).Nodup := (btns_perm h1).nodup nd
  have nd2 : (btns (wo ps [a])).Nodup := by rw [btns, List.nodup_append] at nd1; exact nd1.2.1
  have hb1 : b ∈ btns (wo ps [a]) := by
    have := (btns_perm h1).mem_iff.mp hb
    rw [btns, List.mem_append] at this
    exact this.resolve_left hn
  have h2 := split1 nd2 hb1
  have e1 : wo (wo ps [a]) [b] = wo ps [a, b] := by
    unfold wo; rw [List.filter_filter]
    refine List.filter_congr fun q _ => ?_
    simp [Bool.and_comm]
  have e2 : pw (wo ps [a]) b = pw ps b := by
    obtain ⟨m1, m2⟩ := pw_mem hb1
    obtain ⟨n1, n2⟩ := pw_mem hb
    have m3 : pw (wo ps [a]) b ∈ ps := (List.mem_filter.mp m1).1
    -- the one part that holds b
    have uniq : ∀ {l : List Tr}, (btns l).Nodup → ∀ p ∈ l, ∀ q ∈ l, b ∈ p.btn → b ∈ q.btn → p = q := by
      intro l
      induction l with
      | nil => intro _ p hp; cases hp
      | cons c r ih =>
        intro nd p hp q hq h1 h2
        rw [btns, List.nodup_append] at nd
        rcases List.mem_cons.mp hp with e1 | hp
        · rcases List.mem_cons.mp hq with e2 | hq
          · rw [e1, e2]
          · exact absurd rfl (nd.2.2 b (e1 ▸ h1) b (mem_btns.mpr ⟨q, hq, h2⟩))
        · rcases List.mem_cons.mp hq with e2 | hq
          · exact absurd rfl (nd.2.2 b (e2 ▸ h2) b (mem_btns.mpr ⟨p, hp, h1⟩))
          · exact ih nd.2.1 p hp q hq h1 h2
    exact uniq nd _ m3 _ n1 m2 n2
  rw [e1, e2] at h2
  exact h1.trans (h2.cons _)

/-! ### which lots are told -/
def firstB (n : Nat) (ps : List Tr) : List Int := btns (ps.take n)
mutual
def Tr.turn (b : Int) : Tr → List Int
  | .leaf _ => []
  | .node k ps => firstB (k - 1).toNat (wo ps [b]) ++ turnA b ps
def turnA (b : Int) : List Tr → List Int
  | [] => []
  | p :: r => if b ∈ p.btn then p.turn b else turnA b r
end
theorem turnA_eq {b : Int} : ∀ {ps : List Tr}, b ∈ btns ps → turnA b ps = (pw ps b).turn b
  | [], h => by simp [btns] at h
  | p :: r, h => by
    rw [turnA, pw_cons]
    by_cases c : b ∈ p.btn
    · rw [if_pos c, if_pos c]
    · rw [if_neg c, if_neg c]
      rw [btns, List.mem_append] at h
      exact turnA_eq (h.resolve_left c)
structure TurnOk (t : Tr) (b : Int) : Prop where
  sub : ∀ x ∈ t.turn b, x ∈ t.btn ∧ x ≠ b
  nd : (t.turn b).Nodup
  go : ∀ S : Int → Bool, (∀ x ∈ t.btn, x ≠ b → S x = decide (x ∈ t.turn b)) → t.go S = S b
theorem wo_len {ps : List Tr} {b : Int} (nd : (btns ps).Nodup) (h : b ∈ btns ps) : (wo ps [b]).length + 1 = ps.length := by
  have := (split1 nd h).length_eq; simp at this; omega
theorem mem_wo {ps : List Tr} {bs : List Int} {q : Tr} : q ∈ wo ps bs ↔ q ∈ ps ∧ ∀ b ∈ bs, b ∉ q.btn := by
  unfold wo; simp [List.mem_filter, List.all_eq_true]
theorem turn_ok {b : Int} : ∀ t : Tr, t.ok → t.btn.Nodup → b ∈ t.btn → TurnOk t b := by
  refine Tr.ind (fun c _ _ h => ?_) fun k ps ih o nd h => ?_
  · have e : b = c := by simpa [btn_leaf] using h
    subst e
    refine ⟨by simp [Tr.turn], by simp [Tr.turn], fun S _ => by rw [go_leaf]⟩
  · rw [btn_node] at nd h
    rw [Tr.ok, okA_iff] at o
    obtain ⟨m1, m2⟩ := pw_mem h
    have sp := split1 nd h
    have hl := wo_len nd h
    have hsub : ∀ q ∈ (wo ps [b]), q ∈ ps := fun q hq => (mem_wo.mp hq).1
    have ndp := (btns_perm sp).nodup nd
    rw [btns, List.nodup_append] at ndp
    have I := ih _ m1 (o.2.2 _ m1) ndp.1 m2
    have e : (Tr.node k ps).turn b = firstB (k - 1).toNat (wo ps [b]) ++ (pw ps b).turn b := by rw [Tr.turn, turnA_eq h]
    obtain ⟨m, hm⟩ : ∃ m, (k - 1).toNat = m := ⟨_, rfl⟩
    rw [hm] at e
    have et : btns (wo ps [b]) = btns ((wo ps [b]).take m) ++ btns ((wo ps [b]).drop m) := by rw [← btns_append, List.take_append_drop]
    have ndw := ndp.2.1
    rw [et, List.nodup_append] at ndw
    have fw : ∀ x ∈ firstB m (wo ps [b]), x ∈ btns (wo ps [b]) := fun x hx => by rw [et]; exact List.mem_append_left _ hx
    refine ⟨fun x hx => ?_, ?_, fun S hS => ?_⟩
    · rw [e, List.mem_append] at hx
      rw [btn_node]
      rcases hx with hx | hx
      · obtain ⟨q, hq, hxq⟩ := mem_btns.mp (fw x hx)
        exact ⟨mem_btns.mpr ⟨q, hsub q hq, hxq⟩, fun ex => (mem_wo.mp hq).2 b (by simp) (ex ▸ hxq)⟩
      · exact ⟨mem_btns.mpr ⟨_, m1, (I.sub x hx).1⟩, (I.sub x hx).2⟩
    · rw [e, List.nodup_append]
      exact ⟨ndw.1, I.nd, fun x hx y hy exy => ndp.2.2 y (I.sub y hy).1 x (fw x hx) exy.symm⟩
    · rw [btn_node] at hS
      have hS' : ∀ x, x ∈ btns ps → x ≠ b → S x = decide (x ∈ firstB m (wo ps [b]) ++ (pw ps b).turn b) := fun x h1 h2 => by rw [← e]; exact hS x h1 h2
      have gp : (pw ps b).go S = S b := I.go S fun x hx hne => by
        rw [hS' x (mem_btns.mpr ⟨_, m1, hx⟩) hne]
        have : x ∉ firstB m (wo ps [b]) := fun z => ndp.2.2 x hx x (fw x z) rfl
        simp [this]
      have hA : ∀ q ∈ (wo ps [b]).take m, q.go S = true := fun q hq => by
        have hq' := List.mem_of_mem_take hq
        refine go_full q (o.2.2 q (hsub q hq')) fun x hx => ?_
        rw [hS' x (mem_btns.mpr ⟨q, hsub q hq', hx⟩) (fun ex => (mem_wo.mp hq').2 b (by simp) (ex ▸ hx))]
        have : x ∈ firstB m (wo ps [b]) := mem_btns.mpr ⟨q, hq, hx⟩
        simp [this]
      have hB : ∀ q ∈ (wo ps [b]).drop m, q.go S = false := fun q hq => by
        have hq' := List.mem_of_mem_drop hq
        refine go_empty q (o.2.2 q (hsub q hq')) fun x hx => ?_
        rw [hS' x (mem_btns.mpr ⟨q, hsub q hq', hx⟩) (fun ex => (mem_wo.mp hq').2 b (by simp) (ex ▸ hx))]
        have n1 : x ∉ firstB m (wo ps [b]) := fun z => ndw.2.2 x z x (mem_btns.mpr ⟨q, hq, hx⟩) rfl
        have n2 : x ∉ (pw ps b).turn b := fun z => ndp.2.2 x (I.sub x z).1 x (mem_btns.mpr ⟨q, hq', hx⟩) rfl
        simp [n1, n2]
      have gs := goN_split (S := S) (ps := ps) (C := [pw ps b]) (A := (wo ps [b]).take m) (B := (wo ps [b]).drop m) (show ps.Perm ([pw ps b] ++ _) by rw [List.take_append_drop]; exact sp) hA hB
      rw [go_node, gs]
      have hlen : ((wo ps [b]).take m).length = m := by rw [List.length_take]; omega
      rw [hlen]
      have e1 : goN S [pw ps b] = if S b = true then 1 else 0 := by simp [goN, gp]
      rw [e1]
      cases hb : S b
      · simp; omega
      · simp; omega
end K23
namespace K23
/-! ### is a button over another one; which lot shows that it is not -/
mutual
def Tr.over (one other : Int) : Tr → Bool
  | .leaf _ => true
  | .node _ ps => overA one other ps
def overA (one other : Int) : List Tr → Bool
  | [] => false
  | p :: r => if one ∈ p.btn then (if p.isLeaf = true then true else if other ∈ p.btn then p.over one other else false) else overA one other r
end
theorem overA_eq {one other : Int} : ∀ {ps : List Tr}, one ∈ btns ps → overA one other ps = (if (pw ps one).isLeaf = true then true else if other ∈ (pw ps one).btn then (pw ps one).over one other else false)
  | [], h => by simp [btns] at h
  | p :: r, h => by
    rw [overA, pw_cons]
    by_cases c : one ∈ p.btn
    · rw [if_pos c, if_pos c]
    · rw [if_neg c, if_neg c]
      rw [btns, List.mem_append] at h
      exact overA_eq (h.resolve_left c)
def baseL (k : Int) (ps : List Tr) (one other : Int) : List Int :=
  (if (pw ps one).go (fun x => decide (x = one)) = true ∨ k - 1 > ((wo ps [one, other]).length : Int) then (pw ps one).btn.filter (fun x => decide (x ≠ one)) ++ firstB (k - 2).toNat (wo ps [one, other])
    else firstB (k - 1).toNat (wo ps [one, other])) ++ (pw ps other).turn other
mutual
def Tr.wl (one other : Int) : Tr → List Int
  | .leaf _ => []
  | .node k ps => if other ∈ (pw ps one).btn then firstB (k - 1).toNat (wo ps [one]) ++ wlA one other ps else baseL k ps one other
def wlA (one other : Int) : List Tr → List Int
  | [] => []
  | p :: r => if one ∈ p.btn then p.wl one other else wlA one other r
end
theorem wlA_eq {one other : Int} : ∀ {ps : List Tr}, one ∈ btns ps → wlA one other ps = (pw ps one).wl one other
  | [], h => by simp [btns] at h
  | p :: r, h => by
    rw [wlA, pw_cons]
    by_cases c : one ∈ p.btn
    · rw [if_pos c, if_pos c]
    · rw [if_neg c, if_neg c]
      rw [btns, List.mem_append] at h
      exact wlA_eq (h.resolve_left c)

theorem isLeaf_iff {p : Tr} : p.isLeaf = true ↔ ∃ b, p = .leaf b := by
  cases p with
  | leaf b => simp [Tr.isLeaf]
  | node k ps => simp [Tr.isLeaf]

/-- one that is over is no worse -/
theorem over_ok {one other : Int} (hne : one ≠ other) {S T : Int → Bool} (s1 : S one = false) (t1 : T one = true) (t2 : T other = false) :
    ∀ t : Tr, t.btn.Nodup → one ∈ t.btn → other ∈ t.btn → t.over one other = true → (∀ x ∈ t.btn, x ≠ one → x ≠ other → S x = T x) → t.go S = true → t.go T = true := by
  refine Tr.ind (fun c _ h1 h2 => ?_) fun k ps ih nd h1 h2 ho hST hg => ?_
  · rw [btn_leaf, List.mem_singleton] at h1 h2
    exact absurd (h1.trans h2.symm) hne
  · rw [btn_node] at nd h1 h2 hST
    rw [Tr.over, overA_eq h1] at ho
    obtain ⟨m1, m2⟩ := pw_mem h1
    rw [go_node, decide_eq_true_eq] at hg ⊢
    by_cases hin : other ∈ (pw ps one).btn
    · -- both in one part
      have sp := split1 nd h1
      have ndp := (btns_perm sp).nodup nd
      rw [btns, List.nodup_append] at ndp
      have hl : ¬ (pw ps one).isLeaf = true := fun z => by
        obtain ⟨b, hb⟩ := isLeaf_iff.mp z
        rw [hb, btn_leaf, List.mem_singleton] at m2 hin
        exact hne (m2.trans hin.symm)
      rw [if_neg hl, if_pos hin] at ho
      rw [goN_perm S sp, goN] at hg
      rw [goN_perm T sp, goN]
      have e : goN S (wo ps [one]) = goN T (wo ps [one]) := by
        rw [goN_eq, goN_eq]
        refine List.countP_congr fun q hq => ?_
        rw [go_congr q fun x hx => hST x (mem_btns.mpr ⟨q, (mem_wo.mp hq).1, hx⟩) (fun ex => (mem_wo.mp hq).2 one (by simp) (ex ▸ hx)) (fun ex => ndp.2.2 other hin x (mem_btns.mpr ⟨q, hq, hx⟩) ex.symm)]
      have g := ih _ m1 ndp.1 m2 hin ho (fun x hx => hST x (mem_btns.mpr ⟨_, m1, hx⟩))
      rw [e] at hg
      by_cases c : (pw ps one).go S = true
      · rw [if_pos c] at hg; rw [if_pos (g c)]; exact hg
      · rw [if_neg c] at hg
        by_cases d : (pw ps one).go T = true
        · rw [if_pos d]; omega
        · rw [if_neg d]; exact hg
    · have sp := split2 nd h1 h2 hin
      by_cases hl : (pw ps one).isLeaf = true
      · obtain ⟨b, hb⟩ := isLeaf_iff.mp hl
        have eb : one = b := by rw [hb, btn_leaf, List.mem_singleton] at m2; exact m2
        rw [goN_perm S sp, goN, goN] at hg
        rw [goN_perm T sp, goN, goN]
        rw [hb, go_leaf, ← eb, s1] at hg
        rw [hb, go_leaf, ← eb, t1]
        have e : goN S (wo ps [one, other]) = goN T (wo ps [one, other]) := by
          rw [goN_eq, goN_eq]
          refine List.countP_congr fun q hq => ?_
          rw [go_congr q fun x hx => hST x (mem_btns.mpr ⟨q, (mem_wo.mp hq).1, hx⟩) (fun ex => (mem_wo.mp hq).2 one (by simp) (ex ▸ hx)) (fun ex => (mem_wo.mp hq).2 other (by simp) (ex ▸ hx))]
        rw [e] at hg
        rw [if_neg Bool.false_ne_true] at hg
        rw [if_pos rfl]
        split at hg <;> split <;> omega
      · rw [if_neg hl, if_neg hin] at ho
        cases ho

structure WlOk (t : Tr) (one other : Int) : Prop where
  sub : ∀ x ∈ t.wl one other, x ∈ t.btn ∧ x ≠ one ∧ x ≠ other
  nd : (t.wl one other).Nodup
  yes : ∀ S : Int → Bool, (∀ x ∈ t.btn, x ≠ one → x ≠ other → S x = decide (x ∈ t.wl one other)) → S one = false → S other = true → t.go S = true
  no : ∀ S : Int → Bool, (∀ x ∈ t.btn, x ≠ one → x ≠ other → S x = decide (x ∈ t.wl one other)) → S one = true → S other = false → t.go S = false

theorem take_drop_len {ps : List Tr} {m : Nat} (h : m ≤ ps.length) : (ps.take m).length = m := by rw [List.length_take]; omega

/-- some of the parts apart are full, the others empty -/
theorem apart_go {S : Int → Bool} {ap : List Tr} {m : Nat} (ho : ∀ q ∈ ap, q.ok) (h1 : ∀ x ∈ btns (ap.take m), S x = true) (h2 : ∀ x ∈ btns (ap.drop m), S x = false) : goN S ap = (ap.take m).length := by
  rw [← List.take_append_drop m ap, goN_append, goN_full fun q hq => go_full q (ho q (List.mem_of_mem_take hq)) fun x hx => h1 x (mem_btns.mpr ⟨q, hq, hx⟩),
    goN_empty fun q hq => go_empty q (ho q (List.mem_of_mem_drop hq)) fun x hx => h2 x (mem_btns.mpr ⟨q, hq, hx⟩), List.take_append_drop]
  omega

theorem base_ok {k : Int} {ps : List Tr} {one other : Int} (hne : one ≠ other) (o : (Tr.node k ps).ok) (r : (Tr.node k ps).red) (nd : (btns ps).Nodup) (h1 : one ∈ btns ps) (h2 : other ∈ btns ps)
    (hin : other ∉ (pw ps one).btn) (hl : ¬ (pw ps one).isLeaf = true) :
    (∀ x ∈ baseL k ps one other, x ∈ btns ps ∧ x ≠ one ∧ x ≠ other) ∧ (baseL k ps one other).Nodup ∧
    (∀ S : Int → Bool, (∀ x ∈ btns ps, x ≠ one → x ≠ other → S x = decide (x ∈ baseL k ps one other)) → S one = false → S other = true → (Tr.node k ps).go S = true) ∧
    (∀ S : Int → Bool, (∀ x ∈ btns ps, x ≠ one → x ≠ other → S x = decide (x ∈ baseL k ps one other)) → S one = true → S other = false → (Tr.node k ps).go S = false) := by
  rw [Tr.ok, okA_iff] at o
  rw [Tr.red, redA_iff] at r
  obtain ⟨m1, m2⟩ := pw_mem h1
  obtain ⟨n1, n2⟩ := pw_mem h2
  have sp := split2 nd h1 h2 hin
  have ndp := (btns_perm sp).nodup nd
  rw [btns, btns] at ndp
  rw [List.nodup_append, List.nodup_append] at ndp
  obtain ⟨ndM, ⟨ndT, ndA, dTA⟩, dM⟩ := ndp
  have T := turn_ok (pw ps other) (o.2.2 _ n1) ndT n2
  have hlen := sp.length_eq
  (simp only [List.length_cons] at hlen)
  generalize hap : wo ps [one, other] = ap at *
  have aok : ∀ q ∈ ap, q.ok := fun q hq => o.2.2 q (by rw [← hap] at hq; exact (mem_wo.mp hq).1)
  have amem : ∀ q ∈ ap, q ∈ ps := fun q hq => by rw [← hap] at hq; exact (mem_wo.mp hq).1
  have aone : ∀ x ∈ btns ap, x ≠ one := fun x hx => by
    rintro rfl
    obtain ⟨q, hq, hxq⟩ := mem_btns.mp hx
    rw [← hap] at hq
    exact (mem_wo.mp hq).2 x (by simp) hxq
  have aoth : ∀ x ∈ btns ap, x ≠ other := fun x hx => by
    rintro rfl
    obtain ⟨q, hq, hxq⟩ := mem_btns.mp hx
    rw [← hap] at hq
    exact (mem_wo.mp hq).2 x (by simp) hxq
  have ain : ∀ x ∈ btns ap, x ∈ btns ps := fun x hx => by
    obtain ⟨q, hq, hxq⟩ := mem_btns.mp hx
    exact mem_btns.mpr ⟨q, amem q hq, hxq⟩
  have dMA : ∀ x ∈ (pw ps one).btn, x ∉ btns ap := fun x hx hy => dM x hx x (List.mem_append_right _ hy) rfl
  have dMT : ∀ x ∈ (pw ps one).btn, x ∉ (pw ps other).btn := fun x hx hy => dM x hx x (List.mem_append_left _ hy) rfl
  have dTA' : ∀ x ∈ (pw ps other).btn, x ∉ btns ap := fun x hx hy => dTA x hx x hy rfl
  have honeT : one ∉ (pw ps other).btn := dMT one m2
  have asplit : ∀ m : Nat, btns (ap.take m) ++ btns (ap.drop m) = btns ap := fun m => by rw [← btns_append, List.take_append_drop]
  have atake : ∀ m x, x ∈ btns (ap.take m) → x ∈ btns ap := fun m x hx => by rw [← asplit m]; exact List.mem_append_left _ hx
  have adrop : ∀ m x, x ∈ btns (ap.drop m) → x ∈ btns ap ∧ x ∉ btns (ap.take m) := fun m x hx => by
    refine ⟨by rw [← asplit m]; exact List.mem_append_right _ hx, fun hy => ?_⟩
    have := asplit m ▸ ndA
    rw [List.nodup_append] at this
    exact this.2.2 x hy x hx rfl
  have ndtake : ∀ m, (btns (ap.take m)).Nodup := fun m => by
    have := asplit m ▸ ndA
    rw [List.nodup_append] at this
    exact this.1
  -- mine is a trip
  obtain ⟨k', ps', hmine⟩ : ∃ k' ps', pw ps one = .node k' ps' := by
    cases e : pw ps one with
    | leaf b => rw [e] at hl; exact absurd rfl hl
    | node k' ps' => exact ⟨k', ps', rfl⟩
  have mok := o.2.2 _ m1
  have mred := r.2.2 _ m1
  have mlike := r.2.1 _ m1
  rw [hmine, Tr.ok, okA_iff] at mok
  rw [hmine, Tr.red] at mred
  rw [hmine, like, Bool.or_eq_false_iff, Bool.and_eq_false_iff, Bool.and_eq_false_iff, decide_eq_false_iff_not, decide_eq_false_iff_not, decide_eq_false_iff_not, decide_eq_false_iff_not] at mlike
  have h1' : one ∈ btns ps' := by rw [hmine, btn_node] at m2; exact m2
  have ndM' : (btns ps').Nodup := by rw [hmine, btn_node] at ndM; exact ndM
  obtain ⟨q1, q2⟩ := pw_mem h1'
  have spM := split1 ndM' h1'
  have hlenM := spM.length_eq
  simp only [List.length_cons] at hlenM
  have ndp' := (btns_perm spM).nodup ndM'
  rw [btns, List.nodup_append] at ndp'
  -- all of mine but one
  by_cases c : (pw ps one).go (fun x => decide (x = one)) = true ∨ k - 1 > (ap.length : Int)
  · have eL : baseL k ps one other = ((pw ps one).btn.filter (fun x => decide (x ≠ one)) ++ btns (ap.take (k - 2).toNat)) ++ (pw ps other).turn other := by
      unfold baseL firstB
      rw [hap, if_pos c]
    obtain ⟨m, hm⟩ : ∃ m, (k - 2).toNat = m := ⟨_, rfl⟩
    rw [hm] at eL
    have memL : ∀ x, x ∈ baseL k ps one other ↔ (x ∈ (pw ps one).btn ∧ x ≠ one) ∨ x ∈ btns (ap.take m) ∨ x ∈ (pw ps other).turn other := fun x => by
      rw [eL, List.mem_append, List.mem_append, List.mem_filter, decide_eq_true_eq, or_assoc]
    -- mine goes without one
    have gm : ∀ S : Int → Bool, (∀ x ∈ (pw ps one).btn, x ≠ one → S x = true) → (pw ps one).go S = true ∧ 2 ≤ k := fun S hS => by
      rw [hmine, btn_node] at hS
      have rest : ∀ q ∈ wo ps' [one], q.go S = true := fun q hq => by
        obtain ⟨u1, u2⟩ := mem_wo.mp hq
        exact go_full q (mok.2.2 q u1) fun x hx => hS x (mem_btns.mpr ⟨q, u1, hx⟩) fun ex => u2 one (by simp) (ex ▸ hx)
      have g0 : goN S ps' = (if (pw ps' one).go S = true then 1 else 0) + (wo ps' [one]).length := by rw [goN_perm S spM, goN, goN_full rest]
      rcases c with c | c
      · rw [hmine, go_node, decide_eq_true_eq, goN_perm _ spM, goN] at c
        have e0 : goN (fun x => decide (x = one)) (wo ps' [one]) = 0 := goN_empty fun q hq => by
          obtain ⟨u1, u2⟩ := mem_wo.mp hq
          exact go_empty q (mok.2.2 q u1) fun x hx => decide_eq_false fun ex => u2 one (by simp) (ex ▸ hx)
        rw [e0] at c
        have k1 : k' = 1 := by split at c <;> omega
        refine ⟨?_, ?_⟩
        · rw [hmine, go_node, g0]
          refine decide_eq_true ?_
          split <;> omega
        · have := mlike.1
          omega
      · have kk : k = (ps.length : Int) := by omega
        have := mlike.2
        have k2 : k' ≠ (ps'.length : Int) := by rcases this with z | z; exact absurd kk z; exact z
        refine ⟨?_, by omega⟩
        rw [hmine, go_node, g0]
        refine decide_eq_true ?_
        split <;> omega
    have k2 : 2 ≤ k := (gm (fun _ => true) fun _ _ _ => rfl).2
    have hml : m ≤ ap.length := by omega
    have hcount : ∀ S : Int → Bool, (∀ x ∈ btns ps, x ≠ one → x ≠ other → S x = decide (x ∈ baseL k ps one other)) → goN S ps = (if (pw ps one).go S = true then 1 else 0) + ((if S other = true then 1 else 0) + m) := fun S hS => by
      have gt : (pw ps other).go S = S other := T.go S fun x hx hxo => by
        have nx : x ≠ one := fun e => honeT (e ▸ hx)
        rw [hS x (mem_btns.mpr ⟨_, n1, hx⟩) nx hxo]
        have i1 : x ∉ (pw ps one).btn := fun z => dMT x z hx
        have i2 : x ∉ btns (ap.take m) := fun z => dTA' x hx (atake m x z)
        exact decide_eq_decide.mpr (by rw [memL]; simp [i1, i2])
      have ga : goN S ap = m := by
        rw [apart_go (m := m) aok (fun x hx => ?_) fun x hx => ?_, take_drop_len hml]
        · have hx' := atake m x hx
          rw [hS x (ain x hx') (aone x hx') (aoth x hx')]
          exact decide_eq_true ((memL x).mpr (.inr (.inl hx)))
        · obtain ⟨hx', hx2⟩ := adrop m x hx
          rw [hS x (ain x hx') (aone x hx') (aoth x hx')]
          refine decide_eq_false fun z => ?_
          rcases (memL x).mp z with z | z | z
          · exact dMA x z.1 hx'
          · exact hx2 z
          · exact dTA' x (T.sub x z).1 hx'
      rw [goN_perm S sp, goN, goN, ga, gt]
    refine ⟨fun x hx => ?_, ?_, fun S hS s1 s2 => ?_, fun S hS s1 s2 => ?_⟩
    · rcases (memL x).mp hx with z | z | z
      · exact ⟨mem_btns.mpr ⟨_, m1, z.1⟩, z.2, fun e => hin (e ▸ z.1)⟩
      · have z' := atake m x z
        exact ⟨ain x z', aone x z', aoth x z'⟩
      · exact ⟨mem_btns.mpr ⟨_, n1, (T.sub x z).1⟩, fun e => honeT (e ▸ (T.sub x z).1), (T.sub x z).2⟩
    · rw [eL, List.nodup_append, List.nodup_append]
      refine ⟨⟨ndM.filter _, ndtake m, fun x hx y hy e => ?_⟩, T.nd, fun x hx y hy e => ?_⟩
      · subst e
        exact dMA x (List.mem_filter.mp hx).1 (atake m x hy)
      · subst e
        (rcases List.mem_append.mp hx with hx | hx)
        · exact dMT x (List.mem_filter.mp hx).1 (T.sub x hy).1
        · exact dTA' x (T.sub x hy).1 (atake m x hx)
    · have g := (gm S fun x hx hxo => by
        rw [hS x (mem_btns.mpr ⟨_, m1, hx⟩) hxo fun e => hin (e ▸ hx)]
        exact decide_eq_true ((memL x).mpr (.inl ⟨hx, hxo⟩))).1
      rw [go_node, hcount S hS, if_pos g, s2, if_pos rfl]
      (exact decide_eq_true (by omega))
    · rw [go_node, hcount S hS, s2, if_neg Bool.false_ne_true]
      refine decide_eq_false ?_
      split <;> omega
  · have eL : baseL k ps one other = btns (ap.take (k - 1).toNat) ++ (pw ps other).turn other := by
      unfold baseL firstB
      rw [hap, if_neg c]
    obtain ⟨m, hm⟩ : ∃ m, (k - 1).toNat = m := ⟨_, rfl⟩
    rw [hm] at eL
    obtain ⟨c1, c2⟩ := not_or.mp c
    have hml : m ≤ ap.length := by omega
    have memL : ∀ x, x ∈ baseL k ps one other ↔ x ∈ btns (ap.take m) ∨ x ∈ (pw ps other).turn other := fun x => by rw [eL, List.mem_append]
    have hcount : ∀ S : Int → Bool, (∀ x ∈ btns ps, x ≠ one → x ≠ other → S x = decide (x ∈ baseL k ps one other)) → goN S ps = (if (pw ps one).go S = true then 1 else 0) + ((if S other = true then 1 else 0) + m) := fun S hS => by
      have gt : (pw ps other).go S = S other := T.go S fun x hx hxo => by
        have nx : x ≠ one := fun e => honeT (e ▸ hx)
        rw [hS x (mem_btns.mpr ⟨_, n1, hx⟩) nx hxo]
        have i2 : x ∉ btns (ap.take m) := fun z => dTA' x hx (atake m x z)
        exact decide_eq_decide.mpr (by rw [memL]; simp [i2])
      have ga : goN S ap = m := by
        rw [apart_go (m := m) aok (fun x hx => ?_) fun x hx => ?_, take_drop_len hml]
        · have hx' := atake m x hx
          rw [hS x (ain x hx') (aone x hx') (aoth x hx')]
          exact decide_eq_true ((memL x).mpr (.inl hx))
        · obtain ⟨hx', hx2⟩ := adrop m x hx
          rw [hS x (ain x hx') (aone x hx') (aoth x hx')]
          refine decide_eq_false fun z => ?_
          rcases (memL x).mp z with z | z
          · exact hx2 z
          · exact dTA' x (T.sub x z).1 hx'
      rw [goN_perm S sp, goN, goN, ga, gt]
    refine ⟨fun x hx => ?_, ?_, fun S hS s1 s2 => ?_, fun S hS s1 s2 => ?_⟩
    · rcases (memL x).mp hx with z | z
      · have z' := atake m x z
        exact ⟨ain x z', aone x z', aoth x z'⟩
      · exact ⟨mem_btns.mpr ⟨_, n1, (T.sub x z).1⟩, fun e => honeT (e ▸ (T.sub x z).1), (T.sub x z).2⟩
    · rw [eL, List.nodup_append]
      refine ⟨ndtake m, T.nd, fun x hx y hy e => ?_⟩
      subst e
      exact dTA' x (T.sub x hy).1 (atake m x hx)
    · rw [go_node, hcount S hS, s2, if_pos rfl]
      refine decide_eq_true ?_
      split <;> omega
    · have g : (pw ps one).go S = false := by
        rw [go_congr (T := fun x => decide (x = one)) _ fun x hx => ?_]
        · cases e : (pw ps one).go fun x => decide (x = one) with
          | true => exact absurd e c1
          | false => rfl
        · by_cases ex : x = one
          · rw [ex, s1]; exact (decide_eq_true rfl).symm
          · rw [hS x (mem_btns.mpr ⟨_, m1, hx⟩) ex fun e => hin (e ▸ hx), decide_eq_false ex]
            refine decide_eq_false fun z => ?_
            rcases (memL x).mp z with z | z
            · exact dMA x hx (atake m x z)
            · exact dMT x hx (T.sub x z).1
      rw [go_node, hcount S hS, g, s2, if_neg Bool.false_ne_true]
      exact decide_eq_false (by simp; omega)

theorem wl_ok {one other : Int} (hne : one ≠ other) : ∀ t : Tr, t.ok → t.red → t.btn.Nodup → one ∈ t.btn → other ∈ t.btn → t.over one other = false → WlOk t one other := by
  refine Tr.ind (fun c _ _ _ h1 h2 => ?_) fun k ps ih o r nd h1 h2 ho => ?_
  · rw [btn_leaf, List.mem_singleton] at h1 h2
    exact absurd (h1.trans h2.symm) hne
  · rw [btn_node] at nd h1 h2
    rw [Tr.over, overA_eq h1] at ho
    by_cases hl : (pw ps one).isLeaf = true
    · rw [if_pos hl] at ho; cases ho
    rw [if_neg hl] at ho
    by_cases hin : other ∈ (pw ps one).btn
    · rw [if_pos hin] at ho
      have o' := o
      have r' := r
      rw [Tr.ok, okA_iff] at o'
      rw [Tr.red, redA_iff] at r'
      obtain ⟨m1, m2⟩ := pw_mem h1
      have sp := split1 nd h1
      have hlw := wo_len nd h1
      have ndp := (btns_perm sp).nodup nd
      rw [btns, List.nodup_append] at ndp
      have W := ih _ m1 (o'.2.2 _ m1) (r'.2.2 _ m1) ndp.1 m2 hin ho
      have eL : (Tr.node k ps).wl one other = btns ((wo ps [one]).take (k - 1).toNat) ++ (pw ps one).wl one other := by rw [Tr.wl, if_pos hin, wlA_eq h1]; rfl
      obtain ⟨m, hm⟩ : ∃ m, (k - 1).toNat = m := ⟨_, rfl⟩
      rw [hm] at eL
      generalize hap : wo ps [one] = ap at *
      have aok : ∀ q ∈ ap, q.ok := fun q hq => o'.2.2 q (by rw [← hap] at hq; exact (mem_wo.mp hq).1)
      have ain : ∀ x ∈ btns ap, x ∈ btns ps := fun x hx => by
        obtain ⟨q, hq, hxq⟩ := mem_btns.mp hx
        rw [← hap] at hq
        exact mem_btns.mpr ⟨q, (mem_wo.mp hq).1, hxq⟩
      have dP : ∀ x ∈ (pw ps one).btn, x ∉ btns ap := fun x hx hy => ndp.2.2 x hx x hy rfl
      have asplit : ∀ m : Nat, btns (ap.take m) ++ btns (ap.drop m) = btns ap := fun m => by rw [← btns_append, List.take_append_drop]
      have atake : ∀ x, x ∈ btns (ap.take m) → x ∈ btns ap := fun x hx => by rw [← asplit m]; exact List.mem_append_left _ hx
      have ndA := asplit m ▸ ndp.2.1
      rw [List.nodup_append] at ndA
      have memL : ∀ x, x ∈ (Tr.node k ps).wl one other ↔ x ∈ btns (ap.take m) ∨ x ∈ (pw ps one).wl one other := fun x => by rw [eL, List.mem_append]
      have nae : ∀ x ∈ btns ap, x ≠ one ∧ x ≠ other := fun x hx => ⟨fun e => dP one m2 (e ▸ hx), fun e => dP other hin (e ▸ hx)⟩
      have hcount : ∀ S : Int → Bool, (∀ x ∈ btns ps, x ≠ one → x ≠ other → S x = decide (x ∈ (Tr.node k ps).wl one other)) → goN S ps = (if (pw ps one).go S = true then 1 else 0) + m := fun S hS => by
        have ga : goN S ap = m := by
          rw [apart_go (m := m) aok (fun x hx => ?_) fun x hx => ?_, take_drop_len (by have := o'.1; have := o'.2.1; omega)]
          · have hx' := atake x hx
            rw [hS x (ain x hx') (nae x hx').1 (nae x hx').2]
            exact decide_eq_true ((memL x).mpr (.inl hx))
          · have hx' : x ∈ btns ap := by rw [← asplit m]; exact List.mem_append_right _ hx
            rw [hS x (ain x hx') (nae x hx').1 (nae x hx').2]
            refine decide_eq_false fun z => ?_
            rcases (memL x).mp z with z | z
            · exact ndA.2.2 x z x hx rfl
            · exact dP x (W.sub x z).1 hx'
        rw [goN_perm S sp, goN, ga]
      have down : ∀ S : Int → Bool, (∀ x ∈ btns ps, x ≠ one → x ≠ other → S x = decide (x ∈ (Tr.node k ps).wl one other)) → ∀ x ∈ (pw ps one).btn, x ≠ one → x ≠ other → S x = decide (x ∈ (pw ps one).wl one other) := fun S hS x hx e1 e2 => by
        rw [hS x (mem_btns.mpr ⟨_, m1, hx⟩) e1 e2]
        refine decide_eq_decide.mpr ?_
        rw [memL]
        have : x ∉ btns (ap.take m) := fun z => dP x hx (atake x z)
        simp [this]
      have kk := o'.1
      refine ⟨fun x hx => ?_, ?_, fun S hS s1 s2 => ?_, fun S hS s1 s2 => ?_⟩
      · rw [btn_node]
        rcases (memL x).mp hx with z | z
        · have z' := atake x z
          exact ⟨ain x z', (nae x z').1, (nae x z').2⟩
        · exact ⟨mem_btns.mpr ⟨_, m1, (W.sub x z).1⟩, (W.sub x z).2⟩
      · rw [eL, List.nodup_append]
        exact ⟨ndA.1, W.nd, fun x hx y hy e => dP y (W.sub y hy).1 (e ▸ atake x hx)⟩
      · rw [btn_node] at hS
        rw [go_node, hcount S hS, if_pos (W.yes S (down S hS) s1 s2)]
        (exact decide_eq_true (by omega))
      · rw [btn_node] at hS
        rw [go_node, hcount S hS, W.no S (down S hS) s1 s2, if_neg Bool.false_ne_true]
        (exact decide_eq_false (by omega))
    · obtain ⟨b1, b2, b3, b4⟩ := base_ok hne o r nd h1 h2 hin hl
      have eL : (Tr.node k ps).wl one other = baseL k ps one other := by rw [Tr.wl, if_neg hin]
      exact ⟨by rw [eL, btn_node]; exact b1, by rw [eL]; exact b2, by rw [eL, btn_node]; exact b3, by rw [eL, btn_node]; exact b4⟩
end K23
namespace K23
/-! ### the reduced tree that is alike: told (parts put in order by srt) and the law's own -/
def flat (bound : Int) (many : Nat) (ps : List Tr) : List Tr := ps.flatMap fun p => if like bound many p = true then p.parts else [p]
def mk (srt : List Tr → List Tr) (bound : Int) (ps : List Tr) : Tr :=
  if ps.length = 1 then (ps[0]?).getD (.leaf 0) else .node (if bound = (ps.length : Int) then ((flat bound ps.length ps).length : Int) else bound) (srt (flat bound ps.length ps))
mutual
def Tr.norm (srt : List Tr → List Tr) : Tr → Tr
  | .leaf b => .leaf b
  | .node k ps => mk srt k (normA srt ps)
def normA (srt : List Tr → List Tr) : List Tr → List Tr
  | [] => []
  | p :: r => p.norm srt :: normA srt r
end
theorem normA_eq (srt : List Tr → List Tr) : ∀ ps : List Tr, normA srt ps = ps.map (Tr.norm srt)
  | [] => by simp [normA]
  | p :: r => by simp [normA, normA_eq srt r]
structure NormOk (t u : Tr) : Prop where
  ok : u.ok
  red : u.red
  btn : u.btn.Perm t.btn
  go : ∀ S, u.go S = t.go S
  dep : u.dep ≤ t.dep
theorem btns_flatMap (f : Tr → List Tr) : ∀ ps : List Tr, btns (ps.flatMap f) = ps.flatMap fun p => btns (f p)
  | [] => by simp [btns]
  | p :: r => by rw [List.flatMap_cons, btns_append, btns_flatMap f r, List.flatMap_cons]
theorem goN_flatMap (S : Int → Bool) (f : Tr → List Tr) : ∀ ps : List Tr, goN S (ps.flatMap f) = (ps.map fun p => goN S (f p)).sum
  | [] => by simp [goN]
  | p :: r => by rw [List.flatMap_cons, goN_append, goN_flatMap S f r, List.map_cons, List.sum_cons]
theorem like_one {p : Tr} {n : Nat} (hn : 2 ≤ n) : like 1 n p = true ↔ ∃ ps, p = .node 1 ps := by
  cases p with
  | leaf b => simp [like]
  | node k ps =>
    have : ¬ (1 : Int) = (n : Int) := by omega
    simp [like, this]
theorem like_all {p : Tr} {n : Nat} (hn : 2 ≤ n) : like (n : Int) n p = true ↔ ∃ k ps, p = .node k ps ∧ k = (ps.length : Int) := by
  cases p with
  | leaf b => simp [like]
  | node k ps =>
    have : ¬ (n : Int) = 1 := by omega
    simp only [like, this, decide_false, Bool.false_and, decide_true, Bool.true_and, Bool.false_or, decide_eq_true_eq]
    exact ⟨fun h => ⟨k, ps, rfl, h⟩, fun ⟨k2, ps2, e, h⟩ => by cases e; exact h⟩
theorem like_no {p : Tr} {n : Nat} {k : Int} (h1 : k ≠ 1) (h2 : k ≠ (n : Int)) : like k n p = false := by
  cases p with
  | leaf b => simp [like]
  | node k' ps => simp [like, h1, h2]
theorem btns_flat (bound : Int) (many : Nat) (ps : List Tr) : btns (flat bound many ps) = btns ps := by
  unfold flat
  rw [btns_flatMap, btns_eq]
  congr 1
  funext p
  split
  · cases p with
    | leaf b => rename_i h; simp [like] at h
    | node k qs => rw [Tr.parts, btn_node]
  · simp [btns]
theorem mem_flat {bound : Int} {many : Nat} {ps : List Tr} {x : Tr} (h : x ∈ flat bound many ps) : (x ∈ ps ∧ like bound many x = false) ∨ ∃ k qs, Tr.node k qs ∈ ps ∧ like bound many (.node k qs) = true ∧ x ∈ qs := by
  obtain ⟨p, hp, hx⟩ := List.mem_flatMap.mp h
  split at hx
  · rename_i c
    cases p with
    | leaf b => simp [like] at c
    | node k qs => exact .inr ⟨k, qs, hp, c, hx⟩
  · rename_i c
    rw [List.mem_singleton] at hx
    subst hx
    exact .inl ⟨hp, by simpa using c⟩
theorem parts_len {p : Tr} (h : p.red) (hl : p.isLeaf = false) : 2 ≤ p.parts.length := by
  cases p with
  | leaf b => simp [Tr.isLeaf] at hl
  | node k ps => rw [Tr.red] at h; exact h.1
theorem flat_len {bound : Int} {many : Nat} : ∀ {ps : List Tr}, (∀ p ∈ ps, p.red) → ps.length ≤ (flat bound many ps).length
  | [], _ => by simp
  | p :: r, h => by
    have ih := flat_len (bound := bound) (many := many) (ps := r) fun q hq => h q (by simp [hq])
    have e : flat bound many (p :: r) = (if like bound many p = true then p.parts else [p]) ++ flat bound many r := by unfold flat; rw [List.flatMap_cons]
    (rw [e, List.length_append, List.length_cons])
    have : 1 ≤ (if like bound many p = true then p.parts else [p]).length := by
      split
      · rename_i c
        have := parts_len (h p (by simp)) (by cases p with | leaf b => simp [like] at c | node k ps => rfl)
        omega
      · simp
    omega
theorem goN_pos {S : Int → Bool} {ps : List Tr} : 1 ≤ goN S ps ↔ ∃ p ∈ ps, p.go S = true := by
  rw [goN_eq]
  show 0 < _ ↔ _
  rw [List.countP_pos_iff]
theorem goN_all {S : Int → Bool} {ps : List Tr} : ps.length ≤ goN S ps ↔ ∀ p ∈ ps, p.go S = true := by
  constructor
  · intro h
    have e : ps.countP (Tr.go S) = ps.length := by have := goN_le (S := S) (ps := ps); rw [goN_eq] at this h; omega
    exact List.countP_eq_length.mp e
  · intro h; rw [goN_full h]; exact Nat.le_refl _

theorem mk_ok {srt : List Tr → List Tr} (hs : ∀ l, (srt l).Perm l) {k : Int} {qs : List Tr} (hk : 1 ≤ k) (hk2 : k ≤ (qs.length : Int)) (ho : ∀ q ∈ qs, q.ok) (hr : ∀ q ∈ qs, q.red) : NormOk (.node k qs) (mk srt k qs) := by
  unfold mk
  by_cases h1 : qs.length = 1
  · rw [if_pos h1]
    obtain ⟨q, rfl⟩ : ∃ q, qs = [q] := List.length_eq_one_iff.mp h1
    have ek : k = 1 := by simp at hk2; omega
    subst ek
    show NormOk _ q
    refine ⟨ho q (by simp), hr q (by simp), by rw [btn_node]; simp [btns], fun S => ?_, by rw [Tr.dep, depA, depA]; omega⟩
    rw [go_node, goN, goN]
    cases q.go S <;> simp
  · rw [if_neg h1]
    have hn : 2 ≤ qs.length := by omega
    have fl := flat_len (bound := k) (many := qs.length) hr
    have hp := hs (flat k qs.length qs)
    have hpl := hp.length_eq
    -- what holds of each flattened part
    have fok : ∀ x ∈ flat k qs.length qs, x.ok ∧ x.red ∧ x.dep ≤ depA qs := fun x hx => by
      rcases mem_flat hx with ⟨h, _⟩ | ⟨k', ps', h, _, hm⟩
      · exact ⟨ho x h, hr x h, depA_le.mp (Nat.le_refl _) x h⟩
      · have o' := ho _ h
        have r' := hr _ h
        rw [Tr.ok, okA_iff] at o'
        rw [Tr.red, redA_iff] at r'
        have d := depA_le.mp (Nat.le_refl (depA qs)) _ h
        rw [Tr.dep] at d
        have d2 := depA_le.mp (Nat.le_refl (depA ps')) x hm
        exact ⟨o'.2.2 x hm, r'.2.2 x hm, by omega⟩
    generalize hfl : flat k qs.length qs = F at *
    have sok : ∀ x ∈ srt F, x.ok ∧ x.red ∧ x.dep ≤ depA qs := fun x hx => fok x (hp.mem_iff.mp hx)
    have dd : ∀ kk : Int, (Tr.node kk (srt F)).dep ≤ (Tr.node k qs).dep := fun kk => by
      rw [Tr.dep, Tr.dep]
      have := (depA_le (n := depA qs) (ps := srt F)).mpr fun x hx => (sok x hx).2.2
      omega
    have bb : ∀ kk : Int, (Tr.node kk (srt F)).btn.Perm (Tr.node k qs).btn := fun kk => by
      rw [btn_node, btn_node]
      refine (btns_perm hp).trans ?_
      rw [← hfl, btns_flat]
    have oo : ∀ kk : Int, 1 ≤ kk → kk ≤ (F.length : Int) → (Tr.node kk (srt F)).ok := fun kk a b => by
      rw [Tr.ok, okA_iff]
      exact ⟨a, by omega, fun x hx => (sok x hx).1⟩
    have rr : ∀ kk : Int, (∀ x ∈ F, like kk F.length x = false) → (Tr.node kk (srt F)).red := fun kk a => by
      rw [Tr.red, redA_iff, hpl]
      exact ⟨by omega, fun x hx => a x (hp.mem_iff.mp hx), fun x hx => (sok x hx).2.1⟩
    have gg : ∀ kk : Int, ∀ S, (Tr.node kk (srt F)).go S = decide (kk ≤ ((goN S F : Nat) : Int)) := fun kk S => by rw [go_node, goN_perm S hp]
    by_cases ka : k = (qs.length : Int)
    · rw [if_pos ka]
      refine ⟨oo _ (by omega) (by omega), rr _ fun x hx => ?_, bb _, fun S => ?_, dd _⟩
      · have hF2 : 2 ≤ F.length := by omega
        cases hc : like (F.length : Int) F.length x with
        | false => rfl
        | true =>
          obtain ⟨k', ps', rfl, ek⟩ := (like_all hF2).mp hc
          rw [← hfl] at hx
          rcases mem_flat hx with ⟨_, h⟩ | ⟨k2, ps2, h, hl, hm⟩
          · rw [ka] at h
            rw [(like_all hn).mpr ⟨k', ps', rfl, ek⟩] at h
            cases h
          · rw [ka] at hl
            obtain ⟨k3, ps3, e3, ek3⟩ := (like_all hn).mp hl
            cases e3
            have r' := hr _ h
            rw [Tr.red] at r'
            have q := r'.2.1 _ hm
            rw [ek3] at q
            rw [(like_all r'.1).mpr ⟨k', ps', rfl, ek⟩] at q
            cases q
      · rw [gg, go_node]
        refine decide_eq_decide.mpr ?_
        have a1 : ((F.length : Int) ≤ ((goN S F : Nat) : Int)) ↔ ∀ p ∈ F, p.go S = true := by rw [← goN_all]; omega
        have a2 : (k ≤ ((goN S qs : Nat) : Int)) ↔ ∀ p ∈ qs, p.go S = true := by rw [← goN_all]; omega
        rw [a1, a2, ← hfl]
        have each : ∀ p ∈ qs, (p.go S = true ↔ ∀ x ∈ (if like k qs.length p = true then p.parts else [p]), x.go S = true) := fun p hp => by
          split
          · rename_i c
            rw [ka] at c
            obtain ⟨k3, ps3, rfl, ek3⟩ := (like_all hn).mp c
            rw [Tr.parts, go_node, decide_eq_true_eq, ← goN_all]
            omega
          · simp
        unfold flat
        constructor
        · intro h p hp
          exact (each p hp).mpr fun x hx => h x (List.mem_flatMap.mpr ⟨p, hp, hx⟩)
        · intro h x hx
          obtain ⟨p, hp, hx⟩ := List.mem_flatMap.mp hx
          exact (each p hp).mp (h p hp) x hx
    · rw [if_neg ka]
      by_cases k1 : k = 1
      · subst k1
        refine ⟨oo _ (by omega) (by omega), rr _ fun x hx => ?_, bb _, fun S => ?_, dd _⟩
        · have hF2 : 2 ≤ F.length := by omega
          cases hc : like 1 F.length x with
          | false => rfl
          | true =>
            obtain ⟨ps', rfl⟩ := (like_one hF2).mp hc
            rw [← hfl] at hx
            rcases mem_flat hx with ⟨_, h⟩ | ⟨k2, ps2, h, hl, hm⟩
            · rw [(like_one hn).mpr ⟨ps', rfl⟩] at h
              cases h
            · obtain ⟨ps3, e3⟩ := (like_one hn).mp hl
              cases e3
              have r' := hr _ h
              rw [Tr.red] at r'
              have q := r'.2.1 _ hm
              rw [(like_one r'.1).mpr ⟨ps', rfl⟩] at q
              cases q
        · rw [gg, go_node]
          refine decide_eq_decide.mpr ?_
          have a1 : ((1 : Int) ≤ ((goN S F : Nat) : Int)) ↔ ∃ p ∈ F, p.go S = true := by rw [← goN_pos]; omega
          have a2 : ((1 : Int) ≤ ((goN S qs : Nat) : Int)) ↔ ∃ p ∈ qs, p.go S = true := by rw [← goN_pos]; omega
          rw [a1, a2, ← hfl]
          have each : ∀ p ∈ qs, (p.go S = true ↔ ∃ x ∈ (if like 1 qs.length p = true then p.parts else [p]), x.go S = true) := fun p hp => by
            split
            · rename_i c
              obtain ⟨ps3, rfl⟩ := (like_one hn).mp c
              rw [Tr.parts, go_node, decide_eq_true_eq, ← goN_pos]
              omega
            · simp
          unfold flat
          constructor
          · rintro ⟨x, hx, hg⟩
            obtain ⟨p, hp, hx⟩ := List.mem_flatMap.mp hx
            exact ⟨p, hp, (each p hp).mpr ⟨x, hx, hg⟩⟩
          · rintro ⟨p, hp, hg⟩
            obtain ⟨x, hx, hgx⟩ := (each p hp).mp hg
            exact ⟨x, List.mem_flatMap.mpr ⟨p, hp, hx⟩, hgx⟩
      · have hF : F = qs := by
          rw [← hfl]
          unfold flat
          have : (qs.flatMap fun p => if like k qs.length p = true then p.parts else [p]) = qs.flatMap fun p => [p] := by
            congr 1
            funext p
            rw [like_no k1 ka, if_neg Bool.false_ne_true]
          rw [this]
          simp
        subst hF
        exact ⟨oo _ hk hk2, rr _ fun x _ => like_no k1 ka, bb _, fun S => by rw [gg, go_node], dd _⟩
theorem norm_ok {srt : List Tr → List Tr} (hs : ∀ l, (srt l).Perm l) : ∀ t : Tr, t.ok → NormOk t (t.norm srt) := by
  refine Tr.ind (fun b _ => ?_) fun k ps ih o => ?_
  · rw [Tr.norm]
    exact ⟨by simp [Tr.ok], by simp [Tr.red], List.Perm.refl _, fun _ => rfl, Nat.le_refl _⟩
  · rw [Tr.ok, okA_iff] at o
    rw [Tr.norm, normA_eq]
    have I : ∀ p ∈ ps, NormOk p (p.norm srt) := fun p hp => ih p hp (o.2.2 p hp)
    have M := mk_ok hs (k := k) (qs := ps.map (Tr.norm srt)) o.1 (by rw [List.length_map]; exact o.2.1) (fun q hq => by
      (obtain ⟨p, hp, rfl⟩ := List.mem_map.mp hq)
      exact (I p hp).ok) (fun q hq => by
      (obtain ⟨p, hp, rfl⟩ := List.mem_map.mp hq)
      exact (I p hp).red)
    refine ⟨M.ok, M.red, M.btn.trans ?_, fun S => ?_, Nat.le_trans M.dep ?_⟩
    · rw [btn_node, btn_node]
      clear M o ih
      induction ps with
      | nil => exact List.Perm.refl _
      | cons p r ihr =>
        rw [List.map_cons, btns, btns]
        exact (I p (by simp)).btn.append (ihr fun q hq => I q (by simp [hq]))
    · rw [M.go, go_node, go_node]
      have e : goN S (ps.map (Tr.norm srt)) = goN S ps := by
        rw [goN_eq, goN_eq, List.countP_map]
        exact List.countP_congr fun p hp => by rw [Function.comp, (I p hp).go]
      rw [e]
    · rw [Tr.dep, Tr.dep]
      have : depA (ps.map (Tr.norm srt)) ≤ depA ps := depA_le.mpr fun q hq => by
        (obtain ⟨p, hp, rfl⟩ := List.mem_map.mp hq)
        exact Nat.le_trans (I p hp).dep (depA_le.mp (Nat.le_refl _) p hp)
      omega

/-! ### no worse, by all lots; it is what 'over' tells, in each reduced tree that is alike -/
def NoWorse (t : Tr) (one other : Int) : Prop :=
  ∀ S : Int → Bool, S one = false → S other = false → t.go (fun x => S x || decide (x = other)) = true → t.go (fun x => S x || decide (x = one)) = true
theorem over_iff {t u : Tr} {one other : Int} (N : NormOk t u) (nd : t.btn.Nodup) (hne : one ≠ other) (h1 : one ∈ t.btn) (h2 : other ∈ t.btn) : u.over one other = true ↔ NoWorse t one other := by
  have nd' := N.btn.symm.nodup nd
  have h1' := N.btn.mem_iff.mpr h1
  have h2' := N.btn.mem_iff.mpr h2
  constructor
  · intro h S s1 s2 hg
    rw [← N.go] at hg ⊢
    refine over_ok hne (S := fun x => S x || decide (x = other)) (by simp [s1, hne]) (by simp) (by simp [s2, Ne.symm hne]) u nd' h1' h2' h (fun x _ e1 e2 => by simp [e1, e2]) hg
  · intro h
    cases c : u.over one other with
    | true => rfl
    | false =>
      have W := wl_ok hne u N.ok N.red nd' h1' h2' c
      have n1 : one ∉ u.wl one other := fun z => (W.sub one z).2.1 rfl
      have n2 : other ∉ u.wl one other := fun z => (W.sub other z).2.2 rfl
      have g1 := W.yes (fun x => decide (x ∈ u.wl one other) || decide (x = other)) (fun x _ e1 e2 => by simp [e2]) (by simp [n1, hne]) (by simp)
      have g2 := W.no (fun x => decide (x ∈ u.wl one other) || decide (x = one)) (fun x _ e1 e2 => by simp [e1]) (by simp) (by simp [n2, Ne.symm hne])
      rw [N.go] at g1 g2
      have := h (fun x => decide (x ∈ u.wl one other)) (by simp [n1]) (by simp [n2]) g1
      rw [g2] at this
      cases this
theorem over_same {t u v : Tr} {one other : Int} (N : NormOk t u) (M : NormOk t v) (nd : t.btn.Nodup) (hne : one ≠ other) (h1 : one ∈ t.btn) (h2 : other ∈ t.btn) : u.over one other = v.over one other := by
  have := (over_iff N nd hne h1 h2).trans (over_iff M nd hne h1 h2).symm
  cases a : u.over one other <;> cases b : v.over one other <;> simp_all
end K23
namespace K23
/-! ### all lots of a row, by the binary places of their numbers -/
theorem snoc_ind {P : List Int → Prop} (h0 : P []) (hs : ∀ l a, P l → P (l ++ [a])) (l : List Int) : P l := by
  have h : ∀ r : List Int, P r.reverse := by
    intro r
    induction r with
    | nil => exact h0
    | cons a r ih => rw [List.reverse_cons]; exact hs _ _ ih
  have := h l.reverse
  rwa [List.reverse_reverse] at this
def everyL (row : List Int) : List (List Int) := row.foldl (fun f b => f ++ f.map fun L => L ++ [b]) [[]]
theorem every_snoc (row : List Int) (b : Int) : everyL (row ++ [b]) = everyL row ++ (everyL row).map fun L => L ++ [b] := by
  unfold everyL; rw [List.foldl_append]; rfl
theorem every_len (row : List Int) : (everyL row).length = 2 ^ row.length := by
  refine snoc_ind (P := fun row => (everyL row).length = 2 ^ row.length) rfl (fun l a ih => ?_) row
  rw [every_snoc, List.length_append, List.length_map, ih, List.length_append]
  simp [Nat.pow_succ]; omega
def ev (row : List Int) (i : Nat) : List Int := (everyL row).getD i []
theorem ev_get {row : List Int} {i : Nat} (h : i < 2 ^ row.length) : (everyL row)[i]? = some (ev row i) := by
  unfold ev
  rw [← every_len] at h
  (rw [List.getD_eq_getElem?_getD, List.getElem?_eq_getElem h]; rfl)
theorem ev_low {row : List Int} {b : Int} {i : Nat} (h : i < 2 ^ row.length) : ev (row ++ [b]) i = ev row i := by
  unfold ev
  rw [← every_len] at h
  rw [every_snoc, List.getD_eq_getElem?_getD, List.getD_eq_getElem?_getD, List.getElem?_append_left h]
theorem ev_high {row : List Int} {b : Int} {i : Nat} (h : i < 2 ^ row.length) : ev (row ++ [b]) (2 ^ row.length + i) = ev row i ++ [b] := by
  unfold ev
  have h' := h
  rw [← every_len] at h
  rw [every_snoc, List.getD_eq_getElem?_getD, List.getD_eq_getElem?_getD, List.getElem?_append_right (by rw [every_len]; omega), every_len, Nat.add_sub_cancel_left, List.getElem?_map, List.getElem?_eq_getElem h]
  rfl
theorem cut_pow {n i : Nat} (h : i < 2 ^ (n + 1)) : i < 2 ^ n ∨ ∃ r, r < 2 ^ n ∧ i = 2 ^ n + r := by
  by_cases c : i < 2 ^ n
  · exact .inl c
  · exact .inr ⟨i - 2 ^ n, by rw [Nat.pow_succ] at h; omega, by omega⟩
/-- a lower place of 2^n + r is that of r -/
theorem bit_low {n j r : Nat} (h : j < n) : (2 ^ n + r) / 2 ^ j % 2 = r / 2 ^ j % 2 := by
  obtain ⟨d, rfl⟩ : ∃ d, n = j + 1 + d := ⟨n - (j + 1), by omega⟩
  have e : 2 ^ (j + 1 + d) + r = r + 2 ^ j * (2 * 2 ^ d) := by rw [Nat.pow_add, Nat.pow_succ, Nat.mul_assoc]; omega
  rw [e, Nat.add_mul_div_left _ _ (Nat.two_pow_pos j)]
  omega
theorem ev_sub : ∀ (row : List Int) (i : Nat), i < 2 ^ row.length → ∀ x ∈ ev row i, x ∈ row := by
  refine snoc_ind (fun i h x hx => ?_) fun l a ih i h x hx => ?_
  · have e : i = 0 := by simpa using h
    subst e
    simp [ev, everyL] at hx
  · rw [List.length_append] at h
    rcases cut_pow h with c | ⟨r, c, rfl⟩
    · rw [ev_low c] at hx
      exact List.mem_append_left _ (ih i c x hx)
    · rw [ev_high c] at hx
      rcases List.mem_append.mp hx with z | z
      · exact List.mem_append_left _ (ih r c x z)
      · exact List.mem_append_right _ z
theorem ev_mem : ∀ (row : List Int), row.Nodup → ∀ (i j : Nat) (x : Int), i < 2 ^ row.length → row[j]? = some x → (x ∈ ev row i ↔ i / 2 ^ j % 2 = 1) := by
  refine snoc_ind (fun _ i j x _ hj => by simp at hj) fun l a ih nd i j x h hj => ?_
  rw [List.nodup_append] at nd
  rw [List.length_append] at h
  have hjl : j < l.length + 1 := by have := (List.getElem?_eq_some_iff.mp hj).1; simpa using this
  by_cases c : j < l.length
  · rw [List.getElem?_append_left c] at hj
    have xl : x ∈ l := List.mem_of_getElem? hj
    rcases cut_pow h with c2 | ⟨r, c2, rfl⟩
    · rw [ev_low c2]; exact ih nd.1 i j x c2 hj
    · rw [ev_high c2, bit_low c, List.mem_append, ih nd.1 r j x c2 hj]
      have : ¬ x ∈ [a] := fun z => nd.2.2 x xl x z rfl
      simp [this]
  · have ej : j = l.length := by omega
    subst ej
    rw [List.getElem?_append_right (Nat.le_refl _), Nat.sub_self] at hj
    have ex : a = x := by simpa using hj
    subst ex
    have hna : a ∉ l := fun z => nd.2.2 a z a (by simp) rfl
    rcases cut_pow h with c2 | ⟨r, c2, rfl⟩
    · rw [ev_low c2, Nat.div_eq_of_lt c2]
      exact ⟨fun z => absurd (ev_sub l i c2 a z) hna, fun z => by cases z⟩
    · rw [ev_high c2]
      have e : (2 ^ l.length + r) / 2 ^ l.length = 1 := by
        rw [Nat.add_div_left _ (Nat.two_pow_pos _), Nat.div_eq_of_lt c2]
      rw [e]
      simp
theorem ev_add : ∀ (row : List Int) (i j : Nat) (x : Int), i < 2 ^ row.length → row[j]? = some x → i / 2 ^ j % 2 = 0 → i + 2 ^ j < 2 ^ row.length ∧ ∀ y, y ∈ ev row (i + 2 ^ j) ↔ y ∈ ev row i ∨ y = x := by
  refine snoc_ind (fun i j x _ hj => by simp at hj) fun l a ih i j x h hj h0 => ?_
  have hl : (l ++ [a]).length = l.length + 1 := by simp
  rw [hl] at h ⊢
  have hjl : j < l.length + 1 := by have := (List.getElem?_eq_some_iff.mp hj).1; simpa using this
  by_cases c : j < l.length
  · rw [List.getElem?_append_left c] at hj
    rcases cut_pow h with c2 | ⟨r, c2, rfl⟩
    · obtain ⟨a1, a2⟩ := ih i j x c2 hj h0
      refine ⟨by rw [Nat.pow_succ]; omega, fun y => ?_⟩
      rw [ev_low a1, ev_low c2]
      exact a2 y
    · rw [bit_low c] at h0
      obtain ⟨a1, a2⟩ := ih r j x c2 hj h0
      refine ⟨by rw [Nat.pow_succ]; omega, fun y => ?_⟩
      rw [Nat.add_assoc, ev_high a1, ev_high c2, List.mem_append, List.mem_append, a2]
      exact or_right_comm
  · have ej : j = l.length := by omega
    subst ej
    rw [List.getElem?_append_right (Nat.le_refl _), Nat.sub_self] at hj
    have ex : a = x := by simpa using hj
    subst ex
    rcases cut_pow h with c2 | ⟨r, c2, rfl⟩
    · refine ⟨by rw [Nat.pow_succ]; omega, fun y => ?_⟩
      rw [Nat.add_comm i, ev_high c2, ev_low c2, List.mem_append, List.mem_singleton]
    · have e : (2 ^ l.length + r) / 2 ^ l.length = 1 := by
        rw [Nat.add_div_left _ (Nat.two_pow_pos _), Nat.div_eq_of_lt c2]
      rw [e] at h0
      cases h0
theorem ev_any (S : Int → Bool) : ∀ row : List Int, row.Nodup → ∃ i, i < 2 ^ row.length ∧ ∀ x ∈ row, (x ∈ ev row i ↔ S x = true) := by
  refine snoc_ind (fun _ => ⟨0, by simp, by simp⟩) fun l a ih nd => ?_
  rw [List.nodup_append] at nd
  obtain ⟨i, h, hi⟩ := ih nd.1
  have hna : a ∉ l := fun z => nd.2.2 a z a (by simp) rfl
  rw [List.length_append]
  cases c : S a with
  | false =>
    refine ⟨i, by simp [Nat.pow_succ]; omega, fun x hx => ?_⟩
    rw [ev_low h]
    rcases List.mem_append.mp hx with z | z
    · exact hi x z
    · rw [List.mem_singleton] at z
      subst z
      rw [c]
      exact ⟨fun z => absurd (ev_sub l i h x z) hna, fun z => by cases z⟩
  | true =>
    refine ⟨2 ^ l.length + i, by simp [Nat.pow_succ]; omega, fun x hx => ?_⟩
    rw [ev_high h, List.mem_append]
    rcases List.mem_append.mp hx with z | z
    · have : ¬ x ∈ [a] := fun q => nd.2.2 x z x q rfl
      simp only [this, or_false]
      exact hi x z
    · rw [List.mem_singleton] at z
      subst z
      rw [c]
      simp
def word (t : Tr) (row : List Int) (i : Nat) : Bool := t.go fun x => decide (x ∈ ev row i)
/-- the law's table by all lots tells what no worse is -/
theorem table_iff {t : Tr} {row : List Int} (nd : row.Nodup) (hp : ∀ x, x ∈ t.btn ↔ x ∈ row) {i j : Nat} {one other : Int} (hi : row[i]? = some one) (hj : row[j]? = some other) (hne : one ≠ other) :
    (∀ a, a < 2 ^ row.length → a / 2 ^ i % 2 = 0 → a / 2 ^ j % 2 = 0 → word t row (a + 2 ^ j) = true → word t row (a + 2 ^ i) = true) ↔ NoWorse t one other := by
  constructor
  · intro h S s1 s2 hg
    obtain ⟨a, ha, hS⟩ := ev_any S row nd
    have m1 := List.mem_of_getElem? hi
    have m2 := List.mem_of_getElem? hj
    have b1 : a / 2 ^ i % 2 = 0 := by
      have := (not_congr (ev_mem row nd a i one ha hi)).mp (by rw [hS one m1, s1]; decide)
      omega
    have b2 : a / 2 ^ j % 2 = 0 := by
      have := (not_congr (ev_mem row nd a j other ha hj)).mp (by rw [hS other m2, s2]; decide)
      omega
    obtain ⟨_, e1⟩ := ev_add row a i one ha hi b1
    obtain ⟨_, e2⟩ := ev_add row a j other ha hj b2
    have w2 : word t row (a + 2 ^ j) = t.go fun x => S x || decide (x = other) := by
      refine go_congr t fun x hx => ?_
      have := hS x ((hp x).mp hx)
      rw [Bool.eq_iff_iff]
      simp [e2, this]
    have w1 : word t row (a + 2 ^ i) = t.go fun x => S x || decide (x = one) := by
      refine go_congr t fun x hx => ?_
      have := hS x ((hp x).mp hx)
      rw [Bool.eq_iff_iff]
      simp [e1, this]
    rw [← w1]
    exact h a ha b1 b2 (by rw [w2]; exact hg)
  · intro h a ha b1 b2 hw
    obtain ⟨_, e1⟩ := ev_add row a i one ha hi b1
    obtain ⟨_, e2⟩ := ev_add row a j other ha hj b2
    have n1 : one ∉ ev row a := fun z => by rw [ev_mem row nd a i one ha hi] at z; omega
    have n2 : other ∉ ev row a := fun z => by rw [ev_mem row nd a j other ha hj] at z; omega
    have w2 : word t row (a + 2 ^ j) = t.go fun x => decide (x ∈ ev row a) || decide (x = other) := by
      refine go_congr t fun x hx => ?_
      rw [Bool.eq_iff_iff]
      simp [e2]
    have w1 : word t row (a + 2 ^ i) = t.go fun x => decide (x ∈ ev row a) || decide (x = one) := by
      refine go_congr t fun x hx => ?_
      rw [Bool.eq_iff_iff]
      simp [e1]
    rw [w1]
    rw [w2] at hw
    exact h (fun x => decide (x ∈ ev row a)) (by simp [n1]) (by simp [n2]) hw
end K23
namespace K23
/-- a tree as small as all are here -/
structure Sm (t : Tr) : Prop where
  ok : t.ok
  len : t.btn.length ≤ 24
theorem btn_pos {t : Tr} (h : t.ok) : 1 ≤ t.btn.length := by
  cases e : t.btn with
  | nil => exact absurd e (btn_ne t h)
  | cons a r => simp
theorem plen_le : ∀ {ps : List Tr}, (∀ p ∈ ps, p.ok) → ps.length ≤ (btns ps).length
  | [], _ => by simp
  | p :: r, h => by
    have := plen_le (ps := r) fun q hq => h q (by simp [hq])
    have := btn_pos (h p (by simp))
    rw [btns, List.length_append, List.length_cons]
    omega
theorem Sm.oks {k : Int} {ps : List Tr} (h : Sm (.node k ps)) : ∀ p ∈ ps, p.ok := by
  have := h.ok; rw [Tr.ok, okA_iff] at this; exact this.2.2
theorem Sm.bd {k : Int} {ps : List Tr} (h : Sm (.node k ps)) : 1 ≤ k ∧ k ≤ (ps.length : Int) := by
  have := h.ok; rw [Tr.ok, okA_iff] at this; exact ⟨this.1, this.2.1⟩
theorem len_part : ∀ {ps : List Tr} {p : Tr}, p ∈ ps → p.btn.length ≤ (btns ps).length
  | q :: r, p, h => by
    rw [btns, List.length_append]
    (rcases List.mem_cons.mp h with rfl | h)
    · omega
    · have := len_part h; omega
theorem Sm.part {k : Int} {ps : List Tr} (h : Sm (.node k ps)) {p : Tr} (hp : p ∈ ps) : Sm p := by
  refine ⟨h.oks p hp, ?_⟩
  have h1 := h.len
  rw [btn_node] at h1
  have := len_part hp
  omega
theorem Sm.plen {k : Int} {ps : List Tr} (h : Sm (.node k ps)) : ps.length ≤ 24 := by
  have h1 := h.len
  rw [btn_node] at h1
  have := plen_le h.oks
  omega
theorem dep_part {k : Int} {ps : List Tr} {n : Nat} (h : (Tr.node k ps).dep ≤ n + 1) {p : Tr} (hp : p ∈ ps) : p.dep ≤ n := by
  rw [Tr.dep] at h
  exact depA_le.mp (by omega : depA ps ≤ n) p hp
theorem dep_zero {t : Tr} (h : t.dep ≤ 0) : ∃ b, t = .leaf b := by
  cases t with
  | leaf b => exact ⟨b, rfl⟩
  | node k ps => rw [Tr.dep] at h; omega
theorem btns_take : ∀ (ps : List Tr) (i : Nat) (p : Tr), ps[i]? = some p → btns (ps.take (i + 1)) = btns (ps.take i) ++ p.btn
  | [], _, _, h => by simp at h
  | q :: r, 0, p, h => by
    have e : q = p := by simpa using h
    subst e
    simp [btns]
  | q :: r, i + 1, p, h => by
    have := btns_take r i p (by simpa using h)
    rw [List.take_succ_cons, List.take_succ_cons, btns, btns, this, List.append_assoc]
theorem btns_take_len (ps : List Tr) (i : Nat) : (btns (ps.take i)).length ≤ (btns ps).length := by
  have : btns ps = btns (ps.take i) ++ btns (ps.drop i) := by rw [← btns_append, List.take_append_drop]
  rw [this, List.length_append]; omega
mutual
/-- the leftmost button -/
def Tr.lb : Tr → Int
  | .leaf b => b
  | .node _ ps => lbA ps
def lbA : List Tr → Int
  | [] => 0
  | p :: _ => p.lb
end
theorem lb_mem : ∀ t : Tr, t.ok → t.lb ∈ t.btn := by
  refine Tr.ind (fun b _ => by rw [Tr.lb, btn_leaf]; simp) fun k ps ih o => ?_
  rw [Tr.ok, okA_iff] at o
  cases ps with
  | nil => have := o.2.1; simp at this; omega
  | cons p r =>
    rw [Tr.lb, lbA, btn_node, btns]
    exact List.mem_append_left _ (ih p (by simp) (o.2.2 p (by simp)))
end K23
namespace K23
theorem part_uniq {b : Int} : ∀ {l : List Tr}, (btns l).Nodup → ∀ p ∈ l, ∀ q ∈ l, b ∈ p.btn → b ∈ q.btn → p = q := by
  intro l
  induction l with
  | nil => intro _ p hp; cases hp
  | cons c r ih =>
    intro nd p hp q hq h1 h2
    rw [btns, List.nodup_append] at nd
    rcases List.mem_cons.mp hp with e1 | hp
    · rcases List.mem_cons.mp hq with e2 | hq
      · rw [e1, e2]
      · exact absurd rfl (nd.2.2 b (e1 ▸ h1) b (mem_btns.mpr ⟨q, hq, h2⟩))
    · rcases List.mem_cons.mp hq with e2 | hq
      · exact absurd rfl (nd.2.2 b (e2 ▸ h2) b (mem_btns.mpr ⟨p, hp, h1⟩))
      · exact ih nd.2.1 p hp q hq h1 h2
/-- parts put in order by their leftmost buttons -/
def srt (l : List Tr) : List Tr := l.mergeSort fun a b => decide (a.lb ≤ b.lb)
theorem srt_perm (l : List Tr) : (srt l).Perm l := List.mergeSort_perm l _
theorem srt_of {l l' : List Tr} (nd : (btns l).Nodup) (ho : ∀ p ∈ l, p.ok) (hp : l'.Perm l) (hs : l'.Pairwise fun p q => p.lb ≤ q.lb) : l' = srt l := by
  refine List.Perm.eq_of_pairwise (le := fun p q : Tr => p.lb ≤ q.lb) (fun a b ha hb h1 h2 => ?_) hs ?_ (hp.trans (srt_perm l).symm)
  · have ma := hp.mem_iff.mp ha
    have mb := (srt_perm l).mem_iff.mp hb
    have e : a.lb = b.lb := Int.le_antisymm h1 h2
    exact part_uniq nd a ma b mb (lb_mem a (ho a ma)) (e ▸ lb_mem b (ho b mb))
  · have := List.pairwise_mergeSort (le := fun a b : Tr => decide (a.lb ≤ b.lb)) (fun a b c h1 h2 => by simp at *; omega) (fun a b => by simp; omega) l
    exact this.imp fun {a b} h => by simpa using h
theorem flat_take {k : Int} {n : Nat} : ∀ (ps : List Tr) (i : Nat) (p : Tr), ps[i]? = some p → flat k n (ps.take (i + 1)) = flat k n (ps.take i) ++ (if like k n p = true then p.parts else [p]) := by
  intro ps i p h
  have e : ps.take (i + 1) = ps.take i ++ [p] := by rw [List.take_add_one, h]; rfl
  unfold flat
  rw [e, List.flatMap_append]
  simp
theorem flat_oks {k : Int} {n : Nat} {ps : List Tr} (h : ∀ p ∈ ps, p.ok) : ∀ x ∈ flat k n ps, x.ok := fun x hx => by
  rcases mem_flat hx with ⟨h1, _⟩ | ⟨k', qs, h1, _, h2⟩
  · exact h x h1
  · have := h _ h1
    rw [Tr.ok, okA_iff] at this
    exact this.2.2 x h2
theorem flat_short {k : Int} {n : Nat} {ps : List Tr} (h : ∀ p ∈ ps, p.ok) (hl : (btns ps).length ≤ 24) (i : Nat) : (flat k n (ps.take i)).length ≤ 24 := by
  have h1 := plen_le (flat_oks (k := k) (n := n) (ps := ps.take i) fun p hp => h p (List.mem_of_mem_take hp))
  rw [btns_flat] at h1
  have := btns_take_len ps i
  omega
end K23
namespace K23
/-- b in the parts of a trip -/
def isB (b : Int) : Tr → Bool
  | .leaf c => c == b
  | .node _ _ => false
/-! ### the trips on the way down -/
mutual
def Tr.downs (one other : Int) : Tr → List Tr
  | .leaf _ => []
  | .node k ps => if one ∈ btns ps ∧ other ∈ btns ps then .node k ps :: downsA one other ps else []
def downsA (one other : Int) : List Tr → List Tr
  | [] => []
  | p :: r => if one ∈ p.btn then p.downs one other else downsA one other r
end
theorem downsA_eq {one other : Int} : ∀ {ps : List Tr}, one ∈ btns ps → downsA one other ps = (pw ps one).downs one other
  | [], h => by simp [btns] at h
  | p :: r, h => by
    rw [downsA, pw_cons]
    by_cases c : one ∈ p.btn
    · rw [if_pos c, if_pos c]
    · rw [if_neg c, if_neg c]
      rw [btns, List.mem_append] at h
      exact downsA_eq (h.resolve_left c)
/-- what the outer trips give -/
def outer (one : Int) : Tr → List Int
  | .leaf _ => []
  | .node k ps => firstB (k - 1).toNat (wo ps [one])
/-- a trip with one in it -/
structure InT (n : Nat) (one : Int) (t : Tr) : Prop where
  sm : Sm t
  dep : t.dep ≤ n
  nd : t.btn.Nodup
  mem : one ∈ t.btn
theorem InT.part {n : Nat} {one b : Int} {k : Int} {ps : List Tr} (h : InT n one (.node k ps)) (hb : b ∈ btns ps) : InT n b (pw ps b) := by
  obtain ⟨m1, m2⟩ := pw_mem hb
  refine ⟨h.sm.part m1, ?_, ?_, m2⟩
  · have := dep_part (n := (Tr.node k ps).dep - 1) (k := k) (ps := ps) (by omega) m1
    have := h.dep
    omega
  · have nd := h.nd
    rw [btn_node] at nd
    have sp := (btns_perm (split1 nd hb)).nodup nd
    rw [btns, List.nodup_append] at sp
    exact sp.1
theorem any_isLeaf {one : Int} {ps : List Tr} (nd : (btns ps).Nodup) (h : one ∈ btns ps) : ps.any (isB one) = (pw ps one).isLeaf := by
  obtain ⟨m1, m2⟩ := pw_mem h
  rw [Bool.eq_iff_iff, List.any_eq_true]
  constructor
  · rintro ⟨p, hp, hb⟩
    cases p with
    | leaf c =>
      have e : c = one := by simpa [isB] using hb
      subst e
      have := part_uniq nd _ hp _ m1 (by simp [btn_leaf]) m2
      rw [← this]; rfl
    | node k qs => simp [isB] at hb
  · intro hl
    obtain ⟨b, hb⟩ := isLeaf_iff.mp hl
    refine ⟨_, m1, ?_⟩
    rw [hb] at m2 ⊢
    simp [btn_leaf] at m2
    simp [isB, m2]
/-- the trips on the way down, the last apart -/
theorem downs_split {n : Nat} {one other : Int} (hne : one ≠ other) : ∀ t : Tr, InT n one t → other ∈ t.btn → ∃ (pre : List Tr) (k : Int) (ps : List Tr), t.downs one other = pre ++ [.node k ps] ∧
    (∀ d ∈ pre, InT n one d ∧ d.isLeaf = false) ∧ InT n one (.node k ps) ∧ other ∈ btns ps ∧ other ∉ (pw ps one).btn ∧ t.over one other = ps.any (isB one) ∧ t.wl one other = pre.flatMap (outer one) ++ baseL k ps one other ∧ (t.red → (Tr.node k ps).red) := by
  refine Tr.ind (fun b h ho => ?_) fun k ps ih h ho => ?_
  · have h1 := h.mem
    simp [btn_leaf] at h1 ho
    exact absurd (h1.trans ho.symm) hne
  · have hm := h.mem
    have nd := h.nd
    rw [btn_node] at hm ho nd
    obtain ⟨m1, m2⟩ := pw_mem hm
    rw [Tr.downs, if_pos ⟨hm, ho⟩, downsA_eq hm, Tr.over, overA_eq hm, Tr.wl, wlA_eq hm]
    by_cases c : other ∈ (pw ps one).btn
    · obtain ⟨pre, k', ps', e1, e2, e3, e4, e5, e6, e7, e8⟩ := ih _ m1 (h.part hm) c
      refine ⟨.node k ps :: pre, k', ps', by rw [e1]; rfl, ?_, e3, e4, e5, ?_, ?_, fun hr => e8 ?_⟩
      · intro d hd
        (rcases List.mem_cons.mp hd with rfl | hd)
        · exact ⟨h, rfl⟩
        · exact e2 d hd
      · have hl : ¬ (pw ps one).isLeaf = true := fun hl => by
          obtain ⟨b, hb⟩ := isLeaf_iff.mp hl
          rw [hb] at m2 c
          simp [btn_leaf] at m2 c
          exact hne (m2.trans c.symm)
        rw [if_neg hl, if_pos c, e6]
      · rw [if_pos c, e7, List.flatMap_cons, List.append_assoc]
        rfl
      · rw [Tr.red, redA_iff] at hr
        exact hr.2.2 _ m1
    · have ed : (pw ps one).downs one other = [] := by
        cases hp : pw ps one with
        | leaf b => rw [Tr.downs]
        | node k' ps' =>
          rw [hp, btn_node] at c
          rw [Tr.downs, if_neg (fun h => c h.2)]
      refine ⟨[], k, ps, by rw [ed]; rfl, by simp, h, ho, c, ?_, ?_, fun hr => hr⟩
      · rw [any_isLeaf nd hm, if_neg c]
        by_cases hl : (pw ps one).isLeaf = true
        · rw [if_pos hl, hl]
        · rw [if_neg hl]; simpa using hl
      · rw [if_neg c]; rfl
theorem find_pw {ps : List Tr} {b : Int} (h : b ∈ btns ps) : (ps.filter fun p => decide (b ∈ p.btn))[0]? = some (pw ps b) := by
  rw [← List.head?_eq_getElem?, List.head?_filter]
  unfold pw
  cases hf : ps.find? fun p => decide (b ∈ p.btn) with
  | some p => rfl
  | none =>
    rw [List.find?_eq_none] at hf
    obtain ⟨p, hp, hb⟩ := mem_btns.mp h
    exact absurd (decide_eq_true hb) (hf p hp)
theorem base_k2 {k : Int} {ps : List Tr} {one : Int} {n : Nat} (o : (Tr.node k ps).ok) (r : (Tr.node k ps).red) (nd : (btns ps).Nodup) (h1 : one ∈ btns ps) (hl : (pw ps one).isLeaf = false)
    (c : (pw ps one).go (fun x => decide (x = one)) = true ∨ k - 1 > (n : Int)) : 2 ≤ k := by
  rcases c with c | c
  · rw [Tr.ok, okA_iff] at o
    rw [Tr.red, redA_iff] at r
    obtain ⟨m1, m2⟩ := pw_mem h1
    have mok := o.2.2 _ m1
    have mlike := r.2.1 _ m1
    have ndM := (btns_perm (split1 nd h1)).nodup nd
    rw [btns, List.nodup_append] at ndM
    cases hm : pw ps one with
    | leaf b => rw [hm] at hl; cases hl
    | node k' ps' =>
      rw [hm] at mok mlike m2 c
      rw [hm] at ndM
      rw [Tr.ok, okA_iff] at mok
      rw [btn_node] at m2
      have ndM' : (btns ps').Nodup := by have := ndM.1; rw [btn_node] at this; exact this
      have spM := split1 ndM' m2
      rw [go_node, decide_eq_true_eq, goN_perm _ spM, goN] at c
      have e0 : goN (fun x => decide (x = one)) (wo ps' [one]) = 0 := goN_empty fun q hq => by
        obtain ⟨u1, u2⟩ := mem_wo.mp hq
        exact go_empty q (mok.2.2 q u1) fun x hx => decide_eq_false fun ex => u2 one (by simp) (ex ▸ hx)
      rw [e0] at c
      rw [like, Bool.or_eq_false_iff, Bool.and_eq_false_iff, decide_eq_false_iff_not, decide_eq_false_iff_not] at mlike
      have h3 := mlike.1
      have h4 : k' ≤ 1 := by
        split at c <;> omega
      rcases h3 with h3 | h3 <;> omega
  · omega
/-! ### the law's own reduced tree -/
theorem firstB_len (n : Nat) (ps : List Tr) : (firstB n ps).length ≤ (btns ps).length := by
  unfold firstB; exact btns_take_len ps n
end K23
namespace K23
/-! ### the law's table in plain numbers -/
theorem step_lt {n i a : Nat} (hi : i < n) (ha : a < 2 ^ n) (h : a / 2 ^ i % 2 = 0) : a + 2 ^ i < 2 ^ n := by
  have h1 : 2 ^ n = 2 ^ i * (2 * 2 ^ (n - i - 1)) := by
    rw [← Nat.pow_succ', ← Nat.pow_add]; congr 1; omega
  have hp : 0 < 2 ^ i := Nat.pow_pos (by omega)
  have h2 : a / 2 ^ i < 2 * 2 ^ (n - i - 1) := Nat.div_lt_of_lt_mul (by rw [← h1]; exact ha)
  have h3 : a / 2 ^ i + 1 < 2 * 2 ^ (n - i - 1) := by omega
  have h4 : a < 2 ^ i * (a / 2 ^ i + 1) := by
    have := Nat.lt_div_mul_add (a := a) hp
    rw [Nat.mul_comm, Nat.add_mul, Nat.one_mul]
    omega
  calc a + 2 ^ i < 2 ^ i * (a / 2 ^ i + 1) + 2 ^ i := by omega
    _ = 2 ^ i * (a / 2 ^ i + 1 + 1) := by rw [Nat.mul_add (2 ^ i) (a / 2 ^ i + 1) 1, Nat.mul_one]
    _ ≤ 2 ^ i * (2 * 2 ^ (n - i - 1)) := Nat.mul_le_mul_left _ h3
    _ = 2 ^ n := h1.symm
/-- no turn goes to speak against it -/
def Nw (ws : List Bool) (i j : Nat) : Prop := ∀ a, a < ws.length → a / 2 ^ i % 2 = 0 → a / 2 ^ j % 2 = 0 → ws.getD (a + 2 ^ j) false = true → ws.getD (a + 2 ^ i) false = true
instance (ws : List Bool) (i j : Nat) : Decidable (Nw ws i j) := by unfold Nw; infer_instance
def powL (n : Nat) : List Int := (List.range n).map fun j => ((2 ^ j : Nat) : Int)
theorem powL_get {n j : Nat} (h : j < n) : (powL n)[j]? = some ((2 ^ j : Nat) : Int) := by
  unfold powL; rw [List.getElem?_map, List.getElem?_range h]; rfl
theorem powL_succ (n : Nat) : powL (n + 1) = powL n ++ [((2 ^ n : Nat) : Int)] := by
  unfold powL; rw [List.range_succ, List.map_append]; rfl
theorem div_int (a b : Nat) : ((a : Int) / (b : Int)) % 2 = ((a / b % 2 : Nat) : Int) := by
  rw [Int.natCast_emod, Int.natCast_ediv]; rfl
end K23
namespace K23
open PySem PyProof.Rows PySem.Spec L2
/-! ### the text by places -/
def topS (i : Nat) : Stmt := PySem.Challenge.pw_onescale_k23_whole_lots_that_show_which.main.body.getD i (.Pass ⟨0, 0, 0, 0⟩)

/-! ### trees in the heap -/
mutual
def enc : Tr → PyData
  | .leaf b => .int b
  | .node k ps => .tuple [.int k, .tuple (encs ps)]
def encs : List Tr → List PyData
  | [] => []
  | p :: r => enc p :: encs r
end
abbrev TV (K : PySem.W.Frag) (H : Hp) (v : V) (t : Tr) : Prop := Dp K H v (enc t)
abbrev TVs (K : PySem.W.Frag) (H : Hp) (vs : List V) (ps : List Tr) : Prop := DpAll K H vs (encs ps)
section
variable {K : PySem.W.Frag} {H H' : Hp}
theorem _root_.L2.Same.seqT {a : Addr} {xs : List V} (e : Same H H') (h : SqT K H a xs) : SqT K H' a xs := by
  (rcases h with (h | ⟨o, h⟩) | h)
  · exact .inl (.inl (e _ _ h))
  · exact (.inl (.inr ⟨o, e _ _ h⟩))
  · exact .inr h
mutual
theorem dp_mono (e : Same H H') : ∀ (d : PyData) (v : V), Dp K H v d → Dp K H' v d
  | .none, _, h => by cases h; exact .non
  | .bool b, _, h => by cases h; exact .bl b
  | .int i, _, h => by cases h; exact .int i
  | .str x, _, h => by cases h; exact .str x
  | .list ds, _, h => by
    cases h with
    | lst hs ha => exact .lst (Same.seq e hs) (dps_mono e ds _ ha)
  | .tuple ds, _, h => by
    cases h with
    | tup hs ha => exact .tup (e.seqT hs) (dps_mono e ds _ ha)
  | .dict _, _, h => by cases h
theorem dps_mono (e : Same H H') : ∀ (ds : List PyData) (vs : List V), DpAll K H vs ds → DpAll K H' vs ds
  | [], _, h => by cases h; exact .nil
  | d :: ds, _, h => by
    cases h with
    | cons h1 h2 => exact .cons (dp_mono e d _ h1) (dps_mono e ds _ h2)
end
theorem TV.mono {v : V} {t : Tr} (h : TV K H v t) (e : Same H H') : TV K H' v t := dp_mono e _ _ h
theorem TVs.mono {vs : List V} {ps : List Tr} (h : TVs K H vs ps) (e : Same H H') : TVs K H' vs ps := dps_mono e _ _ h
theorem tv_leaf {v : V} {b : Int} : TV K H v (.leaf b) ↔ v = .int b := by
  unfold TV; rw [enc]
  exact ⟨fun h => by cases h; rfl, fun h => by rw [h]; exact .int b⟩
theorem tv_node {v : V} {k : Int} {ps : List Tr} : TV K H v (.node k ps) ↔ ∃ a b vs, v = .ref a ∧ SqT K H a [.int k, .ref b] ∧ SqT K H b vs ∧ TVs K H vs ps := by
  unfold TV; rw [enc]
  constructor
  · intro h
    cases h with
    | tup hs ha =>
      cases ha with
      | cons h1 h2 =>
        cases h2 with
        | cons h3 h4 =>
          cases h4
          cases h1
          cases h3 with
          | tup hs2 ha2 => exact ⟨_, _, _, rfl, hs, hs2, ha2⟩
  · rintro ⟨a, b, vs, rfl, h1, h2, h3⟩
    exact .tup h1 (.cons (.int k) (.cons (.tup h2 h3) .nil))
theorem TVs.nil : TVs K H [] [] := by unfold TVs; rw [encs]; exact .nil
theorem TVs.cons {v : V} {vs : List V} {p : Tr} {ps : List Tr} (h : TV K H v p) (r : TVs K H vs ps) : TVs K H (v :: vs) (p :: ps) := by unfold TVs; rw [encs]; exact DpAll.cons h r
theorem TVs.uncons {vs : List V} {p : Tr} {ps : List Tr} (h : TVs K H vs (p :: ps)) : ∃ v r, vs = v :: r ∧ TV K H v p ∧ TVs K H r ps := by
  unfold TVs at h; rw [encs] at h
  cases h with
  | cons h1 h2 => exact ⟨_, _, rfl, h1, h2⟩
theorem TVs.of_nil {vs : List V} (h : TVs K H vs []) : vs = [] := by
  unfold TVs at h; rw [encs] at h; cases h; rfl
theorem TVs.len : ∀ {ps : List Tr} {vs : List V}, TVs K H vs ps → vs.length = ps.length
  | [], _, h => by rw [h.of_nil]; rfl
  | p :: ps, vs, h => by
    obtain ⟨v, r, rfl, _, h2⟩ := h.uncons
    rw [List.length_cons, List.length_cons, TVs.len h2]
theorem TVs.append : ∀ {ps qs : List Tr} {vs us : List V}, TVs K H vs ps → TVs K H us qs → TVs K H (vs ++ us) (ps ++ qs)
  | [], _, _, _, h, g => by rw [h.of_nil]; exact g
  | p :: ps, _, _, _, h, g => by
    obtain ⟨v, r, rfl, h1, h2⟩ := h.uncons
    exact (TVs.append h2 g) |> TVs.cons h1
theorem TVs.get : ∀ {ps : List Tr} {vs : List V} {i : Nat} {v : V}, TVs K H vs ps → vs[i]? = some v → ∃ p, ps[i]? = some p ∧ TV K H v p
  | [], _, _, _, h, e => by rw [h.of_nil] at e; simp at e
  | p :: ps, _, 0, u, h, e => by
    obtain ⟨v, r, rfl, h1, h2⟩ := h.uncons
    have e' : v = u := by simpa using e
    subst e'
    exact ⟨p, rfl, h1⟩
  | p :: ps, _, i + 1, _, h, e => by
    obtain ⟨v, r, rfl, h1, h2⟩ := h.uncons
    exact TVs.get (i := i) h2 (by simpa using e)
theorem TVs.getP : ∀ {ps : List Tr} {vs : List V} {i : Nat} {p : Tr}, TVs K H vs ps → ps[i]? = some p → ∃ v, vs[i]? = some v ∧ TV K H v p
  | [], _, _, _, h, e => by simp at e
  | q :: ps, _, 0, u, h, e => by
    obtain ⟨v, r, rfl, h1, h2⟩ := h.uncons
    have e' : q = u := by simpa using e
    subst e'
    exact ⟨v, rfl, h1⟩
  | q :: ps, _, i + 1, _, h, e => by
    obtain ⟨v, r, rfl, h1, h2⟩ := h.uncons
    exact TVs.getP (i := i) h2 (by simpa using e)
theorem TVs.take : ∀ {ps : List Tr} {vs : List V} (n : Nat), TVs K H vs ps → TVs K H (vs.take n) (ps.take n)
  | _, _, 0, _ => by rw [List.take_zero, List.take_zero]; exact TVs.nil
  | [], _, n + 1, h => by rw [h.of_nil]; exact TVs.nil
  | p :: ps, _, n + 1, h => by
    obtain ⟨v, r, rfl, h1, h2⟩ := h.uncons
    exact TVs.cons h1 (TVs.take n h2)
/-- what stands at a button or a trip -/
theorem ty_tup {a : Addr} {xs : List V} (h : SqT K H a xs) : TyX K H (.ref a) (.type "tuple") := by
  rcases h with (h | ⟨o, h⟩) | ⟨o, its, n, hk, hc, _⟩
  · exact .base (.tup h)
  · exact .fTuple h
  · exact .kTuple hk hc
theorem tv_ty {v : V} {t : Tr} (h : TV K H v t) : TyX K H v (.type (if t.isLeaf = true then "int" else "tuple")) := by
  cases t with
  | leaf b => rw [tv_leaf.mp h]; exact .base (.int b)
  | node k ps =>
    obtain ⟨a, b, vs, rfl, h1, _⟩ := tv_node.mp h
    exact ty_tup h1
theorem kit_tup : PySem.W.kitOne K (.type "tuple") (.type "tuple") = some true := kit_ty (by decide +kernel)
theorem kit_int_tup : PySem.W.kitOne K (.type "int") (.type "tuple") = some false := kit_ty (by decide +kernel)
theorem kit_tup_int : PySem.W.kitOne K (.type "tuple") (.type "int") = some false := kit_ty (by decide +kernel)
theorem kit_int : PySem.W.kitOne K (.type "int") (.type "int") = some true := kit_ty (by decide +kernel)
theorem tv_isTup {v : V} {t : Tr} (h : TV K H v t) : ∃ u, TyX K H v u ∧ PySem.W.kitOne K u (.type "tuple") = some (!t.isLeaf) := by
  refine ⟨_, tv_ty h, ?_⟩
  cases t with
  | leaf b => exact kit_int_tup
  | node k ps => exact kit_tup
theorem tv_isInt {v : V} {t : Tr} (h : TV K H v t) : ∃ u, TyX K H v u ∧ PySem.W.kitOne K u (.type "int") = some t.isLeaf := by
  refine ⟨_, tv_ty h, ?_⟩
  cases t with
  | leaf b => exact kit_int
  | node k ps => exact kit_tup_int
end

/-! ### a def of the module, under its name -/
structure Cal (P : Program) (w : World) (K : PySem.W.Frag) (mg : Str → Option Value) (base : Heap) (k : Nat) (x : Str) (ps : List Str) (sp : Sp) : Prop where
  ex : ∃ (f : Addr) (fd : FuncData), FnOk P w K mg base CX0 k f fd ps sp ∧ mg x = some (.ref f) ∧ PySem.W.keepIn K (.ref f) = true ∧ Binds K fd ps []
section
variable {X : Cx} {k j : Nat} {x : Str} {ps : List Str} {sp : Sp} {p pos : Pos} {e : Expr} {es : List Expr} {t : TA}
theorem pc (c : Cal X.prog X.w X.K X.mg X.base k x ps sp) (hr : Room j X.A) (hk : k ≤ j) (hg : Gl X x) (ha : PA X (e :: es) t)
    (hdb : (x == ("__debug__" : Str)) = false := by decide) (he : starEach (e :: es) X.env = (false, eval e X.env) :: starEach es X.env := by rfl) (hpl : (backTo pos (starEach es X.env)).any (·.1) = false := by rfl) : PE X (.Call (.Name x p) (e :: es) [] pos) (tCall sp [] E0 t) := by
  obtain ⟨f, fd, F, hm, kp, b⟩ := c.ex
  exact pe_call F (hr.mono hk) hg hm kp b .nil pass0 ha hdb he hpl
end
/-- the def at place i of the text stands under its name -/
structure Df (K : PySem.W.Frag) (mg : Str → Option Value) (x : Str) (i : Nat) : Prop where
  ex : ∃ (f : Addr) (fd : FuncData), L2.Fun K x x (topS i) f fd ∧ mg x = some (.ref f)
theorem Cal.mk' {P : Program} {w : World} {K : PySem.W.Frag} {mg : Str → Option Value} {base : Heap} {x : Str} {i : Nat} {k : Nat} {N ps : List Str} {sp : Sp} (D : Df K mg x i) (S : FnScope N ps (defScope (topS i)))
    (hb : ∀ (kV doc pm : Value) (an : Option Addr) (cdv ct : Value) (us : List Value), us.length = ps.length → bindArgs (PySem.W.fnOf x x (defArgs (topS i)) (defBody (topS i)) (defScope (topS i)) .none kV doc pm an cdv ct) ⟨us, []⟩ = pure (ps.zip us))
    (len : ∀ us G R E, sp us G R E → us.length = ps.length)
    (hbody : ∀ (f : Addr) (cdv : Value) (A : Around) (outer : List Env) (s : Shared) (H : Hp) (vs : List V) (Q : VK) (E : XK), Room k (A.deeper (envOfC x (defScope (topS i)) s.heap.objs.size f cdv)) → sp vs H Q E →
      ∃ t, PSs (cxOf CX0 P w K mg base N x (defScope (topS i)) f cdv A outer s H E).nox (defBody (topS i)) t ∧ t { nx := fun _ H' => Q .non H', rt := Q } (start N vs) H) : Cal P w K mg base (k + 1) x ps sp := by
  obtain ⟨f, fd, F, hm⟩ := D.ex
  exact ⟨f, fd, F.ok S len (hbody f), hm, F.kp, F.binds hb⟩
end K23
namespace K23
open PySem PyProof.Rows PySem.Spec L2
/-- what the top has written: each def under its name, the built-ins as they are -/
structure Txt (K : PySem.W.Frag) (mg : Str → Option Value) : Prop where
  d_is_trip : Df K mg "is_trip" 4
  d_buttons_in_order : Df K mg "buttons_in_order" 5
  d_buttons_of : Df K mg "buttons_of" 6
  d_goes : Df K mg "goes" 8
  d_least_button : Df K mg "least_button" 10
  d_is_like_trip : Df K mg "is_like_trip" 11
  d_told_trip : Df K mg "told_trip" 12
  d_told : Df K mg "told" 13
  d_need_buttons : Df K mg "need_buttons" 15
  d_part_with : Df K mg "part_with" 16
  d_trips_down : Df K mg "trips_down" 17
  d_is_over : Df K mg "is_over" 18
  d_first_buttons : Df K mg "first_buttons" 19
  d_parts_without : Df K mg "parts_without" 20
  d_turning_lot : Df K mg "turning_lot" 21
  d_worse_lot : Df K mg "worse_lot" 22
  d_law_bag : Df K mg "_law_bag" 24
  d_law_draw : Df K mg "_law_draw" 25
  d_law_pick : Df K mg "_law_pick" 26
  d_law_mixed : Df K mg "_law_mixed" 27
  d_law_buttons : Df K mg "_law_buttons" 28
  d_law_tree : Df K mg "_law_tree" 29
  d_law_held : Df K mg "_law_held" 30
  d_law_every : Df K mg "_law_every" 31
  d_law_words : Df K mg "_law_words" 32
  d_law_powers : Df K mg "_law_powers" 33
  d_law_goes : Df K mg "_law_goes" 34
  d_law_is_no_worse : Df K mg "_law_is_no_worse" 35
  d_law_table : Df K mg "_law_table" 36
  d_law_reduced : Df K mg "_law_reduced" 37
  d_law_no_worse_by_parts : Df K mg "_law_no_worse_by_parts" 38
  d_law_strange : Df K mg "_law_strange" 39
  d_law_told : Df K mg "_law_told" 40
  d_law_shows : Df K mg "_law_shows" 41
  d_law_is_right : Df K mg "_law_is_right" 42
  d_law_long : Df K mg "_law_long" 43
  d_law : Df K mg "law" 44
  n_isinstance : mg "isinstance" = none
  n_tuple : mg "tuple" = none
  n_sorted : mg "sorted" = none
  n_len : mg "len" = none
  n_int : mg "int" = none
  n_bool : mg "bool" = none
  n_range : mg "range" = none
  n_list : mg "list" = none
  n_enumerate : mg "enumerate" = none
  n_zip : mg "zip" = none
  n_abs : mg "abs" = none
  n_min : mg "min" = none
  n_max : mg "max" = none
  n_repr : mg "repr" = none
  n_str : mg "str" = none

/-! ### rules of our own -/
section
open Builtin PySem.AutoSeq1
theorem ext_tup (l : Addr) (items : Array Value) (n : Nat) (b : Addr) (items2 : Array Value) (n2 : Nat) (dd : Option Addr) (sl : Array (Option Value)) (hs0 : ¬(!items.isEmpty && Builtin.List.listTooLong (items.size + items2.size)) = true) (hs1 : items.size ≤ sizeLine) (hs2 : items.size + items2.size ≤ sizeLine + 1) :
    Meets (Builtin.«list.extend» ⟨[.ref l, .ref b], []⟩) (fun _ R s => s.heap.get? l = some { cls := .type "list", data := .seq items n } ∧ s.heap.get? b = some { cls := .type "tuple", dict := dd, data := .seq items2 n2, slots := sl } ∧
      R (.ok (.ret Value.none)) { s with heap := s.heap.update l (Obj.mapSeq fun x => x ++ items2), toks := s.toks }) :=
  .of_wp fun pg w A R s h => by
    (obtain ⟨hp, g, d, tk, os⟩ := s)
    obtain ⟨hl, hb, h⟩ := h
    have f2 := AutoSeq1.sub_tuple_tuple; have f3 := AutoSeq1.sub_list_list; have f4 := AutoSeq1.sub_tuple_list; have f5 := AutoSeq1.sub_list_tuple
    (have hz' : (items ++ items2).size ≤ sizeLine + 1 := by rw [Array.size_append]; exact hs2)
    wp_walk using (wpAny_updateSeq hl rfl (hz := hs1) (_hz' := hz')), AutoSeq1.wpAny_loadPart' hl, AutoSeq1.wpAny_loadPart' hb
    exact ⟨_, rfl, h⟩
end
section
variable {X : Cx}
/-- l.extend(a tuple) -/
def rExtT (K : PySem.W.Frag) : V → List V → Hp → VK → Prop := fun x vs H Q => ∃ l b xs zs, x = .ref l ∧ vs = [.ref b] ∧ H l = some (.lst xs) ∧ SqT K H b zs ∧ xs.length + zs.length ≤ 100000 ∧ Q .non (upd H l (.lst (xs ++ zs)))
theorem mt_extT : MtR X "list.extend" (rExtT X.K) := by
  (intro pins s σ H x vs v us Q I rx rv h)
  (obtain ⟨l, b, xs, zs, rfl, rfl, hH, hB, hz, q⟩ := h)
  cases rx
  obtain ⟨u, rfl, ru⟩ := rv.one
  cases ru
  (obtain ⟨z, its, n, r, hl, e⟩ := I.lstM hH)
  obtain ⟨its2, r2, ⟨⟨cls, dd, dat, sl⟩, ho, hc, n2, hd⟩, z2⟩ := I.tuple hB
  simp only at hc hd
  subst hc hd
  have hl2 := r2.length
  have hsz : its.toArray.size + its2.toArray.size ≤ sizeLine := by rw [List.size_toArray, List.size_toArray, sizeLine_eq]; omega
  have hfar : ¬ (!its.toArray.isEmpty && Builtin.List.listTooLong (its.toArray.size + its2.toArray.size)) = true := by
    rw [notLongL hsz, Bool.and_false]; exact Bool.false_ne_true
  refine call_meets F.slot_list_extend ⟨_, e, rfl⟩ F.entry_list_extend (F.args_list_extend_2 _ _) (ext_tup l its.toArray n b its2.toArray n2 dd sl hfar (by rw [List.size_toArray]; omega) (by omega)) ⟨e, ho, ?_⟩
  exact ⟨.non, _, I.lset (its' := its ++ its2) hH e (by simp) (r.append r2) (by rw [List.length_append, sizeLine_eq]; omega), rfl, q⟩
def isBu (b : Int) : Value → Bool
  | .int c _ => c == b
  | _ => false
theorem any_isB {K : PySem.W.Frag} {H : Hp} {b : Int} : ∀ {ps : List Tr} {xs : List V} {us : List Value}, TVs K H xs ps → Vals xs us → us.any (isBu b) = ps.any (isB b)
  | [], _, _, h, r => by rw [h.of_nil] at r; cases r; rfl
  | p :: ps, _, _, h, r => by
    obtain ⟨v, xr, rfl, h1, h2⟩ := h.uncons
    cases r with
    | cons r1 r2 =>
      rw [List.any_cons, List.any_cons, any_isB h2 r2]
      cases p with
      | leaf c =>
        rw [tv_leaf.mp h1] at r1
        obtain ⟨t, rfl⟩ := r1
        rfl
      | node k qs =>
        obtain ⟨a, c, vs, rfl, _⟩ := tv_node.mp h1
        cases r1
        rfl
def rInT (K : PySem.W.Frag) : R2 := fun x y H Q => ∃ b p xs ps, x = .int b ∧ y = .ref p ∧ SqT K H p xs ∧ TVs K H xs ps ∧ Q (.bl (ps.any (isB b))) H
theorem op_inT (hu : X.A.units + 1 < cLine) : OpR X (compareOp .In) (rInT X.K) := by
  (intro pins s σ H x y v u Q I rx ry h)
  obtain ⟨b, p, xs, ps, rfl, rfl, hS, hT, q⟩ := h
  cases ry
  obtain ⟨tk, rfl⟩ := rx
  obtain ⟨its, r, pl, hz⟩ := I.tuple hS
  refine SeqAt.in_tupleAt (isBu b) pl (fun y hy => ?_) ⟨.bl _, H, I, rfl, ?_⟩
  · obtain ⟨i, hi⟩ := List.getElem?_of_mem (show y ∈ its by simpa using hy)
    have hlt : i < xs.length := by rw [r.length]; exact (List.getElem?_eq_some_iff.mp hi).1
    obtain ⟨u', hu', ru⟩ := r.get (List.getElem?_eq_getElem hlt)
    rw [hi] at hu'
    cases hu'
    obtain ⟨t, ht, hv⟩ := hT.get (List.getElem?_eq_getElem hlt)
    cases t with
    | leaf c =>
      rw [tv_leaf.mp hv] at ru
      obtain ⟨t', rfl⟩ := ru
      exact SeqAt.EqAt.int_int c t' b tk
    | node k qs =>
      obtain ⟨a, c, vs, ea, h1, _⟩ := tv_node.mp hv
      rw [ea] at ru
      cases ru
      obtain ⟨its2, _, pl2, _⟩ := I.tuple h1
      exact SeqAt.EqAt.tuple_int b tk pl2 hu
  · rw [show its.toArray.any (isBu b) = its.any (isBu b) by simp, any_isB hT r]
    exact q
end

/-! ### a comprehension over the parts of a trip -/
/-- the values kept: of each part that f takes, e of the part and its value -/
def sel (f : Tr → Bool) (e : Tr → V → V) : List Tr → List V → List V
  | p :: ps, v :: vs => if f p = true then e p v :: sel f e ps vs else sel f e ps vs
  | _, _ => []
theorem sel_snoc (f : Tr → Bool) (e : Tr → V → V) : ∀ (ps : List Tr) (vs : List V) (i : Nat) (p : Tr) (v : V), ps[i]? = some p → vs[i]? = some v → sel f e (ps.take (i + 1)) (vs.take (i + 1)) = sel f e (ps.take i) (vs.take i) ++ (if f p = true then [e p v] else [])
  | [], _, _, _, _, h, _ => by (simp at h)
  | _ :: _, [], _, _, _, _, h => by (simp at h)
  | q :: ps, u :: vs, 0, p, v, h1, h2 => by
    have e1 : q = p := by simpa using h1
    have e2 : u = v := by simpa using h2
    subst e1 e2
    simp only [List.take_succ_cons, List.take_zero, sel]
    split <;> rfl
  | q :: ps, u :: vs, i + 1, p, v, h1, h2 => by
    have ih := sel_snoc f e ps vs i p v (by simpa using h1) (by simpa using h2)
    simp only [List.take_succ_cons, sel]
    rw [ih]
    split <;> simp
theorem sel_len (f : Tr → Bool) (e : Tr → V → V) : ∀ (ps : List Tr) (vs : List V), (sel f e ps vs).length ≤ vs.length
  | [], _ => by simp [sel]
  | _ :: _, [] => by simp [sel]
  | q :: ps, u :: vs => by
    have := sel_len f e ps vs
    simp only [sel]
    split <;> simp <;> omega
theorem sel_count (f : Tr → Bool) (e : Tr → V → V) : ∀ (ps : List Tr) (vs : List V), vs.length = ps.length → (sel f e ps vs).length = ps.countP f
  | [], _, _ => by simp [sel]
  | _ :: _, [], h => by (simp at h)
  | q :: ps, u :: vs, h => by
    have := sel_count f e ps vs (by simpa using h)
    simp only [sel]
    rw [List.countP_cons]
    split <;> simp_all
theorem sel_tvs {K : PySem.W.Frag} {H : Hp} (f : Tr → Bool) : ∀ {ps : List Tr} {vs : List V}, TVs K H vs ps → TVs K H (sel f (fun _ v => v) ps vs) (ps.filter f)
  | [], _, h => by rw [h.of_nil]; exact TVs.nil
  | p :: ps, _, h => by
    obtain ⟨v, r, rfl, h1, h2⟩ := h.uncons
    simp only [sel]
    rw [List.filter_cons]
    split
    · exact TVs.cons h1 (sel_tvs f h2)
    · exact sel_tvs f h2
theorem lcT {K : PySem.W.Frag} {b : Addr} {vs : List V} {ps : List Tr} {σ : L2.St} {H : Hp} {j : Nat} {tt : TT} {te : TE} {ws : List Nat} {Qd : Addr → Hp → Prop} (f : Tr → Bool) (e : Tr → V → V)
    (hS : SqT K H b vs) (hT : TVs K H vs ps) (hz : ps.length ≤ 1000) (hw : ∀ x, wipe ((wipe σ ws).set j (some x)) ws = wipe σ ws)
    (ht : ∀ v p H' (R : Bool → Hp → Prop), p ∈ ps → Same H H' → TV K H' v p → (∀ H'', Same H' H'' → R (f p) H'') → tt ((wipe σ ws).set j (some v)) H' R)
    (he : ∀ v p H' (R : VK), p ∈ ps → f p = true → Same H H' → TV K H' v p → (∀ H'', Same H' H'' → R (e p v) H'') → te ((wipe σ ws).set j (some v)) H' R)
    (hq : ∀ D H', Same H H' → H D = none → H' D = some (.lst (sel f e ps vs)) → Qd D H') :
    ∃ a, V.ref b = .ref a ∧ (∃ xs, SqT K H a xs) ∧ ∀ D, H D = none → ∃ W : Nat → Nat → Hp → Prop, (∃ m, W 0 m (upd H D (.lst []))) ∧ ∀ i m H, W i m H →
      ((Itt K a).stop i H ∧ Qd D H) ∨ ((Itt K a).go i H ∧ ∃ Nx : Hp → Prop, (∀ H', Nx H' → ∃ m', m' < m ∧ W (i + 1) m' H') ∧ ∀ x H', (Itt K a).yld i H x H' → gName j x (wipe σ ws) H' fun σ2 H2 => wipe σ2 ws = wipe σ ws ∧ tt σ2 H2 fun b H3 =>
        if b = true then te σ2 H3 fun z G4 => ∃ got, G4 D = some (.lst got) ∧ got.length < sizeLine ∧ Nx (upd G4 D (.lst (got ++ [z]))) else Nx H3) := by
  refine ⟨b, rfl, ⟨vs, hS⟩, fun D hD => ?_⟩
  have hlen := hT.len
  refine lc_tup (K := K) (a := b) (xs := vs) (Qd := fun H' => Qd D H') (fun i H' => Same H H' ∧ H' D = some (.lst (sel f e (ps.take i) (vs.take i)))) ⟨fun c o h => by rw [upd_ne (ne_of_none h hD)]; exact h, upd_same⟩ (fun i H' _ h => h.1.seqT hS) (fun i x H' hx h => ?_) (fun H' h => ?_)
  · obtain ⟨p, hp, _⟩ := hT.get hx
    have hpm := List.mem_of_getElem? hp
    refine ⟨hw x, ht x p H' _ hpm h.1 ?_ fun H3 s3 => ?_⟩
    · obtain ⟨p', hp', hv⟩ := (hT.mono h.1).get hx
      rw [hp] at hp'
      cases hp'
      exact hv
    · have hD3 := s3 _ _ h.2
      have s03 := h.1.trans s3
      have hs := sel_snoc f e ps vs i p x hp hx
      have hil : i < vs.length := (List.getElem?_eq_some_iff.mp hx).1
      have hl := sel_len f e (ps.take i) (vs.take i)
      rw [List.length_take] at hl
      have keep : ∀ {G : Hp} {y : List V}, Same H G → Same H (upd G D (.lst y)) := fun {G y} sg c o h => by
        rw [upd_ne (ne_of_none h hD)]; exact sg c o h
      cases hf : f p with
      | true =>
        refine iteT (he x p H3 _ hpm hf s03 ?_ fun H4 s4 => ⟨_, s4 _ _ hD3, by rw [sizeLine_eq]; omega, keep (s03.trans s4), ?_⟩)
        · obtain ⟨p', hp', hv⟩ := (hT.mono s03).get hx
          rw [hp] at hp'
          cases hp'
          exact hv
        · rw [hs, hf, if_pos rfl]; exact upd_same
      | false =>
        refine iteF ⟨s03, ?_⟩
        rw [hs, hf, if_neg Bool.false_ne_true, List.append_nil]
        exact hD3
  · refine hq D H' h.1 hD ?_
    rw [h.2, List.take_of_length_le (by omega), List.take_of_length_le (Nat.le_refl _)]
end K23
namespace K23
open PySem PyProof.Rows PySem.Spec L2
theorem size_ok {n : Nat} (h : n ≤ 100000) : n ≤ sizeLine := by rw [sizeLine_eq]; omega
theorem size_lt {n : Nat} (h : n < 100000) : n < sizeLine := by rw [sizeLine_eq]; omega
/-- a list that stands on top of what stood -/
theorem _root_.L2.Same.up {H H' : Hp} {l : Addr} {o : HO} (s : Same H H') (n : H l = none) : Same H (upd H' l o) := fun c u h => by
  rw [upd_ne (ne_of_none h n)]; exact s c u h
theorem _root_.L2.Same.new {H : Hp} {l : Addr} {o : HO} (n : H l = none) : Same H (upd H l o) := L2.Same.up (Same.refl H) n
section
variable {w : World} {P : Program} {K : PySem.W.Frag} {base : Heap} {mg : Str → Option Value}
/-! ### is_trip -/
def spIsTrip (K : PySem.W.Frag) : Sp := fun vs H Q _ => ∃ v t, vs = [v] ∧ TV K H v t ∧ Q (.bl (!t.isLeaf)) H
theorem sc_is_trip : FnScope ["tree"] ["tree"] (defScope (topS 4)) := ⟨rfl, rfl, rfl, by decide +kernel, rfl, by decide +kernel, by decide +kernel⟩
theorem c_is_trip (T : Txt K mg) : Cal P w K mg base 1 "is_trip" ["tree"] (spIsTrip K) := by
  refine Cal.mk' T.d_is_trip sc_is_trip (fun _ _ _ _ _ _ us hl => match us, hl with | [_], _ => rfl) (fun vs H Q E h => ?_) (fun f cdv A outer s H vs Q E hr h => ?_)
  · obtain ⟨v, t, rfl, _⟩ := h; rfl
  · obtain ⟨v, t, rfl, ht, k⟩ := h
    refine ⟨_, pss_one (ps_ret (pe_callB call_isi (by rfl) T.n_isinstance boot_isinstance (pa_cons (pv 0) (pa_cons (pe_bltn (v := .ty "tuple") (by rfl) T.n_tuple boot_tuple rfl) pa_nil)))), ?_⟩
    obtain ⟨u, hu, hk⟩ := tv_isTup ht
    exact ⟨_, rfl, v, .ty "tuple", u, _, _, rfl, .ty _, hu, hk, k⟩
/-! ### buttons_in_order: slots tree 0, found 1, part 2 -/
def spBIO (K : PySem.W.Frag) (d : Nat) : Sp := fun vs H Q _ => ∃ v t, vs = [v] ∧ TV K H v t ∧ Sm t ∧ t.dep ≤ d ∧ ∀ l H', Same H H' → H l = none → H' l = some (.lst (t.btn.map V.int)) → Q (.ref l) H'
theorem sc_buttons_in_order : FnScope ["tree", "found", "part"] ["tree"] (defScope (topS 5)) := ⟨rfl, rfl, rfl, by decide +kernel, rfl, by decide +kernel, by decide +kernel⟩
theorem c_buttons_in_order (T : Txt K mg) : ∀ d : Nat, Cal P w K mg base (d + 2) "buttons_in_order" ["tree"] (spBIO K d) := by
  intro d
  induction d with
  | zero =>
    refine Cal.mk' T.d_buttons_in_order sc_buttons_in_order (fun _ _ _ _ _ _ us hl => match us, hl with | [_], _ => rfl) (fun vs H Q E h => ?_) (fun f cdv A outer s H vs Q E hr h => ?_)
    · obtain ⟨_, _, rfl, _⟩ := h; rfl
    · obtain ⟨v, t, rfl, ht, sm, hd, k⟩ := h
      refine ⟨_, (pss_cons (ps_if (pt_not (pt_val (pc (c_is_trip T) hr (by decide) (by rfl) (pa_cons (pv 0) pa_nil)))) (pss_one (ps_ret (pe_lst (pa_cons (pv 0) pa_nil)))) pss_nil) pss_never), ?_⟩
      obtain ⟨b, rfl⟩ := dep_zero hd
      refine ⟨_, rfl, v, _, rfl, ht, _, rfl, iteT ⟨_, rfl, by show 1 ≤ sizeLine; decide, fun p hp => k p _ (Same.new hp) hp ?_⟩⟩
      rw [upd_same, tv_leaf.mp ht, btn_leaf]
      rfl
  | succ d ih =>
    refine Cal.mk' T.d_buttons_in_order sc_buttons_in_order (fun _ _ _ _ _ _ us hl => match us, hl with | [_], _ => rfl) (fun vs H Q E h => ?_) (fun f cdv A outer s H vs Q E hr h => ?_)
    · obtain ⟨_, _, rfl, _⟩ := h; rfl
    · obtain ⟨v, t, rfl, ht, sm, hd, k⟩ := h
      refine ⟨_, (pss_cons (ps_if (pt_not (pt_val (pc (c_is_trip T) hr (by omega) (by rfl) (pa_cons (pv 0) pa_nil)))) (pss_one (ps_ret (pe_lst (pa_cons (pv 0) pa_nil)))) pss_nil)
        (pss_cons (ps_set (i := 1) sc_buttons_in_order.nd rfl (Or.inl rfl) (pe_lst pa_nil))
        (pss_cons (ps_for PassesOwn.never rfl (pi_tup (pe_ix ix_tup (pv 0) pe_int (fun _ _ => rfl))) (pg_name (i := 2) sc_buttons_in_order.nd rfl (Or.inl rfl))
          (pss_one (ps_expr (pe_bm PySem.F.plainAttrs_list PySem.F.slot_list_extend PySem.F.type_list_extend mt_extend (pv 1) (pa_cons (pc ih hr (by omega) (by rfl) (pa_cons (pv 2) pa_nil)) pa_nil)))))
        (pss_one (ps_ret (pv 1)))))), ?_⟩
      cases t with
      | leaf b =>
        refine ⟨_, rfl, v, _, rfl, ht, _, rfl, iteT ⟨_, rfl, by show 1 ≤ sizeLine; decide, fun p hp => k p _ (Same.new hp) hp ?_⟩⟩
        rw [upd_same, tv_leaf.mp ht, btn_leaf]
        rfl
      | node kk ps =>
        obtain ⟨a, b, us, rfl, h1, h2, h3⟩ := tv_node.mp ht
        refine ⟨_, rfl, _, _, rfl, ht, _, rfl, iteF ⟨by show 0 ≤ sizeLine; decide, fun l hl => ?_⟩⟩
        have s0 : Same H (upd H l (.lst [])) := Same.new hl
        refine ⟨_, rfl, a, _, 1, .ref b, rfl, rfl, s0.seqT h1, rfl, b, rfl, ⟨_, s0.seqT h2⟩, for_tup (K := K) (a := b) (xs := us) (fun i σ H' => ∃ o : Option V, σ = [some (.ref a), some (.ref l), o] ∧ Same H H' ∧ H' l = some (.lst ((btns (ps.take i)).map V.int)))
          ⟨none, rfl, s0, upd_same⟩ (fun i σ H' _ ⟨_, _, s1, _⟩ => s1.seqT h2) ?_ ?_⟩
        · rintro i x σ H' hx ⟨o, rfl, s1, e1⟩
          obtain ⟨p, hp, hv⟩ := (h3.mono s1).get hx
          have hpm := List.mem_of_getElem? hp
          refine ⟨_, rfl, .inl ⟨rfl, _, SqL.of e1⟩, _, rfl, x, p, rfl, hv, sm.part hpm, dep_part hd hpm, fun l2 H2 s2 n2 e2 => ?_⟩
          refine ⟨l, l2, _, _, rfl, rfl, s2 _ _ e1, e2, size_ok ?_, ⟨some x, rfl, (s1.trans s2).up hl, ?_⟩⟩
          · rw [List.length_map, List.length_map]
            have a1 := btns_take_len ps i
            have a2 := sm.len
            have a3 := (sm.part hpm).len
            rw [btn_node] at a2
            omega
          · rw [upd_same, btns_take ps i p hp, List.map_append]
        · rintro σ H' ⟨o, rfl, s1, e1⟩
          rw [h3.len, List.take_length] at e1
          exact ⟨_, rfl, k l H' s1 hl (by rw [btn_node]; exact e1)⟩
/-! ### buttons_of -/
def spBO (K : PySem.W.Frag) : Sp := fun vs H Q _ => ∃ v t, vs = [v] ∧ TV K H v t ∧ Sm t ∧ t.dep ≤ 12 ∧ ∀ (a : Addr) (H' : Hp) (ns : List Int), Same H H' → ns.Perm t.btn → ns.Pairwise (· ≤ ·) → H' a = some (.tup (ns.map V.int)) → Q (.ref a) H'
theorem sc_buttons_of : FnScope ["tree"] ["tree"] (defScope (topS 6)) := ⟨rfl, rfl, rfl, by decide +kernel, rfl, by decide +kernel, by decide +kernel⟩
theorem c_buttons_of (T : Txt K mg) : Cal P w K mg base 15 "buttons_of" ["tree"] (spBO K) := by
  refine Cal.mk' T.d_buttons_of sc_buttons_of (fun _ _ _ _ _ _ us hl => match us, hl with | [_], _ => rfl) (fun vs H Q E h => ?_) (fun f cdv A outer s H vs Q E hr h => ?_)
  · obtain ⟨_, _, rfl, _⟩ := h; rfl
  · obtain ⟨v, t, rfl, ht, sm, hd, k⟩ := h
    refine ⟨_, (pss_one (ps_ret (pe_tupleOf (by rfl) T.n_tuple (pe_callB cr_sortedI (by rfl) T.n_sorted boot_sorted (pa_cons (pc (c_buttons_in_order T 12) hr (by decide) (by rfl) (pa_cons (pv 0) pa_nil)) pa_nil))))), ?_⟩
    refine ⟨_, rfl, v, t, rfl, ht, sm, hd, fun l H1 s1 n1 e1 => ⟨l, _, rfl, SqL.of e1, fun ns p hp hs np => .inl ⟨p, _, rfl, SqL.of upd_same, fun q nq => ?_⟩⟩⟩
    exact k q _ ns ((s1.trans (Same.new np)).trans (Same.new nq)) hp hs upd_same
end
end K23
namespace K23
open PySem PyProof.Rows PySem.Spec L2
theorem flat_ints : ∀ ns : List Int, (ns.map V.int).all flatV = true
  | [] => rfl
  | n :: ns => by rw [List.map_cons, List.all_cons, flat_ints ns]; rfl
theorem inV_ints (b : Int) : ∀ ns : List Int, inV (V.int b) (ns.map V.int) = decide (b ∈ ns)
  | [] => rfl
  | n :: ns => by
    have ih := inV_ints b ns
    unfold inV at ih ⊢
    rw [List.map_cons, List.any_cons, ih]
    show ((n == b) || decide (b ∈ ns)) = _
    by_cases e : n = b
    · subst e; simp
    · have e' : ¬ b = n := fun q => e q.symm
      rw [beq_eq_false_iff_ne.mpr e, Bool.false_or]
      exact decide_eq_decide.mpr (by simp [e'])
section
variable {w : World} {P : Program} {K : PySem.W.Frag} {base : Heap} {mg : Str → Option Value}
/-! ### goes: slots tree 0, lot 1, part 2; cells ['lot'] -/
def spGoes (K : PySem.W.Frag) (d : Nat) : Sp := fun vs H Q _ => ∃ (v : V) (t : Tr) (a : Addr) (ns : List Int), vs = [v, .ref a] ∧ TV K H v t ∧ Sm t ∧ t.dep ≤ d ∧ SqT K H a (ns.map V.int) ∧ ∀ H', Same H H' → Q (.bl (t.go fun x => decide (x ∈ ns))) H'
theorem sc_goes : FnScope ["tree", "lot", "part"] ["tree", "lot"] (defScope (topS 8)) := ⟨rfl, rfl, rfl, by decide +kernel, rfl, by decide +kernel, by decide +kernel⟩
theorem goes_leaf {b : Int} {ns : List Int} : (Tr.leaf b).go (fun x => decide (x ∈ ns)) = inV (V.int b) (ns.map V.int) := by rw [go_leaf, inV_ints]
theorem c_goes (T : Txt K mg) : ∀ d : Nat, Cal P w K mg base (d + 2) "goes" ["tree", "lot"] (spGoes K d) := by
  intro d
  induction d with
  | zero =>
    refine Cal.mk' T.d_goes sc_goes (fun _ _ _ _ _ _ us hl => match us, hl with | [_, _], _ => rfl) (fun vs H Q E h => ?_) (fun f cdv A outer s H vs Q E hr h => ?_)
    · obtain ⟨_, _, _, _, rfl, _⟩ := h; rfl
    · obtain ⟨v, t, a, ns, rfl, ht, sm, hd, hS, k⟩ := h
      refine ⟨_, (pss_cons (ps_if (pt_not (pt_val (pc (c_is_trip T) hr (by decide) (by rfl) (pa_cons (pv 0) pa_nil)))) (pss_one (ps_ret (pe_cmpR op_in_seq (pv 0) (pv 1) (by rfl)))) pss_nil) pss_never), ?_⟩
      obtain ⟨b, rfl⟩ := dep_zero hd
      have hv := tv_leaf.mp ht
      subst hv
      refine ⟨_, rfl, _, _, rfl, ht, _, rfl, iteT ⟨_, rfl, _, rfl, a, _, rfl, .inr hS, rfl, flat_ints ns, ?_⟩⟩
      rw [goes_leaf] at k
      exact k H (Same.refl H)
  | succ d ih =>
    refine Cal.mk' T.d_goes sc_goes (fun _ _ _ _ _ _ us hl => match us, hl with | [_, _], _ => rfl) (fun vs H Q E h => ?_) (fun f cdv A outer s H vs Q E hr h => ?_)
    · obtain ⟨_, _, _, _, rfl, _⟩ := h; rfl
    · obtain ⟨v, t, a, ns, rfl, ht, sm, hd, hS, k⟩ := h
      refine ⟨_, (pss_cons (ps_if (pt_not (pt_val (pc (c_is_trip T) hr (by omega) (by rfl) (pa_cons (pv 0) pa_nil)))) (pss_one (ps_ret (pe_cmpR op_in_seq (pv 0) (pv 1) (by rfl)))) pss_nil)
        (pss_one (ps_ret (pe_cmpR op_ge (pe_callB call_len_seq (by rfl) T.n_len boot_len (pa_cons (pe_lc (own := [("part", 2)]) rfl sc_goes.nd (pi_tup (pe_ix ix_tup (pv 0) pe_int (fun _ _ => rfl))) (blkOk_by (N := ["tree", "lot", "part"]) (sc := defScope (topS 8)) (by decide +kernel)) (fun _ _ _ _ _ => (pg_name (i := 2) sc_goes.nd rfl (Or.inl rfl))) (fun _ _ _ _ _ => pts_one (pt_val (pc ih hr (by omega) (by rfl) (pa_cons (pv 2) (pa_cons (pv 1) pa_nil))))) (fun _ _ _ _ _ => pe_int)) pa_nil)) (pe_ix ix_tup (pv 0) pe_int (fun _ _ => rfl)) (nomark _))))), ?_⟩
      cases t with
      | leaf b =>
        have hv := tv_leaf.mp ht
        subst hv
        refine ⟨_, rfl, _, _, rfl, ht, _, rfl, iteT ⟨_, rfl, _, rfl, a, _, rfl, .inr hS, rfl, flat_ints ns, ?_⟩⟩
        rw [goes_leaf] at k
        exact k H (Same.refl H)
      | node kk ps =>
        obtain ⟨a1, b1, us, rfl, h1, h2, h3⟩ := tv_node.mp ht
        refine ⟨_, rfl, _, _, rfl, ht, _, rfl, iteF ⟨_, rfl, a1, _, 1, .ref b1, rfl, rfl, h1, rfl, lcT (Tr.go fun x => decide (x ∈ ns)) (fun _ _ => .int 1) h2 h3 (by have := sm.plen; omega) (fun _ => rfl) ?_ ?_ ?_⟩⟩
        · intro v p H' R hp s1 hv hR
          exact ⟨_, rfl, _, rfl, v, p, a, ns, rfl, hv, sm.part hp, dep_part hd hp, s1.seqT hS, fun H'' s2 => ⟨_, rfl, hR H'' s2⟩⟩
        · intro v p H' R hp hf s1 hv hR
          exact hR H' (Same.refl H')
        · intro D H' s1 hD hH
          refine ⟨D, _, rfl, .inl (SqL.of hH), _, rfl, a1, _, 0, .int kk, rfl, rfl, s1.seqT h1, rfl, _, kk, rfl, rfl, ?_⟩
          have e := k H' s1
          rw [go_node, goN_eq] at e
          rw [sel_count _ _ _ _ h3.len]
          exact e
/-! ### _law_goes -/
theorem sc_law_goes : FnScope ["_law_tree_here", "_law_some", "_law_part"] ["_law_tree_here", "_law_some"] (defScope (topS 34)) := ⟨rfl, rfl, rfl, by decide +kernel, rfl, by decide +kernel, by decide +kernel⟩
theorem c_law_goes (T : Txt K mg) : ∀ d : Nat, Cal P w K mg base (d + 2) "_law_goes" ["_law_tree_here", "_law_some"] (spGoes K d) := by
  intro d
  induction d with
  | zero =>
    refine Cal.mk' T.d_law_goes sc_law_goes (fun _ _ _ _ _ _ us hl => match us, hl with | [_, _], _ => rfl) (fun vs H Q E h => ?_) (fun f cdv A outer s H vs Q E hr h => ?_)
    · obtain ⟨_, _, _, _, rfl, _⟩ := h; rfl
    · obtain ⟨v, t, a, ns, rfl, ht, sm, hd, hS, k⟩ := h
      refine ⟨_, (pss_cons (ps_if (pt_val (pe_callB call_isi (by rfl) T.n_isinstance boot_isinstance (pa_cons (pv 0) (pa_cons (pe_bltn (v := .ty "int") (by rfl) T.n_int boot_int rfl) pa_nil)))) (pss_one (ps_ret (pe_cmpR op_in_seq (pv 0) (pv 1) (by rfl)))) pss_nil) pss_never), ?_⟩
      obtain ⟨b, rfl⟩ := dep_zero hd
      have hv := tv_leaf.mp ht
      subst hv
      obtain ⟨u, hu, hk⟩ := tv_isInt ht
      refine ⟨_, rfl, _, .ty "int", u, _, _, rfl, .ty _, hu, hk, _, rfl, iteT ⟨_, rfl, _, rfl, a, _, rfl, .inr hS, rfl, flat_ints ns, ?_⟩⟩
      rw [goes_leaf] at k
      exact k H (Same.refl H)
  | succ d ih =>
    refine Cal.mk' T.d_law_goes sc_law_goes (fun _ _ _ _ _ _ us hl => match us, hl with | [_, _], _ => rfl) (fun vs H Q E h => ?_) (fun f cdv A outer s H vs Q E hr h => ?_)
    · obtain ⟨_, _, _, _, rfl, _⟩ := h; rfl
    · obtain ⟨v, t, a, ns, rfl, ht, sm, hd, hS, k⟩ := h
      refine ⟨_, (pss_cons (ps_if (pt_val (pe_callB call_isi (by rfl) T.n_isinstance boot_isinstance (pa_cons (pv 0) (pa_cons (pe_bltn (v := .ty "int") (by rfl) T.n_int boot_int rfl) pa_nil)))) (pss_one (ps_ret (pe_cmpR op_in_seq (pv 0) (pv 1) (by rfl)))) pss_nil)
        (pss_one (ps_ret (pe_cmpR op_ge (pe_callB call_len_seq (by rfl) T.n_len boot_len (pa_cons (pe_lc (own := [("_law_part", 2)]) rfl sc_law_goes.nd (pi_tup (pe_ix ix_tup (pv 0) pe_int (fun _ _ => rfl))) (blkOk_by (N := ["_law_tree_here", "_law_some", "_law_part"]) (sc := defScope (topS 34)) (by decide +kernel)) (fun _ _ _ _ _ => (pg_name (i := 2) sc_law_goes.nd rfl (Or.inl rfl))) (fun _ _ _ _ _ => pts_one (pt_val (pc ih hr (by omega) (by rfl) (pa_cons (pv 2) (pa_cons (pv 1) pa_nil))))) (fun _ _ _ _ _ => pe_int)) pa_nil)) (pe_ix ix_tup (pv 0) pe_int (fun _ _ => rfl)) (nomark _))))), ?_⟩
      obtain ⟨u, hu, hk⟩ := tv_isInt ht
      cases t with
      | leaf b =>
        have hv := tv_leaf.mp ht
        subst hv
        refine ⟨_, rfl, _, .ty "int", u, _, _, rfl, .ty _, hu, hk, _, rfl, iteT ⟨_, rfl, _, rfl, a, _, rfl, .inr hS, rfl, flat_ints ns, ?_⟩⟩
        rw [goes_leaf] at k
        exact k H (Same.refl H)
      | node kk ps =>
        obtain ⟨a1, b1, us, rfl, h1, h2, h3⟩ := tv_node.mp ht
        refine ⟨_, rfl, _, .ty "int", u, _, _, rfl, .ty _, hu, hk, _, rfl, iteF ⟨_, rfl, a1, _, 1, .ref b1, rfl, rfl, h1, rfl, lcT (Tr.go fun x => decide (x ∈ ns)) (fun _ _ => .int 1) h2 h3 (by have := sm.plen; omega) (fun _ => rfl) ?_ ?_ ?_⟩⟩
        · intro v p H' R hp s1 hv hR
          exact ⟨_, rfl, _, rfl, v, p, a, ns, rfl, hv, sm.part hp, dep_part hd hp, s1.seqT hS, fun H'' s2 => ⟨_, rfl, hR H'' s2⟩⟩
        · intro v p H' R hp hf s1 hv hR
          exact hR H' (Same.refl H')
        · intro D H' s1 hD hH
          refine ⟨D, _, rfl, .inl (SqL.of hH), _, rfl, a1, _, 0, .int kk, rfl, rfl, s1.seqT h1, rfl, _, kk, rfl, rfl, ?_⟩
          have e := k H' s1
          rw [go_node, goN_eq] at e
          rw [sel_count _ _ _ _ h3.len]
          exact e
/-! ### least_button -/
def spLeast (K : PySem.W.Frag) : Sp := fun vs H Q _ => ∃ (v : V) (t : Tr), vs = [v] ∧ TV K H v t ∧ t.ok ∧ Q (.int t.lb) H
theorem sc_least_button : FnScope ["tree", "found"] ["tree"] (defScope (topS 10)) := ⟨rfl, rfl, rfl, by decide +kernel, rfl, by decide +kernel, by decide +kernel⟩
theorem c_least_button (T : Txt K mg) : Cal P w K mg base 2 "least_button" ["tree"] (spLeast K) := by
  refine Cal.mk' T.d_least_button sc_least_button (fun _ _ _ _ _ _ us hl => match us, hl with | [_], _ => rfl) (fun vs H Q E h => ?_) (fun f cdv A outer s H vs Q E hr h => ?_)
  · obtain ⟨_, _, rfl, _⟩ := h; rfl
  · obtain ⟨v, t, rfl, ht, ok, k⟩ := h
    refine ⟨_, (pss_cons (ps_set (i := 1) sc_least_button.nd rfl (Or.inl rfl) (pv 0))
        (pss_cons (ps_while PassesOwn.never (pt_val (pc (c_is_trip T) hr (by decide) (by rfl) (pa_cons (pv 1) pa_nil)))
          (pss_one (ps_set (i := 1) sc_least_button.nd rfl (Or.inl rfl) (pe_ix ix_tup (pe_ix ix_tup (pv 1) pe_int (fun _ _ => rfl)) pe_int (fun _ _ => rfl)))))
        (pss_one (ps_ret (pv 1))))), ?_⟩
    refine ⟨_, rfl, fun m σ H' => ∃ (x : V) (u : Tr), σ = [some v, some x] ∧ H' = H ∧ TV K H x u ∧ u.ok ∧ u.lb = t.lb ∧ m = u.dep, ⟨_, v, t, rfl, rfl, ht, ok, rfl, rfl⟩, ?_⟩
    rintro m σ H' ⟨x, u, rfl, rfl, hx, uok, hlb, rfl⟩
    refine ⟨_, rfl, x, u, rfl, hx, _, rfl, ?_⟩
    cases u with
    | leaf b =>
      refine iteF ⟨_, rfl, ?_⟩
      rw [tv_leaf.mp hx]
      rw [Tr.lb] at hlb
      rw [hlb]
      exact k
    | node kk ps =>
      obtain ⟨a1, b1, us, rfl, h1, h2, h3⟩ := tv_node.mp hx
      rw [Tr.ok, okA_iff] at uok
      cases ps with
      | nil => have := uok.2.1; simp at this; omega
      | cons p r =>
        obtain ⟨y, ur, rfl, h4, h5⟩ := h3.uncons
        refine iteT ⟨fun σ' H'' => ∃ (x : V) (u : Tr), σ' = [some v, some x] ∧ H'' = H' ∧ TV K H' x u ∧ u.ok ∧ u.lb = t.lb ∧ u.dep < (Tr.node kk (p :: r)).dep, ?_, ?_⟩
        · rintro σ' H'' ⟨x, u, e1, e2, e3, e4, e5, e6⟩
          exact ⟨_, e6, x, u, e1, e2, e3, e4, e5, rfl⟩
        · refine ⟨_, rfl, a1, _, 1, .ref b1, rfl, rfl, h1, rfl, b1, _, 0, y, rfl, rfl, h2, atI_nat (j := 0) rfl, y, p, rfl, rfl, h4, uok.2.2 p (by simp), ?_, ?_⟩
          · rw [← hlb, Tr.lb, lbA]
          · rw [Tr.dep, depA]; omega
end
end K23
namespace K23
open PySem PyProof.Rows PySem.Spec L2
/-! ### sorted(.., key=a def of the module) -/
section
variable {prog : Program} {w : World} {A : Around} {E : Value → Shared → Prop} {s : Shared} {a kS : Addr} {vs : List Value} {kz : List Int} {keys : Array Value} {e e1 : Nat} {G : PySem.Fin → Shared → Prop}
/-- what is asked of the heap behind the sort -/
def SortedAt (s : Shared) (a kS : Addr) (kz : List Int) (vs : List Value) (G : PySem.Fin → Shared → Prop) : Prop :=
  ∀ (h1 h' : Heap) (tk : Nat) (out : Array Value) (c c2 : Nat), (∀ b o, b ≠ kS → s.heap.get? b = some o → h1.get? b = some o) → h1.get? kS = some (seqObj "list" #[] c2) → (∀ b o, b ≠ a → h1.get? b = some o → h'.get? b = some o) →
    h'.get? a = some (seqObj "list" out c) → KskOut false kz vs out.toList → G (.done (.ret .none)) { s with heap := h', toks := tk }
theorem srt_tail {st : SortSt} (hk : s.heap.get? kS = some (seqObj "list" keys e)) (ha : s.heap.get? a = some (seqObj "list" #[] e1)) (hka : kS ≠ a) (hi : IntsAre keys.toList kz) (hlen : kz.length = vs.length) (h64 : vs.length < 64)
    (hp : (arrOf st).Perm (keys.zip vs.toArray)) (hs : SortedTo (arrOf st) (arrOf st).size) (hfl : failedOf st = none) (h : SortedAt s a kS kz vs G) : wpAny (model prog w) A (ksk_tail a false e1 (.ref kS) st) G E s := by
  have n1 : keys.size = vs.length := by rw [← Array.length_toList, ← hlen]; exact hi.length
  have n2 : (arrOf st).size = vs.length := by rw [hp.size_eq, Array.size_zip, n1, List.size_toArray, Nat.min_self]
  have u1 := Heap.SameBut.update s.heap kS (Obj.mapSeq fun _ => (#[] : Array Value))
  have ha1 : (s.heap.update kS (Obj.mapSeq fun _ => (#[] : Array Value))).get? a = some (seqObj "list" #[] e1) := (u1.2 a (Ne.symm hka)).trans ha
  have u2 := Heap.SameBut.update (s.heap.update kS (Obj.mapSeq fun _ => (#[] : Array Value))) a (Obj.mapSeq fun _ => (arrOf st).map (·.2))
  obtain ⟨c1, q1⟩ : ∃ c1, (s.heap.update kS (Obj.mapSeq fun _ => (#[] : Array Value))).get? kS = some (seqObj "list" #[] c1) := ⟨_, get?_update_seq hk fun _ => #[]⟩
  obtain ⟨c2, q2⟩ : ∃ c2, ((s.heap.update kS (Obj.mapSeq fun _ => (#[] : Array Value))).update a (Obj.mapSeq fun _ => (arrOf st).map (·.2))).get? a = some (seqObj "list" ((arrOf st).map (·.2)) c2) := ⟨_, get?_update_seq ha1 fun _ => (arrOf st).map (·.2)⟩
  have sm : ((arrOf st).map (·.2)).size ≤ sizeLine + 1 := by rw [Array.size_map, n2, sizeLine_eq]; omega
  unfold ksk_tail
  refine wpAny_bind (listUpdate_at hk rfl (wpAny_bind (wpAny_letGo (wpAny_bind (seqEpoch_at ha1 rfl ?_)))) (by rw [n1, sizeLine_eq]; omega) (Nat.zero_le _))
  refine wpAny_bind (listUpdate_at ha1 rfl ?_ (Nat.zero_le _) sm)
  rw [hfl]; simp only [bne_self_eq_false, Bool.false_eq_true, if_false]
  exact wpAny_pure (h _ _ _ _ c2 c1 (fun b o g q => (u1.2 b g).trans q) q1 (fun b o g q => (u2.2 b g).trans q) q2 (ksk_out (b := false) hi hp hs))
theorem srt_end (hk : s.heap.get? kS = some (seqObj "list" keys e)) (ha : s.heap.get? a = some (seqObj "list" #[] e1)) (hka : kS ≠ a) (hi : IntsAre keys.toList kz) (hlen : kz.length = vs.length) (h64 : vs.length < 64)
    (h : SortedAt s a kS kz vs G) : wpAny (model prog w) A (ksk_end a false vs.toArray e1 (.ref kS) keys) G E s := by
  have n1 : keys.size = vs.length := by rw [← Array.length_toList, ← hlen]; exact hi.length
  have nz : (keys.zip vs.toArray).size = vs.length := by rw [Array.size_zip, n1, List.size_toArray, Nat.min_self]
  unfold ksk_end
  (simp only [Bool.false_eq_true, if_false])
  (by_cases h2 : vs.toArray.size < 2)
  · rw [if_pos h2, if_pos h2]
    refine wpAny_bind (wpAny_pure ?_); rw [StateT.run_pure]; refine wpAny_bind (wpAny_pure ?_)
    refine srt_tail (st := SortSt.mk' general' (keys.zip vs.toArray) #[] 7 none) hk ha hka hi hlen h64 (Array.Perm.refl _) (fun i j hij hj => ?_) rfl h
    have hj2 : j < (keys.zip vs.toArray).size := hj
    rw [nz] at hj2; rw [List.size_toArray] at h2
    have ij : i = j := by omega
    subst ij; exact Int.le_refl _
  · rw [if_neg h2, if_neg h2]; rw [List.size_toArray] at h2
    rw [ksk_kind hi (by rw [n1]; omega)]
    refine wpAny_bind (wpAny_pure (wpAny_bind (wpAny_mono (wpS_sortRuns (a₀ := keys.zip vs.toArray) (st := SortSt.mk' oneType' (keys.zip vs.toArray) #[] 7 none)
      (Q := fun _ z' => (arrOf z').Perm (keys.zip vs.toArray) ∧ failedOf z' = none ∧ SortedTo (arrOf z') (keys.zip vs.toArray).size)
      (ksk_intKeys hi) ⟨Array.Perm.refl _, rfl, rfl, rfl⟩ (by rw [nz]; omega) (by rw [nz]; exact h64) fun st' a1 a2 a3 => ⟨a1, a2, a3⟩) ?_ fun _ _ e => e)))
    rintro ⟨⟨⟩, st'⟩ s' ⟨rfl, g1, g2, g3⟩
    exact srt_tail hk ha hka hi hlen h64 g1 (by rw [g1.size_eq]; exact g3) g2 h
end
end K23
namespace K23
open PySem PyProof.Rows PySem.Spec L2
/-- a rearrangement of images is the image of a rearrangement -/
theorem perm_lift {α β : Type} (f : α → β) : ∀ {l1 l2 : List β}, l1.Perm l2 → ∀ L : List α, L.map f = l2 → ∃ L' : List α, L'.Perm L ∧ L'.map f = l1 := by
  intro l1 l2 h
  induction h with
  | nil => intro L e; exact ⟨L, List.Perm.refl _, e⟩
  | cons x _ ih =>
    intro L e
    cases L with
    | nil => simp at e
    | cons a L =>
      rw [List.map_cons, List.cons.injEq] at e
      obtain ⟨L', p, q⟩ := ih L e.2
      exact ⟨a :: L', p.cons a, by rw [List.map_cons, q, e.1]⟩
  | swap x y l =>
    intro L e
    match L, e with
    | a :: b :: L, e =>
      (simp only [List.map_cons, List.cons.injEq] at e)
      exact ⟨b :: a :: L, List.Perm.swap _ _ _, by rw [List.map_cons, List.map_cons, e.1, e.2.1, e.2.2]⟩
  | trans _ _ ih1 ih2 =>
    intro L e
    obtain ⟨L', p, q⟩ := ih2 L e
    obtain ⟨L'', p2, q2⟩ := ih1 L' q
    exact ⟨L'', p2.trans p, q2⟩
theorem triples {K : PySem.W.Frag} {H : Hp} : ∀ {ps : List Tr} {xs : List V} {us : List Value}, TVs K H xs ps → Vals xs us → ∃ L : List (V × Tr × Value), L.map (·.1) = xs ∧ L.map (·.2.1) = ps ∧ L.map (·.2.2) = us ∧ ∀ t ∈ L, TV K H t.1 t.2.1 ∧ RelV t.1 t.2.2
  | [], _, _, h, r => by
    rw [h.of_nil] at r
    cases r
    exact ⟨[], by rw [h.of_nil]; rfl, rfl, rfl, fun _ z => by cases z⟩
  | p :: ps, _, _, h, r => by
    obtain ⟨v, xr, rfl, h1, h2⟩ := h.uncons
    cases r with
    | cons r1 r2 =>
      rename_i u us
      obtain ⟨L, e1, e2, e3, e4⟩ := triples h2 r2
      refine ⟨(v, p, u) :: L, by rw [List.map_cons, e1], by rw [List.map_cons, e2], by rw [List.map_cons, e3], fun t ht => ?_⟩
      rcases List.mem_cons.mp ht with rfl | ht
      · exact ⟨h1, r1⟩
      · exact e4 t ht
theorem tvs_map {K : PySem.W.Frag} {H : Hp} : ∀ {L : List (V × Tr × Value)}, (∀ t ∈ L, TV K H t.1 t.2.1) → TVs K H (L.map (·.1)) (L.map (·.2.1))
  | [], _ => TVs.nil
  | t :: L, h => TVs.cons (h t (by simp)) (tvs_map fun u hu => h u (by simp [hu]))
theorem vals_map : ∀ {L : List (V × Tr × Value)}, (∀ t ∈ L, RelV t.1 t.2.2) → Vals (L.map (·.1)) (L.map (·.2.2))
  | [], _ => .nil
  | t :: L, h => .cons (h t (by simp)) (vals_map fun u hu => h u (by simp [hu]))
/-- sorted(xs, key=least_button) -/
def rSortK (K : PySem.W.Frag) (mg : Str → Option Value) : List V → List V → Hp → VK → Prop := fun vs zs H Q => ∃ (l f : Addr) (xs : List V) (ps : List Tr), vs = [.ref l] ∧ zs = [.ref f] ∧ mg "least_button" = some (.ref f) ∧ SqL K H l xs ∧ TVs K H xs ps ∧ (∀ p ∈ ps, p.ok) ∧ ps.length < 64 ∧
  ∀ (D : Addr) (H' : Hp) (ys : List V) (qs : List Tr), Same H H' → H D = none → H' D = some (.lst ys) → TVs K H' ys qs → qs.Perm ps → qs.Pairwise (fun p q => p.lb ≤ q.lb) → Q (.ref D) H'
section
variable {X : Cx}
theorem call_sortK {j : Nat} (c : Cal X.prog X.w X.K X.mg X.base 2 "least_button" ["tree"] (spLeast X.K)) (hr : Room j X.A) (hj : 4 ≤ j) : CallRK X (.builtin "sorted") [Str.ofString "key"] (rSortK X.K X.mg) := by
  intro pins s σ H vs us zs ws Q I rv rz h
  obtain ⟨l, f, xs, ps, rfl, rfl, hmg, hS, hT, hok, h64, q⟩ := h
  rw [Vals.ref1 rv, Vals.ref1 rz]
  obtain ⟨f', fd, F, hmg', kp, hb⟩ := c.ex
  have ef : f' = f := by rw [hmg] at hmg'; cases hmg'; rfl
  subst ef
  obtain ⟨its, ri, pl, hz⟩ := I.list hS
  have hlx := hT.len
  have hli := ri.length
  have hlen : its.length = ps.length := by omega
  have sz : its.length ≤ sizeLine := by rw [sizeLine_eq]; omega
  show wpAny _ _ (call (.builtin "sorted") [.ref l] [(Str.ofString "key", .ref f')]) _ _ _
  refine call_function_entry_kw kind_sorted plain_sorted entry_sorted (ksk_s1 _ _) ?_
  unfold Builtin.«sorted»
  refine wpAny_bind (m := checkCount "sorted" 1 1 _) (wpAny_pure (wpAny_bind (collect_list pl.isList (wpAny_bind (wpAny_newList ?_ sz)) sz)))
  have g1 : ((s.heap.push (seqObj "list" #[] 0)).update s.heap.objs.size (Obj.mapSeq (· ++ its.toArray))).objs.size = s.heap.objs.size + 1 := by rw [Heap.size_update, size_push']
  have g2 : (((s.heap.push (seqObj "list" #[] 0)).update s.heap.objs.size (Obj.mapSeq (· ++ its.toArray))).push (seqObj "list" its.toArray 0)).get? (s.heap.objs.size + 1) = some (seqObj "list" its.toArray 0) := by
    rw [← g1]; exact Heap.get?_push_size _ rfl
  have g3 : ∀ b o, s.heap.get? b = some o → (((s.heap.push (seqObj "list" #[] 0)).update s.heap.objs.size (Obj.mapSeq (· ++ its.toArray))).push (seqObj "list" its.toArray 0)).get? b = some o := fun b o z => by
    have lt : b < s.heap.objs.size := Heap.lt_size z
    rw [Heap.get?_push_ne _ _ _ (by rw [g1]; exact Nat.ne_of_lt (Nat.lt_succ_of_lt lt)), Heap.get?_update_ne _ _ _ _ (Nat.ne_of_lt lt), Heap.get?_push_ne _ _ _ (Nat.ne_of_lt lt)]
    exact z
  show wpAny _ _ _ _ _ { s with heap := ((s.heap.push (seqObj "list" #[] 0)).update s.heap.objs.size (Obj.mapSeq (· ++ its.toArray))).push (seqObj "list" its.toArray 0) }
  rw [g1]
  generalize hh2 : ((s.heap.push (seqObj "list" #[] 0)).update s.heap.objs.size (Obj.mapSeq (· ++ its.toArray))).push (seqObj "list" its.toArray 0) = h2 at g2 g3 ⊢
  have hDn : H (s.heap.objs.size + 1) = none := I.hok.fresh (Nat.le_succ _)
  have I2 : Inv X pins σ (upd H (s.heap.objs.size + 1) (.lst xs)) { s with heap := h2 } := I.laid (t' := s.toks) g3 (Nat.le_succ _) ⟨hz, its, 0, ri, g2⟩
  generalize hD : s.heap.objs.size + 1 = D at g2 hDn I2 ⊢
  refine wpAny_bind (wpAny_holding (wpAny_call_entry_kw slot_list_sort ⟨_, g2, rfl⟩ entry_list_sort ?_ (ksk_l1 _ _)))
  show wpAny (model X.prog X.w) X.A.in1.in1 (Builtin.«list.sort» ⟨[.ref D], [(Str.ofString "key", .ref f')]⟩) _ _ _
  rw [ksk_t1]
  unfold ksk_tree
  refine wpAny_bind (listItems_at g2 rfl (wpAny_bind (listUpdate_at g2 rfl ?_ (by rw [List.size_toArray]; exact sz) (Nat.zero_le _))))
  obtain ⟨e1, he1⟩ : ∃ e1, (h2.update D (Obj.mapSeq fun _ => (#[] : Array Value))).get? D = some (seqObj "list" #[] e1) := ⟨_, get?_update_seq g2 fun _ => #[]⟩
  -- D as it stands, its epoch too
  obtain ⟨φ, hφ⟩ : ∃ φ : Heap → Prop, φ = fun h => h.get? D = some (seqObj "list" #[] e1) := ⟨_, rfl⟩
  have I3 : Inv X pins σ (upd (upd H D (.lst xs)) D (.ext φ)) { s with heap := h2.update D (Obj.mapSeq fun _ => #[]) } := by
    refine I2.write (t' := s.toks) (x := D) (e := D) (by rw [upd_same]; trivial) (.inl rfl) (fun b u hb z => ((Heap.SameBut.update h2 D _).2 b hb).trans z) ⟨_, he1⟩ ⟨by rw [hφ]; exact he1, ⟨_, he1⟩, fun a1 a2 p k => ?_⟩
    rw [hφ] at p ⊢
    exact k _ p
  rw [upd_upd] at I3
  refine wpAny_bind (seqEpoch_at he1 rfl (wpAny_bind (wpAny_newTuple ?_ (by show its.length ≤ _; exact sz))))
  have I4 : Inv X pins σ (upd H D (.ext φ)) { s with heap := (h2.update D (Obj.mapSeq fun _ => #[])).push (seqObj "tuple" its.toArray 0) } := I3.kept (t' := s.toks) fun b o z => Heap.get?_push_of_some _ z
  have he4 : ((h2.update D (Obj.mapSeq fun _ => (#[] : Array Value))).push (seqObj "tuple" its.toArray 0)).get? D = some (seqObj "list" #[] e1) := Heap.get?_push_of_some _ he1
  generalize hh4 : (h2.update D (Obj.mapSeq fun _ => (#[] : Array Value))).push (seqObj "tuple" its.toArray 0) = h4 at I4 he4
  (refine wpAny_bind (wpAny_newList ?_ (Nat.zero_le _)))
  have I5 := I4.lnew (ys := []) (its := []) (t' := s.toks) .nil (Nat.zero_le _)
  have hkn : (upd H D (.ext φ)) h4.objs.size = none := I4.hok.fresh (Nat.le_refl _)
  generalize hk : h4.objs.size = kS at I5 hkn
  have hkD : kS ≠ D := fun z => by rw [z, upd_same] at hkn; cases hkn
  have hkH : H kS = none := by rw [upd_ne hkD] at hkn; exact hkn
  refine wpAny_holding ?_
  show wpAny _ _ (ksk_rest D (.ref f') false its.toArray e1 (.ref kS)) _ _ { s with heap := h4.push (seqObj "list" #[] 0) }
  have I5' : Inv X pins σ (upd (upd H D (.ext φ)) kS (.lst [])) { s with heap := h4.push (seqObj "list" #[] 0) } := I5
  unfold ksk_rest
  (refine wpAny_bind (wpAny_rule ?_))
  rw [List.forIn_toArray]
  have room : Room 2 X.A.in1.in1 := ((hr.mono hj : Room 4 X.A).in1).in1
  refine wpAny_bind (ksk_fold (fun i s' => ∃ Hc, Inv X pins σ Hc s' ∧ Same H Hc ∧ Hc D = some (.ext φ) ∧ Hc kS = some (.lst (((ps.take i).map Tr.lb).map V.int))) its 0 _ ?_ ?_ ?_)
  · refine ⟨_, I5', (Same.new hDn).trans (Same.new hkn), ?_, ?_⟩
    · rw [upd_ne (Ne.symm hkD)]; exact upd_same
    · exact upd_same
  · rintro i x s' hx ⟨Hc, Ic, sc, hcD, hcK⟩
    rw [Nat.zero_add] at hcK ⊢
    have hi : i < its.length := (List.getElem?_eq_some_iff.mp hx).1
    obtain ⟨u, hu, rux⟩ := ri.get (List.getElem?_eq_getElem (show i < xs.length by omega))
    have eu : u = x := by rw [hx] at hu; cases hu; rfl
    subst eu
    obtain ⟨p, hp, hv⟩ := hT.get (List.getElem?_eq_getElem (show i < xs.length by omega))
    have hpm := List.mem_of_getElem? hp
    have run := F.run X.A.in1.in1 X.stack s' Hc ⟨[u], []⟩ [u] [xs[i]] (fun v H' => v = .int p.lb ∧ H' = Hc) E0 room Ic.env0.in1.in1 (hb s' [u] Ic.kIn rfl) (.cons rux .nil) ⟨_, p, rfl, hv.mono sc, hok p hpm, rfl, rfl⟩
    refine wpAny_bind (wpAny_attempt (wpAny_call (codeAny_mono run fun r s2 hr2 => ?_)))
    cases r with
    | error er => exact hr2.elim
    | ok fl =>
      cases fl with
      | next => exact False.elim hr2
      | brk => exact False.elim hr2
      | cont => exact False.elim hr2
      | ret z =>
        obtain ⟨v, H2, J2, rz2, ev, eH⟩ := Ic.after hr2
        subst ev eH
        obtain ⟨tk, rfl⟩ := rz2
        obtain ⟨zl, kit, kn, kr, kl, ke⟩ := J2.lstM hcK
        have kz : kit.length = i := by
          rw [← kl, List.length_map, List.length_map, List.length_take]; omega
        have J3 := J2.lset (t' := s2.toks) (its' := kit ++ [.int p.lb tk]) (ys := ((ps.take (i + 1)).map Tr.lb).map V.int) (f := (·.push (.int p.lb tk))) hcK ke (by simp) ?_ ?_
        · refine wpAny_bind (listUpdate_at ke rfl (wpAny_pure ⟨rfl, _, J3, ?_, ?_, ?_⟩) ?_ ?_)
          · exact fun b o z => by rw [upd_ne (ne_of_none z hkH)]; exact sc b o z
          · rw [upd_ne (Ne.symm hkD)]; exact hcD
          · exact upd_same
          · rw [List.size_toArray, kz, sizeLine_eq]; omega
          · rw [Array.size_push, List.size_toArray, kz, sizeLine_eq]; omega
        · have et : ps.take (i + 1) = ps.take i ++ [p] := by rw [List.take_add_one, hp]; rfl
          rw [et, List.map_append, List.map_append]
          exact kr.append (.cons ⟨tk, rfl⟩ .nil)
        · rw [List.length_map, List.length_map, List.length_take, sizeLine_eq]; omega
  · rintro s' ⟨Hc, Ic, sc, hcD, hcK⟩
    rw [Nat.zero_add, hlen, List.take_length] at hcK
    obtain ⟨zl, kit, kn, kr, kl, ke⟩ := Ic.lstM hcK
    have hdD : φ s'.heap := (Ic.hok D _ hcD).1
    rw [hφ] at hdD
    have hkz := kr.ints
    refine wpAny_bind (listItems_at ke rfl (srt_end (kz := ps.map Tr.lb) ke hdD hkD (by simpa using hkz) (by rw [List.length_map]; omega) (by omega) ?_))
    intro h1 h' tk out c c2 k1 k2 k3 k4 ko
    have W1 : Inv X pins σ (upd Hc kS (.lst [])) { s' with heap := h1 } := Ic.write (t' := s'.toks) (x := kS) (e := kS) (by rw [hcK]; trivial) (.inl rfl) k1 ⟨_, k2⟩ ⟨Nat.zero_le _, [], c2, .nil, k2⟩
    have hcD1 : (upd Hc kS (.lst [])) D = some (.ext φ) := by rw [upd_ne (Ne.symm hkD)]; exact hcD
    obtain ⟨pz, hpz, eo, hpw⟩ := ko
    obtain ⟨L, l1, l2, l3, l4⟩ := triples hT ri
    obtain ⟨L', p1, p2⟩ := perm_lift (fun t : V × Tr × Value => (t.2.1.lb, t.2.2)) hpz L (by
      rw [← l2, ← l3, List.map_map, List.zip_map']
      rfl)
    have m4 : ∀ t ∈ L', TV X.K H t.1 t.2.1 ∧ RelV t.1 t.2.2 := fun t ht => l4 t (p1.mem_iff.mp ht)
    have eo2 : out.toList = L'.map (·.2.2) := by rw [eo, ← p2, List.map_map]; rfl
    have hlo : (L'.map (·.1)).length ≤ sizeLine := by
      rw [List.length_map, p1.length_eq, ← List.length_map (f := (·.1)), l1]; exact hz
    have W2 : Inv X pins σ (upd (upd Hc kS (.lst [])) D (.lst (L'.map (·.1)))) { s' with heap := h', toks := tk } := W1.write (t' := tk) (x := D) (e := D) (by rw [hcD1]; trivial) (.inl rfl) k3 ⟨_, k4⟩
      ⟨hlo, L'.map (·.2.2), c, vals_map fun t ht => (m4 t ht).2, by rw [← eo2, Array.toArray_toList]; exact k4⟩
    have sH : Same H (upd (upd Hc kS (.lst [])) D (.lst (L'.map (·.1)))) := fun b o z => by
      rw [upd_ne (ne_of_none z hDn), upd_ne (ne_of_none z hkH)]; exact sc b o z
    refine ⟨_, rfl, wpAny_pure ⟨_, rfl, ⟨.ref D, _, W2, rfl, q D _ _ (L'.map (·.2.1)) sH hDn upd_same ?_ ?_ ?_⟩⟩⟩
    · exact (tvs_map fun t ht => (m4 t ht).1).mono sH
    · rw [← l2]; exact p1.map _
    · rw [List.pairwise_map]
      rw [← p2, List.pairwise_map] at hpw
      exact hpw.imp fun {a b} z => by simpa using z
end
end K23
namespace K23
open PySem PyProof.Rows PySem.Spec L2
theorem dec_i (a b : Int) : decide (V.int a = V.int b) = decide (a = b) := decide_eq_decide.mpr ⟨fun h => by injection h, fun h => by rw [h]⟩
/-- a list that changes: tuples stay as they are -/
theorem sqT_upd {K : PySem.W.Frag} {H : Hp} {m a : Addr} {ys xs : List V} {o : HO} (e : H m = some (.lst ys)) (h : SqT K H a xs) : SqT K (upd H m o) a xs := by
  rcases h with (h | ⟨u, h⟩) | h
  · exact .inl (.inl (by rw [upd_ne (ne_of h e (by intro z; cases z))]; exact h))
  · exact .inl (.inr ⟨u, by rw [upd_ne (ne_of h e (by intro z; cases z))]; exact h⟩)
  · exact .inr h
theorem tvs_of {K : PySem.W.Frag} {H H' : Hp} : ∀ {ps : List Tr} {vs : List V}, TVs K H vs ps → (∀ p ∈ ps, ∀ v, TV K H v p → TV K H' v p) → TVs K H' vs ps
  | [], _, h, _ => by rw [h.of_nil]; exact TVs.nil
  | p :: ps, _, h, g => by
    obtain ⟨v, r, rfl, h1, h2⟩ := h.uncons
    exact TVs.cons (g p (by simp) v h1) (tvs_of h2 fun q hq => g q (by simp [hq]))
theorem tv_upd {K : PySem.W.Frag} {H : Hp} {m : Addr} {ys : List V} {o : HO} (e : H m = some (.lst ys)) : ∀ (t : Tr) (v : V), TV K H v t → TV K (upd H m o) v t := by
  refine Tr.ind (fun b v h => tv_leaf.mpr (tv_leaf.mp h)) fun k ps ih v h => ?_
  obtain ⟨a, b, vs, rfl, h1, h2, h3⟩ := tv_node.mp h
  exact tv_node.mpr ⟨a, b, vs, rfl, sqT_upd e h1, sqT_upd e h2, tvs_of h3 fun p hp v hv => ih p hp v hv⟩
theorem tvs_upd {K : PySem.W.Frag} {H : Hp} {m : Addr} {ys vs : List V} {ps : List Tr} {o : HO} (e : H m = some (.lst ys)) (h : TVs K H vs ps) : TVs K (upd H m o) vs ps := tvs_of h fun p _ v hv => tv_upd e p v hv
section
variable {w : World} {P : Program} {K : PySem.W.Frag} {base : Heap} {mg : Str → Option Value}
/-! ### is_like_trip: slots part 0, bound 1, many 2 -/
def spLike (K : PySem.W.Frag) : Sp := fun vs H Q _ => ∃ (v : V) (t : Tr) (bound : Int) (many : Nat), vs = [v, .int bound, .int (many : Int)] ∧ TV K H v t ∧ Q (.bl (like bound many t)) H
theorem sc_is_like_trip : FnScope ["part", "bound", "many"] ["part", "bound", "many"] (defScope (topS 11)) := ⟨rfl, rfl, rfl, by decide +kernel, rfl, by decide +kernel, by decide +kernel⟩
theorem c_is_like_trip (T : Txt K mg) : Cal P w K mg base 2 "is_like_trip" ["part", "bound", "many"] (spLike K) := by
  refine Cal.mk' T.d_is_like_trip sc_is_like_trip (fun _ _ _ _ _ _ us hl => match us, hl with | [_, _, _], _ => rfl) (fun vs H Q E h => ?_) (fun f cdv A outer s H vs Q E hr h => ?_)
  · obtain ⟨_, _, _, _, rfl, _⟩ := h; rfl
  · obtain ⟨v, t, bound, many, rfl, ht, k⟩ := h
    refine ⟨_, (pss_cons (ps_if (pt_not (pt_val (pc (c_is_trip T) hr (by decide) (by rfl) (pa_cons (pv 0) pa_nil)))) (pss_one (ps_ret pe_bl)) pss_nil)
        (pss_one (ps_ret (pe_or (pe_and (pe_cmpR op_eq (pv 1) pe_int (nomark _)) (pe_one (pe_cmpR op_eq (pe_ix ix_tup (pv 0) pe_int (fun _ _ => rfl)) pe_int (nomark _)))) (pe_one (pe_and (pe_cmpR op_eq (pv 1) (pv 2) (nomark _)) (pe_one (pe_cmpR op_eq (pe_ix ix_tup (pv 0) pe_int (fun _ _ => rfl)) (pe_callB call_len_seq (by rfl) T.n_len boot_len (pa_cons (pe_ix ix_tup (pv 0) pe_int (fun _ _ => rfl)) pa_nil)) (nomark _))))))))), ?_⟩
    cases t with
    | leaf b => exact ⟨_, rfl, _, _, rfl, ht, _, rfl, iteT k⟩
    | node kk ps =>
      obtain ⟨a, b, us, rfl, h1, h2, h3⟩ := tv_node.mp ht
      refine ⟨_, rfl, _, _, rfl, ht, _, rfl, iteF ?_⟩
      rw [like] at k
      (refine ⟨_, rfl, rfl, _, rfl, ?_⟩)
      rw [dec_i]
      by_cases c1 : bound = 1
      · rw [decide_eq_true c1] at k ⊢
        refine iteT ⟨_, rfl, a, _, 0, .int kk, rfl, rfl, h1, rfl, rfl, _, rfl, ?_⟩
        rw [dec_i]
        by_cases c2 : kk = 1
        · rw [decide_eq_true c2] at k ⊢
          exact iteT k
        · rw [decide_eq_false c2] at k ⊢
          refine iteF ⟨_, rfl, _, rfl, rfl, _, rfl, ?_⟩
          rw [dec_i]
          by_cases c3 : bound = (many : Int)
          · rw [decide_eq_true c3] at k ⊢
            refine iteT ⟨_, rfl, a, _, 0, .int kk, rfl, rfl, h1, rfl, _, rfl, a, _, 1, .ref b, rfl, rfl, h1, rfl, b, us, rfl, .inr h2, rfl, ?_⟩
            rw [dec_i, h3.len]
            simpa using k
          · rw [decide_eq_false c3] at k ⊢
            exact iteF (by simpa using k)
      · rw [decide_eq_false c1] at k ⊢
        refine iteF ⟨_, rfl, iteF ⟨_, rfl, _, rfl, rfl, _, rfl, ?_⟩⟩
        rw [dec_i]
        by_cases c3 : bound = (many : Int)
        · rw [decide_eq_true c3] at k ⊢
          refine iteT ⟨_, rfl, a, _, 0, .int kk, rfl, rfl, h1, rfl, _, rfl, a, _, 1, .ref b, rfl, rfl, h1, rfl, b, us, rfl, .inr h2, rfl, ?_⟩
          rw [dec_i, h3.len]
          simpa using k
        · rw [decide_eq_false c3] at k ⊢
          exact iteF (by simpa using k)
/-! ### told_trip: slots bound 0, parts 1, found 2, part 3 -/
def spToldTrip (K : PySem.W.Frag) : Sp := fun vs H Q _ => ∃ (bound : Int) (l : Addr) (xs : List V) (qs : List Tr), vs = [.int bound, .ref l] ∧ H l = some (.lst xs) ∧ TVs K H xs qs ∧ 1 ≤ bound ∧ bound ≤ (qs.length : Int) ∧ (∀ q ∈ qs, q.ok) ∧ (btns qs).Nodup ∧ (btns qs).length ≤ 24 ∧
  ∀ (v' : V) (H' : Hp), Same H H' → TV K H' v' (mk srt bound qs) → Q v' H'
theorem sc_told_trip : FnScope ["bound", "parts", "found", "part"] ["bound", "parts"] (defScope (topS 12)) := ⟨rfl, rfl, rfl, by decide +kernel, rfl, by decide +kernel, by decide +kernel⟩
theorem c_told_trip (T : Txt K mg) : Cal P w K mg base 5 "told_trip" ["bound", "parts"] (spToldTrip K) := by
  refine Cal.mk' T.d_told_trip sc_told_trip (fun _ _ _ _ _ _ us hl => match us, hl with | [_, _], _ => rfl) (fun vs H Q E h => ?_) (fun f cdv A outer s H vs Q E hr h => ?_)
  · obtain ⟨_, _, _, _, rfl, _⟩ := h; rfl
  · obtain ⟨bound, l, xs, qs, rfl, hl, hT, b1, b2, ho, nd, h24, k⟩ := h
    obtain ⟨fl, fdl, _, hml⟩ := T.d_least_button.ex
    refine ⟨_, (pss_cons (ps_if (pt_cmpR op_eq (pe_callB call_len_seq (by rfl) T.n_len boot_len (pa_cons (pv 1) pa_nil)) pe_int (nomark _)) (pss_one (ps_ret (pe_ix ix_list (pv 1) pe_int (fun _ _ => rfl)))) pss_nil)
        (pss_cons (ps_set (i := 2) sc_told_trip.nd rfl (Or.inl rfl) (pe_lst pa_nil))
        (pss_cons (ps_for PassesOwn.never rfl (pi_list (pv 1)) (pg_name (i := 3) sc_told_trip.nd rfl (Or.inl rfl))
          (pss_one (ps_if (pt_val (pc (c_is_like_trip T) hr (by decide) (by rfl) (pa_cons (pv 3) (pa_cons (pv 0) (pa_cons (pe_callB call_len_seq (by rfl) T.n_len boot_len (pa_cons (pv 1) pa_nil)) pa_nil))))) (pss_one (ps_expr (pe_bm PySem.F.plainAttrs_list PySem.F.slot_list_extend PySem.F.type_list_extend mt_extT (pv 2) (pa_cons (pe_ix ix_tup (pv 3) pe_int (fun _ _ => rfl)) pa_nil)))) (pss_one (ps_expr (pe_bm PySem.F.plainAttrs_list PySem.F.slot_list_append PySem.F.type_list_append mt_append (pv 2) (pa_cons (pv 3) pa_nil)))))))
        (pss_one (ps_ret (pe_tup (pa_cons (pe_ifExp (pt_cmpR op_eq (pv 0) (pe_callB call_len_seq (by rfl) T.n_len boot_len (pa_cons (pv 1) pa_nil)) (nomark _)) (pe_callB call_len_seq (by rfl) T.n_len boot_len (pa_cons (pv 2) pa_nil)) (pv 0)) (pa_cons (pe_tupleOf (by rfl) T.n_tuple (pe_callBK (call_sortK (c_least_button T) hr (by decide)) (by rfl) T.n_sorted boot_sorted (pa_cons (pv 2) pa_nil) (pk_cons (pe_glob (v := .ref fl) (by rfl) hml rfl) pk_nil))) pa_nil)))))))), ?_⟩
    have hlen := hT.len
    refine ⟨_, rfl, l, xs, rfl, .inl (SqL.of hl), rfl, _, rfl, ?_⟩
    rw [dec_i, hlen]
    unfold mk at k
    by_cases c : qs.length = 1
    · rw [decide_eq_true (by omega)]
      rw [if_pos c] at k
      obtain ⟨q, rfl⟩ := List.length_eq_one_iff.mp c
      obtain ⟨v, r, rfl, h1, h2⟩ := hT.uncons
      exact iteT ⟨_, rfl, l, _, 0, v, rfl, rfl, SqL.of hl, atI_nat (j := 0) rfl, k v H (Same.refl H) h1⟩
    · rw [decide_eq_false (by omega)]
      rw [if_neg c] at k
      refine iteF ⟨by show 0 ≤ sizeLine; decide, fun m hm => ?_⟩
      have s0 : Same H (upd H m (.lst [])) := Same.new hm
      refine ⟨_, rfl, l, rfl, ⟨_, SqL.of (s0 _ _ hl)⟩, for_list (K := K) (a := l) (xs := xs) (fun i σ H' => ∃ (o : Option V) (ys : List V), σ = [some (.int bound), some (.ref l), some (.ref m), o] ∧ Same H H' ∧ H' m = some (.lst ys) ∧ TVs K H' ys (flat bound qs.length (qs.take i)))
        ⟨none, [], rfl, s0, upd_same, TVs.nil⟩ (fun i σ H' _ ⟨_, _, _, s1, _⟩ => SqL.of (s1 _ _ hl)) ?_ ?_⟩
      · rintro i x σ H' hx ⟨o, ys, rfl, s1, e1, hys⟩
        obtain ⟨p, hp, hv⟩ := (hT.mono s1).get hx
        have hpm := List.mem_of_getElem? hp
        have ef := flat_take (k := bound) (n := qs.length) qs i p hp
        have f24 := flat_short (k := bound) (n := qs.length) ho h24 i
        have ylen := hys.len
        refine ⟨_, rfl, _, rfl, _, rfl, l, xs, rfl, .inl (SqL.of (s1 _ _ hl)), x, p, bound, qs.length, by rw [hlen]; rfl, hv, _, rfl, ?_⟩
        cases hk : like bound qs.length p with
        | true =>
          rw [hk, if_pos rfl] at ef
          cases p with
          | leaf b => rw [like] at hk; cases hk
          | node kk ps =>
            obtain ⟨a2, b2, us, rfl, h1, h2, h3⟩ := tv_node.mp hv
            have p24 : ps.length ≤ 24 := by
              have z1 := ho _ hpm
              rw [Tr.ok, okA_iff] at z1
              have z2 := plen_le z1.2.2
              have z3 := len_part hpm
              rw [btn_node] at z3
              omega
            have ulen := h3.len
            refine iteT ⟨_, rfl, .inl ⟨rfl, _, SqL.of e1⟩, _, rfl, a2, _, 1, .ref b2, rfl, rfl, h1, rfl, m, b2, ys, us, rfl, rfl, e1, h2, by omega, some (.ref a2), ys ++ us, rfl, s1.up hm, upd_same, ?_⟩
            rw [ef]
            exact tvs_upd e1 (hys.append h3)
        | false =>
          rw [hk, if_neg Bool.false_ne_true] at ef
          refine iteF ⟨_, rfl, .inl ⟨rfl, _, SqL.of e1⟩, _, rfl, m, ys, x, rfl, rfl, e1, size_lt (by omega), some x, ys ++ [x], rfl, s1.up hm, upd_same, ?_⟩
          rw [ef]
          exact tvs_upd e1 (hys.append (TVs.cons hv TVs.nil))
      · rintro σ H' ⟨o, ys, rfl, s1, e1, hys⟩
        rw [hlen, List.take_length] at hys
        have f24 := flat_short (k := bound) (n := qs.length) ho h24 qs.length
        rw [List.take_length] at f24
        have ylen := hys.len
        have nF : (btns (flat bound qs.length qs)).Nodup := by rw [btns_flat]; exact nd
        -- the tuple's first item, then the parts put in order
        refine ⟨_, rfl, _, rfl, l, xs, rfl, .inl (SqL.of (s1 _ _ hl)), rfl, _, rfl, ?_⟩
        rw [dec_i, hlen]
        have rest : ∀ kk : Int, (kk = if bound = (qs.length : Int) then ((flat bound qs.length qs).length : Int) else bound) → tCons (tThen (tCKw (rSortK K mg) (tCons (tVar 2) tNil) (tCons (tC (.ref fl)) tNil)) (kTup K)) tNil [some (.int bound), some (.ref l), some (.ref m), o] H' (fun ws H2 => ([V.int kk] ++ ws).length ≤ sizeLine ∧ ∀ p, H2 p = none → Q (.ref p) (upd H2 p (.tup ([V.int kk] ++ ws)))) := by
          rintro kk rfl
          refine ⟨_, rfl, m, fl, ys, _, rfl, rfl, hml, SqL.of e1, hys, flat_oks ho, by omega, fun D H2 zs rs s2 hD e2 hz hp hs => .inl ⟨D, _, rfl, SqL.of e2, fun q hq => ⟨by show 2 ≤ sizeLine; decide, fun p hp' => k _ _ ?_ ?_⟩⟩⟩
          · exact ((s1.trans s2).trans (Same.new hq)).trans (Same.new hp')
          · rw [srt_of nF (flat_oks ho) hp hs] at hz
            refine tv_node.mpr ⟨p, q, zs, rfl, SqT.of upd_same, SqT.of ?_, hz.mono ((Same.new hq).trans (Same.new hp'))⟩
            rw [upd_ne (ne_of_none upd_same hp')]
            exact upd_same
        by_cases c2 : bound = (qs.length : Int)
        · rw [decide_eq_true c2]
          refine iteT ⟨_, rfl, m, ys, rfl, .inl (SqL.of e1), ?_⟩
          exact rest _ (by rw [if_pos c2, ylen])
        · rw [decide_eq_false c2]
          exact iteF ⟨_, rfl, rest _ (by rw [if_neg c2])⟩
end
end K23
namespace K23
open PySem PyProof.Rows PySem.Spec L2
/-- all parts, each by its value -/
theorem lcMap {K : PySem.W.Frag} {b : Addr} {vs : List V} {ps : List Tr} {σ : L2.St} {H : Hp} {j : Nat} {te : TE} {ws : List Nat} {Qd : Addr → Hp → Prop} (g : Tr → Tr)
    (hS : SqT K H b vs) (hT : TVs K H vs ps) (hz : ps.length ≤ 1000) (hw : ∀ x, wipe ((wipe σ ws).set j (some x)) ws = wipe σ ws)
    (he : ∀ v p H' (R : VK), p ∈ ps → Same H H' → TV K H' v p → (∀ v' H'', Same H' H'' → TV K H'' v' (g p) → R v' H'') → te ((wipe σ ws).set j (some v)) H' R)
    (hq : ∀ D H' ys, Same H H' → H D = none → H' D = some (.lst ys) → TVs K H' ys (ps.map g) → Qd D H') :
    ∃ a, V.ref b = .ref a ∧ (∃ xs, SqT K H a xs) ∧ ∀ D, H D = none → ∃ W : Nat → Nat → Hp → Prop, (∃ m, W 0 m (upd H D (.lst []))) ∧ ∀ i m H, W i m H →
      ((Itt K a).stop i H ∧ Qd D H) ∨ ((Itt K a).go i H ∧ ∃ Nx : Hp → Prop, (∀ H', Nx H' → ∃ m', m' < m ∧ W (i + 1) m' H') ∧ ∀ x H', (Itt K a).yld i H x H' → gName j x (wipe σ ws) H' fun σ2 H2 => wipe σ2 ws = wipe σ ws ∧ tYes σ2 H2 fun b H3 =>
        if b = true then te σ2 H3 fun z G4 => ∃ got, G4 D = some (.lst got) ∧ got.length < sizeLine ∧ Nx (upd G4 D (.lst (got ++ [z]))) else Nx H3) := by
  refine ⟨b, rfl, ⟨vs, hS⟩, fun D hD => ?_⟩
  have hlen := hT.len
  refine lc_tup (K := K) (a := b) (xs := vs) (Qd := fun H' => Qd D H') (fun i H' => ∃ ys, Same H H' ∧ H' D = some (.lst ys) ∧ TVs K H' ys ((ps.take i).map g)) ⟨[], Same.new hD, upd_same, TVs.nil⟩ (fun i H' _ ⟨_, h, _⟩ => h.seqT hS) (fun i x H' hx ⟨ys, s1, e1, hys⟩ => ?_) (fun H' ⟨ys, s1, e1, hys⟩ => ?_)
  · obtain ⟨p, hp, hv⟩ := (hT.mono s1).get hx
    have hpm := List.mem_of_getElem? hp
    have hil := (List.getElem?_eq_some_iff.mp hp).1
    refine ⟨hw x, ?_⟩
    unfold tYes
    simp only [if_true]
    refine he x p H' _ hpm s1 hv fun v' H4 s4 hv' => ⟨ys, s4 _ _ e1, ?_, ys ++ [v'], (s1.trans s4).up hD, upd_same, ?_⟩
    · have := hys.len
      rw [List.length_map, List.length_take] at this
      exact size_lt (by omega)
    · have et : ps.take (i + 1) = ps.take i ++ [p] := by rw [List.take_add_one, hp]; rfl
      rw [et, List.map_append]
      exact tvs_upd (s4 _ _ e1) ((hys.mono s4).append (TVs.cons hv' TVs.nil))
  · rw [hlen, List.take_length] at hys
    exact hq D H' ys s1 hD e1 hys
section
variable {w : World} {P : Program} {K : PySem.W.Frag} {base : Heap} {mg : Str → Option Value}
/-! ### told: slots tree 0, part 1 -/
def spTold (K : PySem.W.Frag) (d : Nat) : Sp := fun vs H Q _ => ∃ (v : V) (t : Tr), vs = [v] ∧ TV K H v t ∧ Sm t ∧ t.btn.Nodup ∧ t.dep ≤ d ∧ ∀ (v' : V) (H' : Hp), Same H H' → TV K H' v' (t.norm srt) → Q v' H'
theorem sc_told : FnScope ["tree", "part"] ["tree"] (defScope (topS 13)) := ⟨rfl, rfl, rfl, by decide +kernel, rfl, by decide +kernel, by decide +kernel⟩
theorem norm_parts {ps : List Tr} (h : ∀ p ∈ ps, p.ok) : (∀ q ∈ ps.map (Tr.norm srt), q.ok) ∧ (btns (ps.map (Tr.norm srt))).Perm (btns ps) := by
  refine ⟨fun q hq => ?_, ?_⟩
  · obtain ⟨p, hp, rfl⟩ := List.mem_map.mp hq
    exact (norm_ok srt_perm p (h p hp)).ok
  · induction ps with
    | nil => exact List.Perm.refl _
    | cons p r ih =>
      rw [List.map_cons, btns, btns]
      exact (norm_ok srt_perm p (h p (by simp))).btn.append (ih fun q hq => h q (by simp [hq]))
theorem nd_part {ps : List Tr} (h : (btns ps).Nodup) : ∀ p ∈ ps, p.btn.Nodup := by
  induction ps with
  | nil => intro p hp; cases hp
  | cons q r ih =>
    intro p hp
    rw [btns, List.nodup_append] at h
    (rcases List.mem_cons.mp hp with rfl | hp)
    · exact h.1
    · exact ih h.2.1 p hp
theorem c_told (T : Txt K mg) : ∀ d : Nat, Cal P w K mg base (d + 6) "told" ["tree"] (spTold K d) := by
  intro d
  induction d with
  | zero =>
    refine Cal.mk' T.d_told sc_told (fun _ _ _ _ _ _ us hl => match us, hl with | [_], _ => rfl) (fun vs H Q E h => ?_) (fun f cdv A outer s H vs Q E hr h => ?_)
    · obtain ⟨_, _, rfl, _⟩ := h; rfl
    · obtain ⟨v, t, rfl, ht, sm, nd, hd, k⟩ := h
      obtain ⟨b, rfl⟩ := dep_zero hd
      refine ⟨_, (pss_one (ps_ret (pe_ifExp (tb := tVar 0) (ta := fun _ _ _ => False) (pt_val (pc (c_is_trip T) hr (by decide) (by rfl) (pa_cons (pv 0) pa_nil))) ⟨fun _ _ _ _ _ _ z => z.elim⟩ (pv 0)))), ?_⟩
      exact ⟨_, rfl, v, _, rfl, ht, _, rfl, iteF ⟨_, rfl, k v H (Same.refl H) (by rw [Tr.norm]; exact ht)⟩⟩
  | succ d ih =>
    refine Cal.mk' T.d_told sc_told (fun _ _ _ _ _ _ us hl => match us, hl with | [_], _ => rfl) (fun vs H Q E h => ?_) (fun f cdv A outer s H vs Q E hr h => ?_)
    · obtain ⟨_, _, rfl, _⟩ := h; rfl
    · obtain ⟨v, t, rfl, ht, sm, nd, hd, k⟩ := h
      refine ⟨_, (pss_one (ps_ret (pe_ifExp (pt_val (pc (c_is_trip T) hr (by omega) (by rfl) (pa_cons (pv 0) pa_nil))) (pc (c_told_trip T) hr (by omega) (by rfl) (pa_cons (pe_ix ix_tup (pv 0) pe_int (fun _ _ => rfl)) (pa_cons (pe_lc (own := [("part", 1)]) rfl sc_told.nd (pi_tup (pe_ix ix_tup (pv 0) pe_int (fun _ _ => rfl))) (blkOk_by (N := ["tree", "part"]) (sc := defScope (topS 13)) (by decide +kernel)) (fun _ _ _ _ _ => (pg_name (i := 1) sc_told.nd rfl (Or.inl rfl))) (fun _ _ _ _ _ => pts_nil) (fun _ _ _ _ _ => (pc ih hr (by omega) (by rfl) (pa_cons (pv 1) pa_nil)))) pa_nil))) (pv 0)))), ?_⟩
      cases t with
      | leaf b => exact ⟨_, rfl, v, _, rfl, ht, _, rfl, iteF ⟨_, rfl, k v H (Same.refl H) (by rw [Tr.norm]; exact ht)⟩⟩
      | node kk ps =>
        obtain ⟨a, b, us, rfl, h1, h2, h3⟩ := tv_node.mp ht
        rw [btn_node] at nd
        have bd := sm.bd
        have l24 := sm.len
        rw [btn_node] at l24
        obtain ⟨n1, n2⟩ := norm_parts sm.oks
        refine ⟨_, rfl, _, _, rfl, ht, _, rfl, iteT ⟨_, rfl, a, _, 0, .int kk, rfl, rfl, h1, rfl, _, rfl, a, _, 1, .ref b, rfl, rfl, h1, rfl, lcMap (Tr.norm srt) h2 h3 (by have := sm.plen; omega) (fun _ => rfl) ?_ ?_⟩⟩
        · intro v p H' R hp s1 hv hR
          exact ⟨_, rfl, v, p, rfl, hv, sm.part hp, nd_part nd p hp, dep_part hd hp, hR⟩
        · intro D H' ys s1 hD e1 hys
          refine ⟨kk, D, ys, _, rfl, e1, hys, bd.1, by rw [List.length_map]; exact bd.2, n1, n2.symm.nodup nd, by rw [n2.length_eq]; exact l24, fun v' H2 s2 hv' => k v' H2 (s1.trans s2) ?_⟩
          rw [Tr.norm, normA_eq]
          exact hv'
/-! ### _law_held: slots _law_tree_here 0, _law_found 1, _law_part 2 -/
theorem sc_law_held : FnScope ["_law_tree_here", "_law_found", "_law_part"] ["_law_tree_here"] (defScope (topS 30)) := ⟨rfl, rfl, rfl, by decide +kernel, rfl, by decide +kernel, by decide +kernel⟩
theorem c_law_held (T : Txt K mg) : ∀ d : Nat, Cal P w K mg base (d + 2) "_law_held" ["_law_tree_here"] (spBIO K d) := by
  intro d
  induction d with
  | zero =>
    refine Cal.mk' T.d_law_held sc_law_held (fun _ _ _ _ _ _ us hl => match us, hl with | [_], _ => rfl) (fun vs H Q E h => ?_) (fun f cdv A outer s H vs Q E hr h => ?_)
    · obtain ⟨_, _, rfl, _⟩ := h; rfl
    · obtain ⟨v, t, rfl, ht, sm, hd, k⟩ := h
      refine ⟨_, (pss_cons (ps_if (pt_val (pe_callB call_isi (by rfl) T.n_isinstance boot_isinstance (pa_cons (pv 0) (pa_cons (pe_bltn (v := .ty "int") (by rfl) T.n_int boot_int rfl) pa_nil)))) (pss_one (ps_ret (pe_lst (pa_cons (pv 0) pa_nil)))) pss_nil) pss_never), ?_⟩
      obtain ⟨b, rfl⟩ := dep_zero hd
      obtain ⟨u, hu, hk⟩ := tv_isInt ht
      refine ⟨_, rfl, _, .ty "int", u, _, _, rfl, .ty _, hu, hk, _, rfl, iteT ⟨_, rfl, by show 1 ≤ sizeLine; decide, fun p hp => k p _ (Same.new hp) hp ?_⟩⟩
      rw [upd_same, tv_leaf.mp ht, btn_leaf]
      rfl
  | succ d ih =>
    refine Cal.mk' T.d_law_held sc_law_held (fun _ _ _ _ _ _ us hl => match us, hl with | [_], _ => rfl) (fun vs H Q E h => ?_) (fun f cdv A outer s H vs Q E hr h => ?_)
    · obtain ⟨_, _, rfl, _⟩ := h; rfl
    · obtain ⟨v, t, rfl, ht, sm, hd, k⟩ := h
      refine ⟨_, (pss_cons (ps_if (pt_val (pe_callB call_isi (by rfl) T.n_isinstance boot_isinstance (pa_cons (pv 0) (pa_cons (pe_bltn (v := .ty "int") (by rfl) T.n_int boot_int rfl) pa_nil)))) (pss_one (ps_ret (pe_lst (pa_cons (pv 0) pa_nil)))) pss_nil)
        (pss_cons (ps_set (i := 1) sc_law_held.nd rfl (Or.inl rfl) (pe_lst pa_nil))
        (pss_cons (ps_for PassesOwn.never rfl (pi_tup (pe_ix ix_tup (pv 0) pe_int (fun _ _ => rfl))) (pg_name (i := 2) sc_law_held.nd rfl (Or.inl rfl))
          (pss_one (ps_set (i := 1) sc_law_held.nd rfl (Or.inl rfl) (pe_op op_cat (pv 1) (pc ih hr (by omega) (by rfl) (pa_cons (pv 2) pa_nil))))))
        (pss_one (ps_ret (pv 1)))))), ?_⟩
      obtain ⟨u, hu, hk⟩ := tv_isInt ht
      cases t with
      | leaf b =>
        refine ⟨_, rfl, _, .ty "int", u, _, _, rfl, .ty _, hu, hk, _, rfl, iteT ⟨_, rfl, by show 1 ≤ sizeLine; decide, fun p hp => k p _ (Same.new hp) hp ?_⟩⟩
        rw [upd_same, tv_leaf.mp ht, btn_leaf]
        rfl
      | node kk ps =>
        obtain ⟨a, b, us, rfl, h1, h2, h3⟩ := tv_node.mp ht
        refine ⟨_, rfl, _, .ty "int", u, _, _, rfl, .ty _, hu, hk, _, rfl, iteF ⟨by show 0 ≤ sizeLine; decide, fun l hl => ?_⟩⟩
        have s0 : Same H (upd H l (.lst [])) := Same.new hl
        refine ⟨_, rfl, a, _, 1, .ref b, rfl, rfl, s0.seqT h1, rfl, b, rfl, ⟨_, s0.seqT h2⟩, for_tup (K := K) (a := b) (xs := us) (fun i σ H' => ∃ (o : Option V) (m : Addr), σ = [some (.ref a), some (.ref m), o] ∧ Same H H' ∧ H m = none ∧ H' m = some (.lst ((btns (ps.take i)).map V.int)))
          ⟨none, l, rfl, s0, hl, upd_same⟩ (fun i σ H' _ ⟨_, _, _, s1, _⟩ => s1.seqT h2) ?_ ?_⟩
        · rintro i x σ H' hx ⟨o, m, rfl, s1, hm, e1⟩
          obtain ⟨p, hp, hv⟩ := (h3.mono s1).get hx
          have hpm := List.mem_of_getElem? hp
          refine ⟨_, rfl, _, rfl, x, p, rfl, hv, sm.part hpm, dep_part hd hpm, fun l2 H2 s2 n2 e2 => ?_⟩
          refine ⟨m, l2, _, _, rfl, rfl, s2 _ _ e1, e2, size_ok ?_, fun q hq => ⟨some x, q, rfl, (s1.trans s2).trans (Same.new hq), (s1.trans s2).free hq, ?_⟩⟩
          · rw [List.length_map, List.length_map]
            have a1 := btns_take_len ps i
            have a2 := sm.len
            have a3 := (sm.part hpm).len
            rw [btn_node] at a2
            omega
          · rw [upd_same, btns_take ps i p hp, List.map_append]
        · rintro σ H' ⟨o, m, rfl, s1, hm, e1⟩
          rw [h3.len, List.take_length] at e1
          exact ⟨_, rfl, k m H' s1 hm (by rw [btn_node]; exact e1)⟩
end
end K23
namespace K23
open PySem PyProof.Rows PySem.Spec L2
theorem inV_perm {b : Int} {ns ms : List Int} (h : ns.Perm ms) : inV (V.int b) (ns.map V.int) = decide (b ∈ ms) := by
  rw [inV_ints]; exact decide_eq_decide.mpr h.mem_iff
theorem eqv_leftover : ∀ (ns : List Int), PyData.eqv (.list (ns.map PyData.int)) (.list []) = decide (ns = [])
  | [] => by simp [PyData.eqv, PyData.eqvAll]
  | n :: ns => by simp [PyData.eqv, PyData.eqvAll]
theorem dps_ints {K : PySem.W.Frag} {H : Hp} : ∀ (ns : List Int), DpAll K H (ns.map V.int) (ns.map PyData.int)
  | [] => .nil
  | n :: ns => .cons (.int n) (dps_ints ns)
theorem sh_ints : ∀ (ns : List Int), SeqAt.shaped (.list (ns.map PyData.int)) = true := by
  have h1 : ∀ ns : List Int, PyData.canLayAll0 (ns.map PyData.int) = true := by
    intro ns
    induction ns with
    | nil => rfl
    | cons n r ih => rw [List.map_cons, PyData.canLayAll0, ih, PyData.canLay0]; rfl
  have h2 : ∀ ns : List Int, PyData.depthAll (ns.map PyData.int) = 0 := by
    intro ns
    induction ns with
    | nil => rfl
    | cons n r ih => rw [List.map_cons, PyData.depthAll, ih, PyData.depth]; rfl
  intro ns
  simp [SeqAt.shaped, PyData.canLay0, PyData.depth, h1, h2]
/-- operators at a place whose frame is known -/
theorem op_inK {X : Cx} {K : PySem.W.Frag} (h : X.K = K) : OpR X (compareOp .In) (rIn K false) := by subst h; exact op_in_seq
theorem op_notInK {X : Cx} {K : PySem.W.Frag} (h : X.K = K) : OpR X (compareOp .NotIn) (rIn K true) := by subst h; exact op_notIn_seq
theorem op_eqDK {X : Cx} {K : PySem.W.Frag} (h : X.K = K) (hu : X.A.units + 64 < cLine) : OpR X (compareOp .Eq) (rEqD K) := by subst h; exact op_eqD hu
theorem op_inTK {X : Cx} {K : PySem.W.Frag} (h : X.K = K) (hu : X.A.units + 1 < cLine) : OpR X (compareOp .In) (rInT K) := by subst h; exact op_inT hu
/-- a comprehension with a test over a list or tuple of ints -/
theorem lcN {K : PySem.W.Frag} {b : Addr} {bs : List Int} {σ : L2.St} {H : Hp} {j : Nat} {tt : TT} {te : TE} {ws : List Nat} {Qd : Addr → Hp → Prop} (f : Int → Bool)
    (hS : SqT K H b (bs.map V.int)) (hz : bs.length ≤ 1000) (hw : ∀ x, wipe ((wipe σ ws).set j (some x)) ws = wipe σ ws)
    (ht : ∀ (n : Int) H' (R : Bool → Hp → Prop), n ∈ bs → Same H H' → (∀ H'', Same H' H'' → R (f n) H'') → tt ((wipe σ ws).set j (some (.int n))) H' R)
    (he : ∀ (n : Int) H' (R : VK), n ∈ bs → f n = true → Same H H' → R (.int n) H' → te ((wipe σ ws).set j (some (.int n))) H' R)
    (hq : ∀ D H', Same H H' → H D = none → H' D = some (.lst ((bs.filter f).map V.int)) → Qd D H') :
    ∃ a, V.ref b = .ref a ∧ (∃ xs, SqT K H a xs) ∧ ∀ D, H D = none → ∃ W : Nat → Nat → Hp → Prop, (∃ m, W 0 m (upd H D (.lst []))) ∧ ∀ i m H, W i m H →
      ((Itt K a).stop i H ∧ Qd D H) ∨ ((Itt K a).go i H ∧ ∃ Nx : Hp → Prop, (∀ H', Nx H' → ∃ m', m' < m ∧ W (i + 1) m' H') ∧ ∀ x H', (Itt K a).yld i H x H' → gName j x (wipe σ ws) H' fun σ2 H2 => wipe σ2 ws = wipe σ ws ∧ tt σ2 H2 fun b H3 =>
        if b = true then te σ2 H3 fun z G4 => ∃ got, G4 D = some (.lst got) ∧ got.length < sizeLine ∧ Nx (upd G4 D (.lst (got ++ [z]))) else Nx H3) := by
  refine ⟨b, rfl, ⟨_, hS⟩, fun D hD => ?_⟩
  refine lc_tup (K := K) (a := b) (xs := bs.map V.int) (Qd := fun H' => Qd D H') (fun i H' => Same H H' ∧ H' D = some (.lst (((bs.take i).filter f).map V.int))) ⟨Same.new hD, upd_same⟩ (fun i H' _ h => h.1.seqT hS) (fun i x H' hx h => ?_) (fun H' h => ?_)
  · rw [List.getElem?_map] at hx
    obtain ⟨n, hn, rfl⟩ := Option.map_eq_some_iff.mp hx
    have hnm := List.mem_of_getElem? hn
    refine ⟨hw _, ht n H' _ hnm h.1 fun H3 s3 => ?_⟩
    have hD3 := s3 _ _ h.2
    have s03 := h.1.trans s3
    have et : bs.take (i + 1) = bs.take i ++ [n] := by rw [List.take_add_one, hn]; rfl
    have hl : ((bs.take i).filter f).length ≤ bs.length := Nat.le_trans (List.length_filter_le _ _) (by rw [List.length_take]; omega)
    cases hf : f n with
    | true =>
      refine iteT (he n H3 _ hnm hf s03 ⟨_, hD3, by rw [sizeLine_eq, List.length_map]; omega, s03.up hD, ?_⟩)
      rw [et, List.filter_append, List.map_append, upd_same]
      simp [hf]
    | false =>
      refine iteF ⟨s03, ?_⟩
      rw [et, List.filter_append, List.map_append]
      simp [hf, hD3]
  · refine hq D H' h.1 hD ?_
    rw [h.2, List.length_map, List.take_length]
section
variable {w : World} {P : Program} {K : PySem.W.Frag} {base : Heap} {mg : Str → Option Value}
/-! ### part_with: slots trip 0, button 1, part 2; cells ['button'] -/
def spPartWith (K : PySem.W.Frag) : Sp := fun vs H Q _ => ∃ (v : V) (k : Int) (ps : List Tr) (b : Int), vs = [v, .int b] ∧ TV K H v (.node k ps) ∧ Sm (.node k ps) ∧ (Tr.node k ps).dep ≤ 12 ∧ b ∈ btns ps ∧ ∀ (v' : V) (H' : Hp), Same H H' → TV K H' v' (pw ps b) → Q v' H'
theorem sc_part_with : FnScope ["trip", "button", "part"] ["trip", "button"] (defScope (topS 16)) := ⟨rfl, rfl, rfl, by decide +kernel, rfl, by decide +kernel, by decide +kernel⟩
theorem c_part_with (T : Txt K mg) : Cal P w K mg base 16 "part_with" ["trip", "button"] (spPartWith K) := by
  refine Cal.mk' T.d_part_with sc_part_with (fun _ _ _ _ _ _ us hl => match us, hl with | [_, _], _ => rfl) (fun vs H Q E h => ?_) (fun f cdv A outer s H vs Q E hr h => ?_)
  · obtain ⟨_, _, _, _, rfl, _⟩ := h; rfl
  · obtain ⟨v, kk, ps, b, rfl, ht, sm, hd, hb, k⟩ := h
    refine ⟨_, (pss_one (ps_ret (pe_ix ix_list (pe_lc (own := [("part", 2)]) rfl sc_part_with.nd (pi_tup (pe_ix ix_tup (pv 0) pe_int (fun _ _ => rfl))) (blkOk_by (N := ["trip", "button", "part"]) (sc := defScope (topS 16)) (by decide +kernel)) (fun _ _ _ _ _ => (pg_name (i := 2) sc_part_with.nd rfl (Or.inl rfl))) (fun _ _ _ _ _ => pts_one (pt_cmpR (op_inK (K := K) rfl) (pv 1) (pc (c_buttons_of T) hr (by decide) (by rfl) (pa_cons (pv 2) pa_nil)) (by rfl))) (fun _ _ _ _ _ => (pv 2))) pe_int (fun _ _ => rfl)))), ?_⟩
    obtain ⟨a, c, us, rfl, h1, h2, h3⟩ := tv_node.mp ht
    refine ⟨_, rfl, a, _, 1, .ref c, rfl, rfl, h1, rfl, lcT (fun p => decide (b ∈ p.btn)) (fun _ v => v) h2 h3 (by have := sm.plen; omega) (fun _ => rfl) ?_ ?_ ?_⟩
    · intro v p H' R hp s1 hv hR
      refine ⟨_, rfl, _, rfl, v, p, rfl, hv, sm.part hp, ?_, fun a' H2 ns s2 np nw e2 => ⟨a', _, rfl, .inr (SqT.of e2), rfl, flat_ints ns, ?_⟩⟩
      · exact Nat.le_trans (dep_part (n := 11) (by omega) hp) (by omega)
      · rw [inV_perm np]; exact ⟨_, rfl, hR _ s2⟩
    · intro v p H' R hp hf s1 hv hR
      exact ⟨_, rfl, hR H' (Same.refl H')⟩
    · intro D H' s1 hD e1
      have ts := sel_tvs (fun p => decide (b ∈ p.btn)) (h3.mono s1)
      obtain ⟨v', hv', tv'⟩ := ts.getP (find_pw hb)
      exact ⟨D, _, 0, v', rfl, rfl, SqL.of e1, atI_nat (j := 0) hv', k v' H' s1 tv'⟩
/-! ### trips_down: slots tree 0, one 1, other 2, found 3, part 4 -/
def spDowns (K : PySem.W.Frag) : Sp := fun vs H Q _ => ∃ (v : V) (t : Tr) (one other : Int), vs = [v, .int one, .int other] ∧ TV K H v t ∧ Sm t ∧ t.dep ≤ 12 ∧ ∀ (l : Addr) (H' : Hp) (xs : List V), Same H H' → H l = none → H' l = some (.lst xs) → TVs K H' xs (t.downs one other) → Q (.ref l) H'
theorem downs_not {one other : Int} {t : Tr} (h : one ∉ t.btn ∨ other ∉ t.btn) : t.downs one other = [] := by
  cases t with
  | leaf b => rw [Tr.downs]
  | node k ps =>
    rw [btn_node] at h
    rw [Tr.downs, if_neg (by rintro ⟨h1, h2⟩; rcases h with h | h; exact h h1; exact h h2)]
theorem downs_len {one other : Int} : ∀ t : Tr, (t.downs one other).length ≤ t.dep := by
  refine Tr.ind (fun b => by rw [Tr.downs]; simp) fun k ps ih => ?_
  rw [Tr.downs]
  by_cases c : one ∈ btns ps ∧ other ∈ btns ps
  · rw [if_pos c, downsA_eq c.1, List.length_cons]
    obtain ⟨m1, m2⟩ := pw_mem c.1
    have h1 := ih _ m1
    have h2 := dep_part (n := (Tr.node k ps).dep - 1) (k := k) (ps := ps) (by omega) m1
    rw [Tr.dep] at *
    omega
  · rw [if_neg c]; simp
theorem sc_trips_down : FnScope ["tree", "one", "other", "found", "part"] ["tree", "one", "other"] (defScope (topS 17)) := ⟨rfl, rfl, rfl, by decide +kernel, rfl, by decide +kernel, by decide +kernel⟩
theorem c_trips_down (T : Txt K mg) : Cal P w K mg base 17 "trips_down" ["tree", "one", "other"] (spDowns K) := by
  refine Cal.mk' T.d_trips_down sc_trips_down (fun _ _ _ _ _ _ us hl => match us, hl with | [_, _, _], _ => rfl) (fun vs H Q E h => ?_) (fun f cdv A outer s H vs Q E hr h => ?_)
  · obtain ⟨_, _, _, _, rfl, _⟩ := h; rfl
  · obtain ⟨v, t, one, other, rfl, ht, sm, hd, k⟩ := h
    refine ⟨_, (pss_cons (ps_par (i := 3) (j := 4) rfl sc_trips_down.nd rfl rfl (by decide) rfl rfl (pa_cons (pe_lst pa_nil) (pa_cons (pv 0) pa_nil)) (by rfl))
        (pss_cons (ps_while PassesOwn.never (PW.pt (pw_and (pt_not (pt_val (pe_callB call_isi (by rfl) T.n_isinstance boot_isinstance (pa_cons (pv 4) (pa_cons (pe_bltn (v := .ty "int") (by rfl) T.n_int boot_int rfl) pa_nil))))) (pw_and (pt_cmpR op_in_seq (pv 1) (pc (c_buttons_of T) hr (by decide) (by rfl) (pa_cons (pv 4) pa_nil)) (by rfl)) (pw_and1 (pt_cmpR op_in_seq (pv 2) (pc (c_buttons_of T) hr (by decide) (by rfl) (pa_cons (pv 4) pa_nil)) (by rfl))))))
          (pss_cons (ps_expr (pe_bm PySem.F.plainAttrs_list PySem.F.slot_list_append PySem.F.type_list_append mt_append (pv 3) (pa_cons (pv 4) pa_nil)))
            (pss_one (ps_set (i := 4) sc_trips_down.nd rfl (Or.inl rfl) (pc (c_part_with T) hr (by decide) (by rfl) (pa_cons (pv 4) (pa_cons (pv 1) pa_nil)))))))
        (pss_one (ps_ret (pv 3))))), ?_⟩
    refine ⟨by show 0 ≤ sizeLine; decide, fun l hl => ⟨_, rfl, _, _, rfl, ?_⟩⟩
    refine ⟨fun m σ H' => ∃ (xs : List V) (x : V) (u : Tr) (ds : List Tr), σ = [some v, some (.int one), some (.int other), some (.ref l), some x] ∧ Same H H' ∧ H' l = some (.lst xs) ∧ TVs K H' xs ds ∧ TV K H' x u ∧ Sm u ∧ u.dep ≤ 12 ∧ ds ++ u.downs one other = t.downs one other ∧ m = u.dep,
      ⟨_, [], v, t, [], rfl, Same.new hl, upd_same, TVs.nil, ht.mono (Same.new hl), sm, hd, rfl, rfl⟩, ?_⟩
    rintro m σ H' ⟨xs, x, u, ds, rfl, s1, e1, hds, hx, smu, hdu, hdown, rfl⟩
    obtain ⟨ui, hui, hki⟩ := tv_isInt hx
    refine ⟨_, rfl, _, .ty "int", ui, _, _, rfl, .ty _, hui, hki, _, rfl, ?_⟩
    cases u with
    | leaf b =>
      refine iteF (iteF ⟨_, rfl, k l H' xs s1 hl e1 ?_⟩)
      rw [← hdown, Tr.downs, List.append_nil]; exact hds
    | node kk ps =>
      obtain ⟨a, c, us, rfl, h1, h2, h3⟩ := tv_node.mp hx
      refine iteT ⟨_, rfl, _, rfl, .ref a, _, rfl, hx, smu, hdu, fun a2 H2 ns s2 np nw e2 => ⟨a2, _, rfl, .inr (SqT.of e2), rfl, flat_ints ns, _, rfl, ?_⟩⟩
      rw [inV_perm np]
      by_cases c1 : one ∈ (Tr.node kk ps).btn
      · rw [decide_eq_true c1]
        refine iteT ⟨_, rfl, _, rfl, .ref a, _, rfl, hx.mono s2, smu, hdu, fun a3 H3 ns3 s3 np3 nw3 e3 => ⟨a3, _, rfl, .inr (SqT.of e3), rfl, flat_ints ns3, _, rfl, ?_⟩⟩
        rw [inV_perm np3]
        have s03 := (s1.trans s2).trans s3
        have s13 := s2.trans s3
        by_cases c2 : other ∈ (Tr.node kk ps).btn
        · rw [decide_eq_true c2]
          refine iteT ⟨fun σ' H'' => ∃ (xs : List V) (x : V) (u : Tr) (ds : List Tr), σ' = [some v, some (.int one), some (.int other), some (.ref l), some x] ∧ Same H H'' ∧ H'' l = some (.lst xs) ∧ TVs K H'' xs ds ∧ TV K H'' x u ∧ Sm u ∧ u.dep ≤ 12 ∧ ds ++ u.downs one other = t.downs one other ∧ u.dep < (Tr.node kk ps).dep, ?_, ?_⟩
          · rintro σ' H'' ⟨xs, x, u, ds, e1, e2, e3, e4, e5, e6, e7, e8, e9⟩
            exact ⟨_, e9, xs, x, u, ds, e1, e2, e3, e4, e5, e6, e7, e8, rfl⟩
          · have hll := s13 _ _ e1
            have b1 : one ∈ btns ps := by rw [btn_node] at c1; exact c1
            have b2 : other ∈ btns ps := by rw [btn_node] at c2; exact c2
            have hdo : (Tr.node kk ps).downs one other = .node kk ps :: (pw ps one).downs one other := by rw [Tr.downs, if_pos ⟨b1, b2⟩, downsA_eq b1]
            have hlenx : xs.length ≤ 12 := by
              have q1 := hds.len
              have q2 := downs_len (one := one) (other := other) t
              rw [← hdown, List.length_append] at q2
              omega
            have hx4 := tv_upd (o := .lst (xs ++ [.ref a])) hll _ _ (hx.mono s13)
            obtain ⟨m1, m2⟩ := pw_mem b1
            have dp := dep_part (n := (Tr.node kk ps).dep - 1) (k := kk) (ps := ps) (by rw [Tr.dep]; omega) m1
            refine ⟨_, rfl, .inl ⟨rfl, _, SqL.of hll⟩, _, rfl, l, xs, .ref a, rfl, rfl, hll, size_lt (by omega), _, rfl, _, rfl, .ref a, kk, ps, one, rfl, hx4, smu, hdu, b1, fun v' H5 s5 hv' => ?_⟩
            refine ⟨xs ++ [.ref a], v', pw ps one, ds ++ [.node kk ps], rfl, (s03.up hl).trans s5, s5 _ _ upd_same, ?_, hv', smu.part m1, by omega, ?_, ?_⟩
            · exact (tvs_upd hll ((hds.mono s13).append (TVs.cons (hx.mono s13) TVs.nil))).mono s5
            · rw [← hdown, hdo]; simp
            · rw [Tr.dep] at dp ⊢; omega
        · rw [decide_eq_false c2]
          refine iteF (⟨_, rfl, k l H3 xs s03 hl (s13 _ _ e1) ?_⟩)
          rw [← hdown, downs_not (.inr c2), List.append_nil]; exact hds.mono s13
      · rw [decide_eq_false c1]
        refine iteF (iteF ⟨_, rfl, k l H2 xs (s1.trans s2) hl (s2 _ _ e1) ?_⟩)
        rw [← hdown, downs_not (.inl c1), List.append_nil]; exact hds.mono s2
end
end K23
namespace K23
open PySem PyProof.Rows PySem.Spec L2
theorem cutV_first (xs : List V) (n : Nat) : cutV xs none (some (n : Int)) = xs.take n := by
  unfold cutV
  rw [HT.sIx_none, HT.sIx_nat, List.drop_zero, Nat.sub_zero]
  exact (List.take_eq_take_min).symm
theorem atI_end {xs : List V} {v : V} {n : Nat} (h : xs[n]? = some v) (hl : xs.length = n + 1) : atI xs (-1) = some v := by
  have e : xs = xs.take n ++ [v] := by
    have : xs.take (n + 1) = xs.take n ++ [v] := by rw [List.take_add_one, h]; rfl
    rw [← this, List.take_of_length_le (by omega)]
  rw [e]; exact atI_last _ v
theorem hu1 {u : Nat} (h : u + 64 < cLine) : u + 1 < cLine := by omega
section
variable {w : World} {P : Program} {K : PySem.W.Frag} {base : Heap} {mg : Str → Option Value}
/-! ### is_over: slots tree 0, one 1, other 2 -/
def spOver (K : PySem.W.Frag) : Sp := fun vs H Q _ => ∃ (v : V) (t : Tr) (one other : Int), vs = [v, .int one, .int other] ∧ TV K H v t ∧ InT 12 one t ∧ other ∈ t.btn ∧ ∀ H', Same H H' → Q (.bl (if one = other then true else t.over one other)) H'
theorem sc_is_over : FnScope ["tree", "one", "other"] ["tree", "one", "other"] (defScope (topS 18)) := ⟨rfl, rfl, rfl, by decide +kernel, rfl, by decide +kernel, by decide +kernel⟩
theorem c_is_over (T : Txt K mg) : Cal P w K mg base 18 "is_over" ["tree", "one", "other"] (spOver K) := by
  refine Cal.mk' T.d_is_over sc_is_over (fun _ _ _ _ _ _ us hl => match us, hl with | [_, _, _], _ => rfl) (fun vs H Q E h => ?_) (fun f cdv A outer s H vs Q E hr h => ?_)
  · obtain ⟨_, _, _, _, rfl, _⟩ := h; rfl
  · obtain ⟨v, t, one, other, rfl, ht, I, ho, k⟩ := h
    refine ⟨_, (pss_one (ps_ret (pe_or (pe_cmpR op_eq (pv 1) (pv 2) (nomark _)) (pe_one (pe_cmpR (op_inTK (K := K) rfl (hu1 hr.units)) (pv 1) (pe_ix ix_tup (pe_ix ix_list (pc (c_trips_down T) hr (by decide) (by rfl) (pa_cons (pv 0) (pa_cons (pv 1) (pa_cons (pv 2) pa_nil)))) (pe_un un_neg pe_int) (fun _ _ => rfl)) pe_int (fun _ _ => rfl)) (by rfl)))))), ?_⟩
    (refine ⟨_, rfl, _, rfl, rfl, _, rfl, ?_⟩)
    rw [dec_i]
    by_cases c : one = other
    · rw [decide_eq_true c]
      rw [if_pos c] at k
      exact iteT (k H (Same.refl H))
    · rw [decide_eq_false c]
      rw [if_neg c] at k
      refine iteF ⟨_, rfl, _, rfl, _, rfl, _, rfl, v, t, one, other, rfl, ht, I.sm, I.dep, fun l H1 xs s1 hl e1 hx => ?_⟩
      obtain ⟨pre, kk, ps, e2, _, I2, _, _, e3, _⟩ := downs_split c t I ho
      rw [e2] at hx
      have hlen := hx.len
      rw [List.length_append, List.length_singleton] at hlen
      obtain ⟨x, hxg, hxv⟩ := hx.getP (i := pre.length) (p := .node kk ps) (by simp)
      obtain ⟨a, b, us, rfl, h1, h2, h3⟩ := tv_node.mp hxv
      refine ⟨1, rfl, l, xs, -1, .ref a, rfl, rfl, SqL.of e1, atI_end hxg hlen, a, _, 1, .ref b, rfl, rfl, h1, rfl, one, b, us, ps, rfl, rfl, h2, h3, ?_⟩
      rw [e3] at k
      exact k H1 s1
/-! ### first_buttons: slots parts 0, many 1, found 2, part 3 -/
def spFirst (K : PySem.W.Frag) : Sp := fun vs H Q _ => ∃ (l : Addr) (xs : List V) (ps : List Tr) (n : Nat), vs = [.ref l, .int (n : Int)] ∧ H l = some (.lst xs) ∧ TVs K H xs ps ∧ (∀ p ∈ ps, Sm p ∧ p.dep ≤ 12) ∧ (btns ps).length ≤ 24 ∧
  ∀ (m : Addr) (H' : Hp) (ns : List Int), Same H H' → H m = none → H' m = some (.lst (ns.map V.int)) → ns.Perm (firstB n ps) → Q (.ref m) H'
theorem sc_first_buttons : FnScope ["parts", "many", "found", "part"] ["parts", "many"] (defScope (topS 19)) := ⟨rfl, rfl, rfl, by decide +kernel, rfl, by decide +kernel, by decide +kernel⟩
theorem c_first_buttons (T : Txt K mg) : Cal P w K mg base 16 "first_buttons" ["parts", "many"] (spFirst K) := by
  refine Cal.mk' T.d_first_buttons sc_first_buttons (fun _ _ _ _ _ _ us hl => match us, hl with | [_, _], _ => rfl) (fun vs H Q E h => ?_) (fun f cdv A outer s H vs Q E hr h => ?_)
  · obtain ⟨_, _, _, _, rfl, _⟩ := h; rfl
  · obtain ⟨l, xs, ps, n, rfl, hl, hT, hP, h24, k⟩ := h
    refine ⟨_, (pss_cons (ps_set (i := 2) sc_first_buttons.nd rfl (Or.inl rfl) (pe_lst pa_nil))
        (pss_cons (ps_for PassesOwn.never rfl (pi_list (pe_slice sl_list (pv 0) po_none (po_some (pv 1)))) (pg_name (i := 3) sc_first_buttons.nd rfl (Or.inl rfl))
          (pss_one (ps_expr (pe_bm PySem.F.plainAttrs_list PySem.F.slot_list_extend PySem.F.type_list_extend mt_extT (pv 2) (pa_cons (pc (c_buttons_of T) hr (by decide) (by rfl) (pa_cons (pv 3) pa_nil)) pa_nil)))))
        (pss_one (ps_ret (pv 2))))), ?_⟩
    refine ⟨by show 0 ≤ sizeLine; decide, fun m hm => ?_⟩
    have s0 : Same H (upd H m (.lst [])) := Same.new hm
    refine ⟨_, rfl, _, rfl, _, rfl, l, xs, rfl, SqL.of (s0 _ _ hl), fun q hq => ?_⟩
    rw [cutV_first]
    have s1 := s0.trans (Same.new (o := .lst (xs.take n)) hq)
    have hmq : upd (upd H m (.lst [])) q (.lst (xs.take n)) m = some (.lst []) := by rw [upd_ne (ne_of_none upd_same hq)]; exact upd_same
    refine ⟨q, rfl, ⟨_, SqL.of upd_same⟩, for_list (K := K) (a := q) (xs := xs.take n) (fun i σ H' => ∃ (o : Option V) (ns : List Int), σ = [some (.ref l), some (.int (n : Int)), some (.ref m), o] ∧ Same H H' ∧ H' q = some (.lst (xs.take n)) ∧ q ≠ m ∧ H' m = some (.lst (ns.map V.int)) ∧ ns.Perm (btns ((ps.take n).take i)))
      ⟨none, [], rfl, s1, upd_same, (fun e => by rw [e, upd_same] at hq; cases hq), hmq, List.Perm.refl _⟩ (fun i σ H' _ ⟨_, _, _, _, h, _⟩ => SqL.of h) ?_ ?_⟩
    · rintro i x σ H' hx ⟨o, ns, rfl, s2, eq, hne, em, np⟩
      obtain ⟨p, hp, hv⟩ := ((hT.take n).mono s2).get hx
      have hpm := List.mem_of_getElem? hp
      have hP' := hP p (List.mem_of_mem_take hpm)
      refine ⟨_, rfl, .inl ⟨rfl, _, SqL.of em⟩, _, rfl, x, p, rfl, hv, hP'.1, hP'.2, fun a H2 ms s3 mp mw e3 => ?_⟩
      refine ⟨m, a, _, _, rfl, rfl, s3 _ _ em, SqT.of e3, ?_, some x, ns ++ ms, rfl, (s2.trans s3).up hm, ?_, hne, ?_, ?_⟩
      · rw [List.length_map, List.length_map, np.length_eq, mp.length_eq]
        have a1 := btns_take_len (ps.take n) i
        have a2 := btns_take_len ps n
        have a3 := hP'.1.len
        omega
      · rw [upd_ne hne]; exact s3 _ _ eq
      · rw [upd_same, List.map_append]
      · rw [btns_take _ i p hp]; exact np.append mp
    · rintro σ H' ⟨o, ns, rfl, s2, eq, hne, em, np⟩
      refine ⟨_, rfl, k m H' ns s2 hm em ?_⟩
      have e4 : (xs.take n).length = (ps.take n).length := (hT.take n).len
      rw [e4, List.take_length] at np
      exact np
end
end K23
namespace K23
open PySem PyProof.Rows PySem.Spec L2
theorem wo_test (bs : List Int) (p : Tr) : decide (bs.filter (fun b => decide (b ∈ p.btn)) = []) = bs.all fun b => decide (b ∉ p.btn) := by
  rw [Bool.eq_iff_iff, decide_eq_true_iff, List.filter_eq_nil_iff, List.all_eq_true]
  simp
theorem nd_len : ∀ (l m : List Int), l.Nodup → (∀ x ∈ l, x ∈ m) → l.length ≤ m.length
  | [], _, _, _ => (Nat.zero_le _)
  | a :: l, m, hn, hs => by
    have ha : a ∈ m := hs a (by simp)
    have h1 := nd_len l (m.erase a) (List.nodup_cons.mp hn).2 fun x hx => (List.mem_erase_of_ne (fun (e : x = a) => (List.nodup_cons.mp hn).1 (by rw [← e]; exact hx))).mpr (hs x (by simp [hx]))
    rw [List.length_erase_of_mem ha] at h1
    have := List.length_pos_of_mem ha
    rw [List.length_cons]; omega
theorem pi_tupK {X : Cx} {K : PySem.W.Frag} {tg l : Expr} {tl : TE} (h : X.K = K) (hl : PE X l tl) : PI X tg l (iTup K tl) := by subst h; exact pi_tup hl
section
variable {w : World} {P : Program} {K : PySem.W.Frag} {base : Heap} {mg : Str → Option Value}
/-! ### parts_without: slots trip 0, some 1, part 2, button 3; cells ['some'] -/
def spWithout (K : PySem.W.Frag) : Sp := fun vs H Q _ => ∃ (v : V) (k : Int) (ps : List Tr) (a : Addr) (bs : List Int), vs = [v, .ref a] ∧ TV K H v (.node k ps) ∧ Sm (.node k ps) ∧ (Tr.node k ps).dep ≤ 12 ∧ SqT K H a (bs.map V.int) ∧ bs.length ≤ 1000 ∧
  ∀ (l : Addr) (H' : Hp) (xs : List V), Same H H' → H l = none → H' l = some (.lst xs) → TVs K H' xs (wo ps bs) → Q (.ref l) H'
theorem sc_parts_without : FnScope ["trip", "some", "part", "button"] ["trip", "some"] (defScope (topS 20)) := ⟨rfl, rfl, rfl, by decide +kernel, rfl, by decide +kernel, by decide +kernel⟩
theorem c_parts_without (T : Txt K mg) : Cal P w K mg base 16 "parts_without" ["trip", "some"] (spWithout K) := by
  refine Cal.mk' T.d_parts_without sc_parts_without (fun _ _ _ _ _ _ us hl => match us, hl with | [_, _], _ => rfl) (fun vs H Q E h => ?_) (fun f cdv A outer s H vs Q E hr h => ?_)
  · obtain ⟨_, _, _, _, _, rfl, _⟩ := h; rfl
  · obtain ⟨v, kk, ps, a, bs, rfl, ht, sm, hd, hS, hz, k⟩ := h
    refine ⟨_, (pss_one (ps_ret (pe_lc (own := [("part", 2)]) rfl sc_parts_without.nd (pi_tup (pe_ix ix_tup (pv 0) pe_int (fun _ _ => rfl))) (blkOk_by (N := ["trip", "some", "part", "button"]) (sc := defScope (topS 20)) (by decide +kernel)) (fun _ _ _ _ _ => (pg_name (i := 2) sc_parts_without.nd rfl (Or.inr rfl))) (fun _ _ _ _ _ => pts_one (pt_cmpR (op_eqDK (K := K) rfl hr.units) (pe_lc (own := [("button", 3)]) rfl sc_parts_without.nd (pi_tupK (K := K) rfl (pv 1)) (blkOk_by (by kernel_rfl)) (fun _ _ _ _ _ => (pg_name (i := 3) sc_parts_without.nd rfl (Or.inl rfl))) (fun _ _ _ _ _ => pts_one (pt_cmpR (op_inK (K := K) rfl) (pv 3) (pc (c_buttons_of T) hr (by decide) (by rfl) (pa_cons (pv 2) pa_nil)) (by rfl))) (fun _ _ _ _ _ => (pv 3))) (pe_lst pa_nil) (nomark _))) (fun _ _ _ _ _ => (pv 2))))), ?_⟩
    obtain ⟨c, e, us, rfl, h1, h2, h3⟩ := tv_node.mp ht
    refine ⟨_, rfl, c, _, 1, .ref e, rfl, rfl, h1, rfl, lcT (fun p => bs.all fun b => decide (b ∉ p.btn)) (fun _ v => v) h2 h3 (by have := sm.plen; omega) (fun _ => rfl) ?_ ?_ ?_⟩
    · intro v p H' R hp s1 hv hR
      refine ⟨_, rfl, lcN (fun b => decide (b ∈ p.btn)) (s1.seqT hS) hz (fun _ => rfl) ?_ ?_ ?_⟩
      · intro n H2 R2 hn s2 hR2
        refine ⟨_, rfl, _, rfl, v, p, rfl, hv.mono s2, sm.part hp, ?_, fun a' H3 ns s3 np nw e2 => ⟨a', _, rfl, .inr (SqT.of e2), rfl, flat_ints ns, ?_⟩⟩
        · exact Nat.le_trans (dep_part (n := 11) (by omega) hp) (by omega)
        · rw [inV_perm np]; exact ⟨_, rfl, hR2 _ s3⟩
      · intro n H2 R2 hn hf s2 hR2
        exact ⟨_, rfl, hR2⟩
      · intro D H2 s2 hD e2
        refine ⟨by show 0 ≤ sizeLine; decide, fun q hq => ⟨_, _, .lst (SqL.of (Same.new hq _ _ e2)) (dps_ints _), .lst (SqL.of upd_same) .nil, sh_ints _, sh_ints [], ?_⟩⟩
        rw [eqv_leftover, wo_test]
        exact ⟨_, rfl, hR _ (s2.trans (Same.new hq))⟩
    · intro v p H' R hp hf s1 hv hR
      exact ⟨_, rfl, hR H' (Same.refl H')⟩
    · intro D H' s1 hD e1
      exact k D H' _ s1 hD e1 (sel_tvs (fun p => bs.all fun b => decide (b ∉ p.btn)) (h3.mono s1))
/-! ### turning_lot: slots tree 0, button 1, found 2, part 3 -/
theorem wo_sm {k : Int} {ps : List Tr} {bs : List Int} (sm : Sm (.node k ps)) (hd : (Tr.node k ps).dep ≤ 12) : (∀ p ∈ wo ps bs, Sm p ∧ p.dep ≤ 12) ∧ (btns (wo ps bs)).length ≤ (btns ps).length := by
  refine ⟨fun p hp => ?_, ?_⟩
  · have hp' := (mem_wo.mp hp).1
    exact ⟨sm.part hp', Nat.le_trans (dep_part (n := 11) (by omega) hp') (by omega)⟩
  · clear sm hd
    induction ps with
    | nil => exact Nat.le_refl _
    | cons q r ih =>
      unfold wo at ih ⊢
      rw [List.filter_cons]
      split
      · rw [btns, btns, List.length_append, List.length_append]; omega
      · rw [btns, List.length_append]; omega
theorem turn_len {b : Int} {t : Tr} (I : InT 12 b t) : (t.turn b).length ≤ 24 := by
  have := turn_ok t I.sm.ok I.nd I.mem
  exact Nat.le_trans (nd_len _ _ this.nd fun x hx => (this.sub x hx).1) I.sm.len
def spTurn (K : PySem.W.Frag) : Sp := fun vs H Q _ => ∃ (v : V) (t : Tr) (b : Int), vs = [v, .int b] ∧ TV K H v t ∧ InT 12 b t ∧
  ∀ (l : Addr) (H' : Hp) (ns : List Int), Same H H' → H l = none → H' l = some (.lst (ns.map V.int)) → ns.Perm (t.turn b) → Q (.ref l) H'
theorem sc_turning_lot : FnScope ["tree", "button", "found", "part"] ["tree", "button"] (defScope (topS 21)) := ⟨rfl, rfl, rfl, by decide +kernel, rfl, by decide +kernel, by decide +kernel⟩
theorem c_turning_lot (T : Txt K mg) : Cal P w K mg base 17 "turning_lot" ["tree", "button"] (spTurn K) := by
  refine Cal.mk' T.d_turning_lot sc_turning_lot (fun _ _ _ _ _ _ us hl => match us, hl with | [_, _], _ => rfl) (fun vs H Q E h => ?_) (fun f cdv A outer s H vs Q E hr h => ?_)
  · obtain ⟨_, _, _, rfl, _⟩ := h; rfl
  · obtain ⟨v, t, b, rfl, ht, I, k⟩ := h
    refine ⟨_, (pss_cons (ps_par (i := 2) (j := 3) rfl sc_turning_lot.nd rfl rfl (by decide) rfl rfl (pa_cons (pe_lst pa_nil) (pa_cons (pv 0) pa_nil)) (by rfl))
        (pss_cons (ps_while PassesOwn.never (pt_not (pt_val (pe_callB call_isi (by rfl) T.n_isinstance boot_isinstance (pa_cons (pv 3) (pa_cons (pe_bltn (v := .ty "int") (by rfl) T.n_int boot_int rfl) pa_nil)))))
          (pss_cons (ps_expr (pe_bm PySem.F.plainAttrs_list PySem.F.slot_list_extend PySem.F.type_list_extend mt_extend (pv 2) (pa_cons (pc (c_first_buttons T) hr (by decide) (by rfl) (pa_cons (pc (c_parts_without T) hr (by decide) (by rfl) (pa_cons (pv 3) (pa_cons (pe_tup (pa_cons (pv 1) pa_nil)) pa_nil))) (pa_cons (pe_op op_sub (pe_ix ix_tup (pv 3) pe_int (fun _ _ => rfl)) pe_int) pa_nil))) pa_nil)))
            (pss_one (ps_set (i := 3) sc_turning_lot.nd rfl (Or.inl rfl) (pc (c_part_with T) hr (by decide) (by rfl) (pa_cons (pv 3) (pa_cons (pv 1) pa_nil)))))))
        (pss_one (ps_ret (pv 2))))), ?_⟩
    have t24 := turn_len I
    refine ⟨by show 0 ≤ sizeLine; decide, fun l hl => ⟨_, rfl, _, _, rfl, ?_⟩⟩
    refine ⟨fun m σ H' => ∃ (ns : List Int) (x : V) (u : Tr) (ds : List Int), σ = [some v, some (.int b), some (.ref l), some x] ∧ Same H H' ∧ H' l = some (.lst (ns.map V.int)) ∧ ns.Perm ds ∧ TV K H' x u ∧ InT 12 b u ∧ ds ++ u.turn b = t.turn b ∧ m = u.dep,
      ⟨_, [], v, t, [], rfl, Same.new hl, upd_same, List.Perm.refl _, ht.mono (Same.new hl), I, rfl, rfl⟩, ?_⟩
    rintro m σ H' ⟨ns, x, u, ds, rfl, s1, e1, np, hx, Iu, hturn, rfl⟩
    obtain ⟨ui, hui, hki⟩ := tv_isInt hx
    refine ⟨_, rfl, _, .ty "int", ui, _, _, rfl, .ty _, hui, hki, _, rfl, ?_⟩
    cases u with
    | leaf c =>
      refine iteF ⟨_, rfl, k l H' ns s1 hl e1 ?_⟩
      rw [← hturn, Tr.turn, List.append_nil]; exact np
    | node kk ps =>
      obtain ⟨a, c, us, rfl, h1, h2, h3⟩ := tv_node.mp hx
      have bm : b ∈ btns ps := by have := Iu.mem; rw [btn_node] at this; exact this
      have bd := Iu.sm.bd
      have ht2 : (Tr.node kk ps).turn b = firstB (kk - 1).toNat (wo ps [b]) ++ (pw ps b).turn b := by rw [Tr.turn, turnA_eq bm]
      obtain ⟨w1, w2⟩ := wo_sm (bs := [b]) Iu.sm Iu.dep
      have l24 := Iu.sm.len
      rw [btn_node] at l24
      refine iteT ⟨fun σ' H'' => ∃ (ns : List Int) (x : V) (u : Tr) (ds : List Int), σ' = [some v, some (.int b), some (.ref l), some x] ∧ Same H H'' ∧ H'' l = some (.lst (ns.map V.int)) ∧ ns.Perm ds ∧ TV K H'' x u ∧ InT 12 b u ∧ ds ++ u.turn b = t.turn b ∧ u.dep < (Tr.node kk ps).dep, ?_, ?_⟩
      · rintro σ' H'' ⟨ns, x, u, ds, e1, e2, e3, e4, e5, e6, e7, e8⟩
        exact ⟨_, e8, ns, x, u, ds, e1, e2, e3, e4, e5, e6, e7, rfl⟩
      · refine ⟨_, rfl, .inl ⟨rfl, _, SqL.of e1⟩, _, rfl, _, rfl, by show 1 ≤ sizeLine; decide, fun q hq => ⟨.ref a, kk, ps, q, [b], rfl, hx.mono (Same.new hq), Iu.sm, Iu.dep, SqT.of upd_same, by show 1 ≤ 1000; decide, fun r H2 xs s2 hr2 e2 hxs => ?_⟩⟩
        have s12 := (Same.new (o := .tup ([b].map V.int)) hq).trans s2
        refine ⟨_, rfl, a, _, 0, .int kk, rfl, rfl, s12.seqT h1, rfl, _, _, rfl, rfl, r, xs, wo ps [b], (kk - 1).toNat, ?_, e2, hxs, w1, by omega, fun m2 H3 ms s3 hm e3 mp => ?_⟩
        · rw [Int.toNat_of_nonneg (by omega)]; rfl
        have s13 := s12.trans s3
        have hll := s13 _ _ e1
        have hlen : ns.length + ms.length ≤ 24 := by
          rw [np.length_eq, mp.length_eq]
          rw [← hturn, ht2] at t24
          simp only [List.length_append] at t24
          omega
        have hne : m2 ≠ l := fun e => by
          have := s12 _ _ e1
          rw [← e, hm] at this
          cases this
        refine ⟨l, m2, _, _, rfl, rfl, hll, e3, size_ok (by rw [List.length_map, List.length_map]; omega), ?_⟩
        obtain ⟨m1, m2'⟩ := pw_mem bm
        have dp := dep_part (n := (Tr.node kk ps).dep - 1) (k := kk) (ps := ps) (by rw [Tr.dep]; omega) m1
        refine ⟨_, rfl, _, rfl, .ref a, kk, ps, b, rfl, tv_upd hll _ _ (hx.mono s13), Iu.sm, Iu.dep, bm, fun v' H5 s5 hv' => ?_⟩
        refine ⟨ns ++ ms, v', pw ps b, ds ++ firstB (kk - 1).toNat (wo ps [b]), rfl, ((s1.trans s13).up hl).trans s5, ?_, np.append mp, hv', Iu.part bm, ?_, ?_⟩
        · rw [List.map_append]; exact s5 _ _ upd_same
        · rw [← hturn, ht2, List.append_assoc]
        · rw [Tr.dep] at dp ⊢; omega
end
end K23
namespace K23
open PySem PyProof.Rows PySem.Spec L2
/-! ### *around, trip = a list -/
section
open PySem.W
variable {w : World} {prog : Program} {s : Shared} {A : Around} {E : Value → Shared → Prop}
theorem star_items {l : Addr} {items : Array Value} {Q : List Value → Shared → Prop} (hl : s.heap.IsList l items) (hh : A.handled = none) (hn : 1 ≤ items.size) (hz : items.size ≤ 16384)
    (h : ∀ (h' : Heap) (tk : Nat), (∀ b o, s.heap.get? b = some o → h'.get? b = some o) → Q ([.ref h'.objs.size] ++ items.toList.drop (items.size - 1)) { s with heap := h'.push { cls := .type "list", data := .seq (items.toList.take (items.size - 1)).toArray }, toks := tk }) :
    wpAny (model prog w) A (unpackItems (.ref l) 2 (some 0)) Q E s := by
  (have hlt : l ≠ s.heap.objs.size := by obtain ⟨o, ho, _⟩ := hl; exact Nat.ne_of_lt (Heap.lt_size ho))
  unfold unpackItems
  refine wpAny_bind ?_
  unfold notIterableAtAll
  (refine wpAny_bind (wpAny_specialOf hl.typeIs slot_list_iter.lookup ?_))
  refine wpAny_pure ?_
  (simp only [Bool.false_eq_true, if_false])
  (refine wpAny_bind (wpAny_holding (wpAny_pyIter_list hl ?_)))
  refine wpAny_bind (wpAny_holding (kun_draw hlt 0 0 _ _ ⟨_, Heap.get?_push_size _ rfl, rfl, rfl⟩ (hl.push _) (by omega) fun h₁ hit₁ hs₁ => ?_))
  (have hl₁ : h₁.IsList l items := (hl.push _).extBut hs₁.extBut hlt)
  rw [Nat.zero_add] at hit₁
  have hit₁' := hit₁
  obtain ⟨oi, hoi, _⟩ := hit₁'
  have hl₁' := hl₁
  obtain ⟨ol, hol, _⟩ := hl₁'
  rw [List.drop_zero, List.take_zero]
  rw [if_neg (show ¬ (([] : List Value).length < 0) by simp)]
  refine wpAny_bind (wpAny_holding (kun_collect (s := { s with heap := h₁ }) (T := "list_iterator") (.inr (.inr (.inl rfl))) (Walks.list (A := A.in1) hh s.heap.objs.size l hlt items) (fun j u st => st.1.typeIs) (k := 0) (by omega) ⟨hit₁, hl₁⟩ (Heap.lt_size hoi) (Heap.lt_size hol) (fun h₂ tk hk => ?_) (by rw [sizeLine_eq]; omega)))
  rw [List.drop_zero]
  have hrl : items.toList.length = items.size := Array.length_toList
  show wpAny _ _ (if items.toList.length < 2 - 1 - 0 then _ else _) _ _ _
  (rw [if_neg (by rw [hrl]; omega)])
  show wpAny _ _ (newList (items.toList.take (items.toList.length - (2 - 1 - 0))) >>= fun d => pure ([] ++ [d] ++ items.toList.drop (items.toList.length - (2 - 1 - 0)))) _ _ _
  rw [hrl]
  refine wpAny_bind (wpAny_newList (s := { s with heap := h₂, toks := tk }) (wpAny_pure ?_))
  exact h h₂ tk fun b o e => hk b o (Nat.ne_of_lt (Heap.lt_size e)) (hs₁.extBut b o (Nat.ne_of_lt (Heap.lt_size e)) (Heap.get?_push_of_some _ e))
end
section
variable {X : Cx} {t₁ t₂ : Expr} {u : TGs} {k : Nat} {p pos : Pos}
def gStar (u : TGs) : TG := fun v σ H Q => ∃ (l : Addr) (xs : List V) (z : V), v = .ref l ∧ H l = some (.lst (xs ++ [z])) ∧ xs.length ≤ 1000 ∧ ∀ D, H D = none → u [.ref D, z] σ (upd H D (.lst xs)) Q
theorem pg_star (hc : X.calm = true) (h : PGs X [t₁, t₂] u) (hm : (assignEach [.Starred t₁ p, t₂] X.env).map (·.2) = (assignEach [t₁, t₂] X.env).map (·.2) := by rfl)
    (hn : (assignEach [.Starred t₁ p, t₂] X.env).length = 2 := by rfl) (hst : (assignEach [.Starred t₁ p, t₂] X.env).findIdx? (·.1) = some 0 := by rfl) : PG X (.Tuple [.Starred t₁ p, t₂] k pos) (gStar u) := by
  refine ⟨fun pins s σ H v w Q I r hw => ?_⟩
  obtain ⟨l, xs, z, rfl, hH, hz, hw⟩ := hw
  cases r
  obtain ⟨its, rv, pl, hz2⟩ := I.list (SqL.of hH)
  have hlen := rv.length
  rw [List.length_append, List.length_singleton] at hlen
  rw [assign_Tuple]
  (refine wpAny_bind (wpAny_standAt ?_))
  unfold unpack
  rw [hn, hst, hm]
  refine wpAny_bind (wpAny_holding (star_items pl.isList (I.ok.hd hc) (by simp; omega) (by simp; omega) fun h' tk hk => ?_))
  have I1 := I.kept (t' := tk) hk
  have hD : H h'.objs.size = none := I1.hok.fresh (Nat.le_refl _)
  have esz : its.toArray.size - 1 = xs.length := by simp; omega
  have hlen2 : its = its.take xs.length ++ its.drop xs.length := (List.take_append_drop _ _).symm
  have rv1 : Vals xs (its.take xs.length) := by
    have := rv.take xs.length
    rw [List.take_left] at this
    exact this
  have rv2 : Vals [z] (its.drop xs.length) := by
    have := rv.drop xs.length
    rw [List.drop_left] at this
    exact this
  rw [esz]
  have I2 : Inv X pins σ (upd H h'.objs.size (.lst xs)) { s with heap := h'.push { cls := .type "list", data := .seq (its.take xs.length).toArray }, toks := tk } :=
    I1.laid (t' := tk) (o := .lst xs) (fun b ob q => Heap.get?_push_of_some _ q) (Nat.le_refl _) ⟨by rw [sizeLine_eq]; omega, _, 0, rv1, Heap.get?_push_size _ rfl⟩
  exact h.run pins _ σ _ [.ref h'.objs.size, z] _ Q I2 (.cons rfl (by simpa using rv2)) (hw _ hD)
end
/-! ### the exception NoButton -/
/-- T.__init__(self, ..), T an own class over ValueError without one of its own -/
theorem pe_ovinit {X : Cx} {D : Addr} {mc : Value} {x : Str} {e : Expr} {es : List Expr} {ta : TA} {p1 p2 pos : Pos} {pl : Sem Bool} (hg : Gl X x) (hm : X.mg x = some (.ref D)) (r : ClX.CRead X.K D mc) (vV : PySem.W.findCls X.K (.ref D) mc "__init__" = some (.val (.builtin "ValueError.__init__"))) (ha : PA X (e :: es) ta) (hdb : (x == ("__debug__" : Str)) = false := by decide)
    (hc : eval (.Call (.Attribute (.Name x p1) "__init__" p2) (e :: es) [] pos) X.env = (do
      let ov ← eval (.Name x p1) X.env
      standAt p2.atName
      let (g, first) ← holding [ov] (getMethod ov "__init__" pl)
      callWith pos g first (backTo pos (starEach (e :: es) X.env)) (backToKw pos (keywordEach [] X.env))) := by rfl)
    (he : starEach (e :: es) X.env = (false, eval e X.env) :: starEach es X.env := by rfl) (hpl : (backTo pos (starEach es X.env)).any (·.1) = false := by rfl) : PE X (.Call (.Attribute (.Name x p1) "__init__" p2) (e :: es) [] pos) (tVeI X.K ta) := by
  (refine ⟨fun pins s σ H Q I h => ?_⟩)
  refine PySem.W.methodCall_KW (ld_glob I hg hm ?_ hdb) hc
  refine PySem.W.method_cls I.kIn r.ga (PySem.W.cls_value I.kIn r.rd vV (by decide +kernel) ?_)
  (show wpAny _ _ (callWith pos (Value.builtin "ValueError.__init__") [] (backTo pos (starEach (e :: es) X.env)) []) _ _ _)
  (refine PyProof.Rows.callWith_method1 (thn (ha.run pos pins _ σ H _ (I.tok _) h) fun us s1 ⟨vs, H1, I1, r1, a, C, ws, ev, hl, T, ea, q⟩ => ?_) he hpl)
  subst ev
  cases r1 with
  | @cons _ u0 _ ur ra rw' =>
    (obtain rfl : u0 = Value.ref a := ra)
    have hfew : ur.length ≤ sizeLine := by
      (rw [← Paired.length rw', sizeLine_eq])
      omega
    exact oinit_ok T I1 ea hfew fun s' J => ⟨.non, H1, J, rfl, q⟩
def initS : Stmt := match topS 2 with
  | .ClassDef _ _ _ body _ _ _ _ _ _ _ => body.getD 0 (.Pass ⟨0, 0, 0, 0⟩)
  | _ => .Pass ⟨0, 0, 0, 0⟩
/-- what the top has written of NoButton (at C, its __init__ at fI) and of TripError (at D) -/
structure Nb (K : PySem.W.Frag) (mg : Str → Option Value) (C D fI : Addr) (mc : Value) : Prop where
  gC : mg "NoButton" = some (.ref C)
  gD : mg "TripError" = some (.ref D)
  oex : OexC K C
  iC : PySem.W.findIn K (.ref C) "__init__" = some (some (.ref fI))
  tI : PySem.W.typeIn K (.ref fI) = some (.type "function")
  fu : ∃ fd : FuncData, L2.Fun K "__init__" "NoButton.__init__" initS fI fd
  rd : ClX.CRead K D mc
  vV : PySem.W.findCls K (.ref D) mc "__init__" = some (.val (.builtin "ValueError.__init__"))
  xf : XfC K C
  noG : PySem.W.findIn K (.ref C) "given" = some none
  te : PySem.W.exmOne K (.ref C) (.ref C) = some true
section
variable {P : Program} {w : World} {K : PySem.W.Frag} {mg : Str → Option Value} {base : Heap} {C D fI : Addr} {mc : Value}
def spInit (K : PySem.W.Frag) (C : Addr) : Sp := fun vs H Q _ => ∃ (a : Addr) (v : V), vs = [.ref a, v] ∧ H a = some (exo a C none) ∧ ∀ dx, H dx = none → dx ≠ a → Q .non (upd (upd H dx (exd dx [("given", v)])) a (exo a C (some dx)))
theorem sc_init : FnScope ["self", "given"] ["self", "given"] (defScope initS) := ⟨rfl, rfl, rfl, by decide +kernel, rfl, by decide +kernel, by decide +kernel⟩
theorem ok_init (T : Nb K mg C D fI mc) {fd : FuncData} (F : L2.Fun K "__init__" "NoButton.__init__" initS fI fd) : FnOk P w K mg base CX0 1 fI fd ["self", "given"] (spInit K C) := by
  refine F.ok sc_init (fun vs H Q E h => ?_) (fun cdv A outer s H vs Q E hr h => ?_)
  · obtain ⟨_, _, rfl, _⟩ := h; rfl
  · obtain ⟨a, v, rfl, ha, k⟩ := h
    refine ⟨_, (pss_cons (ps_expr (pe_ovinit (by rfl) T.gD T.rd T.vV (pa_cons (pv 0) (pa_cons pe_str pa_nil)))) (pss_one (ps_ost (pv 0) (pv 1)))), ?_⟩
    exact ⟨_, rfl, a, C, _, rfl, by decide, T.oex, ha, _, rfl, _, rfl, a, C, rfl, T.oex, T.noG, .inl ⟨ha, k⟩⟩
end
end K23
namespace K23
open PySem PyProof.Rows PySem.Spec L2
/-- a def of the module that may raise -/
structure CalX (P : Program) (w : World) (K : PySem.W.Frag) (mg : Str → Option Value) (base : Heap) (i k : Nat) (x : Str) (ps : List Str) (sp : Sp) : Prop where
  ex : ∃ (f : Addr) (fd : FuncData), L2.Fun K x x (topS i) f fd ∧ FnOk P w K mg base (L2.CX P w) k f fd ps sp ∧ mg x = some (.ref f) ∧ PySem.W.keepIn K (.ref f) = true ∧ Binds K fd ps []
theorem pcS {X : Cx} {i k j : Nat} {x : Str} {ps : List Str} {sp : Sp} {p pos : Pos} {e : Expr} {es : List Expr} {t : TA} {W : WX} (c : CalX X.prog X.w X.K X.mg X.base i k x ps sp) (tk : Takes X W) (hr : Room j X.A) (hk : k ≤ j) (hg : Gl X x) (ha : PA X (e :: es) t)
    (hdb : (x == ("__debug__" : Str)) = false := by decide) (he : starEach (e :: es) X.env = (false, eval e X.env) :: starEach es X.env := by rfl) (hpl : (backTo pos (starEach es X.env)).any (·.1) = false := by rfl) : PE X (.Call (.Name x p) (e :: es) [] pos) (tCallS sp (WE W) t) := by
  obtain ⟨f, fd, _, F, hm, kp, b⟩ := c.ex
  exact pe_callS F (hr.mono hk) hg hm kp b (fun σ => passAt tk σ) ha hdb he hpl
theorem CalX.mk' {P : Program} {w : World} {K : PySem.W.Frag} {mg : Str → Option Value} {base : Heap} {x : Str} {i : Nat} {k : Nat} {N ps : List Str} {sp : Sp} (D : Df K mg x i) (S : FnScope N ps (defScope (topS i)))
    (hb : ∀ (kV doc pm : Value) (an : Option Addr) (cdv ct : Value) (us : List Value), us.length = ps.length → bindArgs (PySem.W.fnOf x x (defArgs (topS i)) (defBody (topS i)) (defScope (topS i)) .none kV doc pm an cdv ct) ⟨us, []⟩ = pure (ps.zip us))
    (len : ∀ us G R E, sp us G R E → us.length = ps.length)
    (hbody : ∀ (f : Addr) (cdv : Value) (A : Around) (outer : List Env) (s : Shared) (H : Hp) (vs : List V) (Q : VK) (E : XK), Room k (A.deeper (envOfC x (defScope (topS i)) s.heap.objs.size f cdv)) → sp vs H Q E →
      ∃ t, PSs (cxOf (L2.CX P w) P w K mg base N x (defScope (topS i)) f cdv A outer s H E) (defBody (topS i)) t ∧ t { nx := fun _ H' => Q .non H', rt := Q } (start N vs) H) : CalX P w K mg base i (k + 1) x ps sp := by
  obtain ⟨f, fd, F, hm⟩ := D.ex
  exact ⟨f, fd, F, F.okX S len (hbody f), hm, F.kp, F.binds hb⟩
/-! ### what is a button, what is none -/
def Gd (t : Tr) (x : V) : Prop := ∃ b : Int, x = .int b ∧ b ∈ t.btn
def Bd (K : PySem.W.Frag) (t : Tr) (x : V) (H : Hp) : Prop := ∀ H', Same H H' → ∃ u, TyX K H' x u ∧ (PySem.W.kitOne K u (.type "bool") = some true ∨ (PySem.W.kitOne K u (.type "bool") = some false ∧
  (PySem.W.kitOne K u (.type "int") = some false ∨ (PySem.W.kitOne K u (.type "int") = some true ∧ ∃ b : Int, x = .int b ∧ b ∉ t.btn))))
theorem kit_int_bool {K : PySem.W.Frag} : PySem.W.kitOne K (.type "int") (.type "bool") = some false := kit_ty (by decide +kernel)
theorem inV_not {b : Int} {ns ms : List Int} (h : ns.Perm ms) : (!inV (V.int b) (ns.map V.int)) = decide (b ∉ ms) := by
  rw [inV_perm h]; simp
section
variable {P : Program} {w : World} {K : PySem.W.Frag} {mg : Str → Option Value} {base : Heap} {C D fI : Addr} {mc : Value}
theorem ps_raiseNB {X : Cx} {W : WX} {a : Expr} {ta : TA} {j : Nat} {p pos pos2 : Pos} (T : Nb X.K X.mg C D fI mc) (hc : X.calm = true) (hr : Room j X.A) (hj : 2 ≤ j) (tk : Takes X W) (hg : Gl X "NoButton") (ha : PA X [a] ta)
    (he : starEach (a :: []) X.env = (false, eval a X.env) :: starEach [] X.env := by rfl) (hpl : (backTo pos (starEach [] X.env)).any (·.1) = false := by rfl) : PS X (.Raise (some (.Call (.Name "NoButton" p) [a] [] pos)) none pos2) (fun _ σ H => tMkO C (spInit X.K C) [] ta σ H fun cls d H' => W cls d σ H') := by
  obtain ⟨fd, F⟩ := T.fu
  have b : Binds X.K fd ["self", "given"] [] := F.binds fun _ _ _ _ _ _ us hl => match us, hl with | [_, _], _ => rfl
  exact ps_raise hc tk (pmk_oex T.oex T.iC T.tI (ok_init T F) (hr.mono hj) b .nil pass0 hg T.gC ha (by decide) he hpl)
/-! ### need_buttons: slots tree 0, one 1, other 2, buttons 3, value 4 -/
def spNeed (K : PySem.W.Frag) (C : Addr) : Sp := fun vs H Q E => ∃ (v : V) (t : Tr) (x y : V), vs = [v, x, y] ∧ TV K H v t ∧ Sm t ∧ t.dep ≤ 12 ∧
  ((Gd t x ∧ Gd t y ∧ ∀ H', Same H H' → Q .non H') ∨
    ∃ z, ((Bd K t x H ∧ z = x) ∨ (Gd t x ∧ Bd K t y H ∧ z = y)) ∧ ∀ (d : Addr) (H' : Hp), Same H H' → H' d = some (.xd [("given", z)]) → E (.ref C) (some d) H')
def tBody (K : PySem.W.Frag) (C : Addr) (E : XK) : TS := tIfS (tOr (tB (tCB (rIsi K) (tCons (tVar 4) (tCons (tC (.ty "bool")) tNil)))) (tOr (tNot (tB (tCB (rIsi K) (tCons (tVar 4) (tCons (tC (.ty "int")) tNil))))) (tTest (tOp (rIn K true) (tVar 4) (tVar 3))))) (fun _ σ H => tMkO C (spInit K C) [] (tCons (tVar 4) tNil) σ H fun cls d H' => E cls d H') tNext
theorem sc_need_buttons : FnScope ["tree", "one", "other", "buttons", "value"] ["tree", "one", "other"] (defScope (topS 15)) := ⟨rfl, rfl, rfl, by decide +kernel, rfl, by decide +kernel, by decide +kernel⟩
theorem c_need_buttons (T : Txt K mg) (N : Nb K mg C D fI mc) : CalX P w K mg base 15 16 "need_buttons" ["tree", "one", "other"] (spNeed K C) := by
  refine CalX.mk' T.d_need_buttons sc_need_buttons (fun _ _ _ _ _ _ us hl => match us, hl with | [_, _, _], _ => rfl) (fun vs H Q E h => ?_) (fun f cdv A outer s H vs Q E hr h => ?_)
  · obtain ⟨_, _, _, _, rfl, _⟩ := h; rfl
  · obtain ⟨v, t, x, y, rfl, ht, sm, hd, k⟩ := h
    refine ⟨_, (pss_cons (ps_set (i := 3) sc_need_buttons.nd rfl (Or.inl rfl) (pc (c_buttons_of T) hr (by decide) (by rfl) (pa_cons (pv 0) pa_nil)))
        (pss_one (ps_for (passes_of rfl) rfl (pi_tup (pe_tup (pa_cons (pv 1) (pa_cons (pv 2) pa_nil)))) (pg_name (i := 4) sc_need_buttons.nd rfl (Or.inl rfl))
          (pss_one (ps_if (PW.pt (pw_or (pt_val (pe_callB call_isi (by rfl) T.n_isinstance boot_isinstance (pa_cons (pv 4) (pa_cons (pe_bltn (v := .ty "bool") (by rfl) T.n_bool boot_bool rfl) pa_nil)))) (pw_or (pt_not (pt_val (pe_callB call_isi (by rfl) T.n_isinstance boot_isinstance (pa_cons (pv 4) (pa_cons (pe_bltn (v := .ty "int") (by rfl) T.n_int boot_int rfl) pa_nil))))) (pw_or1 (pt_cmpR op_notIn_seq (pv 4) (pv 3) (by rfl)))))) (pss_one (ps_raiseNB N rfl hr (by decide) (W := fun cls d _ H => E cls d H) (takes_of rfl rfl rfl rfl) (by rfl) (pa_cons (pv 4) pa_nil))) pss_nil))))), ?_⟩
    refine ⟨_, rfl, v, t, rfl, ht, sm, hd, fun a H1 ns s1 np nw e1 => ?_⟩
    refine ⟨_, rfl, _, rfl, by show 2 ≤ sizeLine; decide, fun q hq => ⟨q, rfl, ⟨_, SqT.of upd_same⟩, ?_⟩⟩
    have s2 : Same H1 (upd H1 q (.tup [x, y])) := Same.new hq
    have e1' : upd H1 q (.tup [x, y]) a = some (.tup (ns.map V.int)) := s2 _ _ e1
    have sT := s1.trans s2
    have eq' : upd H1 q (.tup [x, y]) q = some (.tup [x, y]) := upd_same
    generalize upd H1 q (.tup [x, y]) = H2 at e1' sT eq'
    -- the raise
    have rs : ∀ (z : V) (H' : Hp), Same H H' → (∀ (d : Addr) (H'' : Hp), Same H H'' → H'' d = some (.xd [("given", z)]) → E (.ref C) (some d) H'') →
        tMkO C (spInit K C) [] (tCons (tVar 4) tNil) [some v, some x, some y, some (.ref a), some z] H' fun cls d H' => E cls d H' := by
      intro z H' sz kz
      refine ⟨_, rfl, by show 1 ≤ 1000; decide, fun e he => ⟨e, z, rfl, upd_same, fun dx hdx hne => ⟨rfl, dx, [("given", z)], upd_same, ?_, ?_, kz dx _ ?_ upd_same⟩⟩⟩
      · rw [upd_ne hne]; exact upd_same
      · rw [upd_ne hne] at hdx; exact hdx
      · intro c o hc
        have hc' := sz c o hc
        have n1 : c ≠ dx := fun z => by rw [z] at hc'; rw [upd_ne hne] at hdx; rw [hdx] at hc'; cases hc'
        have n2 : c ≠ e := ne_of_none hc' he
        rw [upd_ne n1, del_ne n2, upd_ne n2, upd_ne n1, upd_ne n2]
        exact hc'
    -- a value that is a button
    have good : ∀ (z : V) (H' : Hp) (R : Ends), Gd t z → H' a = some (.tup (ns.map V.int)) → R.nx [some v, some x, some y, some (.ref a), some z] H' → tBody K C E R [some v, some x, some y, some (.ref a), some z] H' := by
      rintro z H' R ⟨b, rfl, hb⟩ ea kz
      refine ⟨_, rfl, .int b, .ty "bool", .type "int", _, _, rfl, .ty _, .base (.int b), kit_int_bool, _, rfl, iteF ⟨_, rfl, .int b, .ty "int", .type "int", _, _, rfl, .ty _, .base (.int b), kit_int, _, rfl, iteF ⟨_, rfl, _, rfl, a, _, rfl, .inr (SqT.of ea), rfl, flat_ints ns, _, rfl, ?_⟩⟩⟩
      show if (!inV (V.int b) (ns.map V.int)) = true then _ else _
      rw [inV_not np, decide_eq_false (by simpa using hb)]
      exact iteF kz
    have bad : ∀ (z : V) (H' : Hp) (R : Ends), Bd K t z H → Same H H' → H' a = some (.tup (ns.map V.int)) → (∀ (d : Addr) (H'' : Hp), Same H H'' → H'' d = some (.xd [("given", z)]) → E (.ref C) (some d) H'') → tBody K C E R [some v, some x, some y, some (.ref a), some z] H' := by
      intro z H' R hb sz ea kz
      obtain ⟨u, hu, hk⟩ := hb H' sz
      have r := rs z H' sz kz
      rcases hk with h1 | ⟨h1, h2 | ⟨h2, b, rfl, hb2⟩⟩
      · exact ⟨_, rfl, z, .ty "bool", u, _, _, rfl, .ty _, hu, h1, _, rfl, iteT r⟩
      · exact ⟨_, rfl, z, .ty "bool", u, _, _, rfl, .ty _, hu, h1, _, rfl, iteF ⟨_, rfl, z, .ty "int", u, _, _, rfl, .ty _, hu, h2, _, rfl, iteT r⟩⟩
      · refine ⟨_, rfl, _, .ty "bool", u, _, _, rfl, .ty _, hu, h1, _, rfl, iteF ⟨_, rfl, _, .ty "int", u, _, _, rfl, .ty _, hu, h2, _, rfl, iteF ⟨_, rfl, _, rfl, a, _, rfl, .inr (SqT.of ea), rfl, flat_ints ns, _, rfl, ?_⟩⟩⟩
        show if (!inV (V.int b) (ns.map V.int)) = true then _ else _
        rw [inV_not np, decide_eq_true hb2]
        exact iteT r
    rcases k with ⟨gx, gy, kq⟩ | ⟨z, hz, ke⟩
    · refine for_tup (K := K) (a := q) (xs := [x, y]) (fun i σ H' => H' = H2 ∧ ∃ o : Option V, σ = [some v, some x, some y, some (.ref a), o]) ⟨rfl, none, rfl⟩ (fun i σ H' _ ⟨e, _⟩ => by subst e; exact SqT.of eq') ?_ ?_
      · rintro i z σ H' hx ⟨rfl, o, rfl⟩
        have gz : Gd t z := by
          have := List.mem_of_getElem? hx
          simp at this
          rcases this with rfl | rfl
          · exact gx
          · exact gy
        exact good z H' _ gz e1' ⟨rfl, some z, rfl⟩
      · rintro σ H' ⟨rfl, o, rfl⟩
        exact kq H' sT
    · rcases hz with ⟨bx, rfl⟩ | ⟨gx, bY, rfl⟩
      · refine for_tup (K := K) (a := q) (xs := [z, y]) (fun i σ H' => i = 0 ∧ H' = H2 ∧ ∃ o : Option V, σ = [some v, some z, some y, some (.ref a), o]) ⟨rfl, rfl, none, rfl⟩ (fun i σ H' _ ⟨_, e, _⟩ => by subst e; exact SqT.of eq') ?_ ?_
        · rintro i u σ H' hx ⟨rfl, rfl, o, rfl⟩
          have : z = u := by simpa using hx
          subst this
          exact bad z H' _ bx sT e1' ke
        · rintro σ H' ⟨h, _⟩
          cases h
      · refine for_tup (K := K) (a := q) (xs := [x, z]) (fun i σ H' => i ≤ 1 ∧ H' = H2 ∧ ∃ o : Option V, σ = [some v, some x, some z, some (.ref a), o]) ⟨by omega, rfl, none, rfl⟩ (fun i σ H' _ ⟨_, e, _⟩ => by subst e; exact SqT.of eq') ?_ ?_
        · rintro i u σ H' hx ⟨hi, rfl, o, rfl⟩
          match i, hx, hi with
          | 0, hx, _ =>
            have : x = u := by simpa using hx
            subst this
            exact good x H' _ gx e1' ⟨by omega, rfl, some x, rfl⟩
          | 1, hx, _ =>
            have : z = u := by simpa using hx
            subst this
            exact bad z H' _ bY sT e1' ke
        · rintro σ H' ⟨h, _⟩
          simp at h
end
end K23
namespace K23
open PySem PyProof.Rows PySem.Spec L2
theorem TVs.snoc_inv {K : PySem.W.Frag} {H : Hp} {xs : List V} {pre : List Tr} {t : Tr} (h : TVs K H xs (pre ++ [t])) : ∃ (ys : List V) (z : V), xs = ys ++ [z] ∧ TVs K H ys pre ∧ TV K H z t := by
  have hlen := h.len
  rw [List.length_append, List.length_singleton] at hlen
  obtain ⟨z, hz, tz⟩ := h.getP (i := pre.length) (p := t) (by simp)
  refine ⟨xs.take pre.length, z, ?_, ?_, tz⟩
  · have : xs.take (pre.length + 1) = xs.take pre.length ++ [z] := by rw [List.take_add_one, hz]; rfl
    rw [← this, List.take_of_length_le (by omega)]
  · have := h.take pre.length
    rw [List.take_left] at this
    exact this
theorem outer_len {n : Nat} {one : Int} {d : Tr} (h : InT n one d) : (outer one d).length ≤ 24 := by
  cases d with
  | leaf b => simp [outer]
  | node k ps =>
    rw [outer]
    have h1 := firstB_len (k - 1).toNat (wo ps [one])
    have h2 := h.sm.len
    rw [btn_node] at h2
    have h3 : (btns (wo ps [one])).length ≤ (btns ps).length := by
      clear h1 h h2
      induction ps with
      | nil => exact Nat.le_refl _
      | cons q r ih =>
        unfold wo at ih ⊢
        rw [List.filter_cons]
        split
        · rw [btns, btns, List.length_append, List.length_append]; omega
        · rw [btns, List.length_append]; omega
    omega
/-- the reduced tree of a small tree -/
theorem norm_in {t : Tr} {one : Int} (sm : Sm t) (nd : t.btn.Nodup) (hd : t.dep ≤ 12) (h : one ∈ t.btn) : InT 12 one (t.norm srt) ∧ (t.norm srt).red ∧ (t.norm srt).btn.Perm t.btn := by
  have N := norm_ok srt_perm t sm.ok
  exact ⟨⟨⟨N.ok, by rw [N.btn.length_eq]; exact sm.len⟩, Nat.le_trans N.dep hd, N.btn.symm.nodup nd, N.btn.mem_iff.mpr h⟩, N.red, N.btn⟩
/-- an if by the test's value -/
theorem ifS_of {c : TT} {t u : TS} {D : Ends} {σ : L2.St} {H : Hp} (b : Bool) (P : Hp → Prop) (hc : ∀ R : Bool → Hp → Prop, (∀ H', P H' → R b H') → c σ H R) (ht : b = true → ∀ H', P H' → t D σ H') (hu : b = false → ∀ H', P H' → u D σ H') : tIfS c t u D σ H := by
  refine hc _ fun H' p => ?_
  cases b with
  | true => exact iteT (ht rfl H' p)
  | false => exact iteF (hu rfl H' p)
theorem seqIf_of {c : TT} {t u rest : TS} {D : Ends} {σ : L2.St} {H : Hp} (b : Bool) (P : Hp → Prop) (PP : L2.St → Hp → Prop) (hc : ∀ R : Bool → Hp → Prop, (∀ H', P H' → R b H') → c σ H R)
    (ht : b = true → ∀ R : L2.St → Hp → Prop, (∀ σ' H', PP σ' H' → R σ' H') → ∀ H', P H' → t { D with nx := R } σ H')
    (hu : b = false → ∀ R : L2.St → Hp → Prop, (∀ σ' H', PP σ' H' → R σ' H') → ∀ H', P H' → u { D with nx := R } σ H')
    (hr : ∀ σ' H', PP σ' H' → rest D σ' H') : tSeq (tIfS c t u) rest D σ H :=
  ifS_of b P hc (fun e H' p => ht e _ hr H' p) (fun e H' p => hu e _ hr H' p)
section
variable {P : Program} {w : World} {K : PySem.W.Frag} {mg : Str → Option Value} {base : Heap} {C D fI : Addr} {mc : Value}
/-! ### worse_lot: slots tree 0, one 1, other 2, whole 3, around 4, trip 5, found 6, mine 7, apart 8, outer 9, button 10; cells ['one'] -/
/-- what worse_lot tells of two buttons -/
def Told (K : PySem.W.Frag) (t : Tr) (one other : Int) (H : Hp) (Q : VK) : Prop :=
  ((one = other ∨ (t.norm srt).over one other = true) → ∀ H', Same H H' → Q .non H') ∧
  (one ≠ other → (t.norm srt).over one other = false → ∀ (a : Addr) (H' : Hp) (ns : List Int), Same H H' → H' a = some (.tup (ns.map V.int)) → ns.Perm ((t.norm srt).wl one other) → ns.Pairwise (· ≤ ·) → Q (.ref a) H')
def spWorse (K : PySem.W.Frag) (C : Addr) : Sp := fun vs H Q E => ∃ (v : V) (t : Tr) (x y : V), vs = [v, x, y] ∧ TV K H v t ∧ Sm t ∧ t.btn.Nodup ∧ t.dep ≤ 12 ∧
  ((∃ one other : Int, x = .int one ∧ y = .int other ∧ one ∈ t.btn ∧ other ∈ t.btn ∧ Told K t one other H Q) ∨
    ∃ z, ((Bd K t x H ∧ z = x) ∨ (Gd t x ∧ Bd K t y H ∧ z = y)) ∧ ∀ (d : Addr) (H' : Hp), Same H H' → H' d = some (.xd [("given", z)]) → E (.ref C) (some d) H')
theorem sc_worse_lot : FnScope ["tree", "one", "other", "whole", "around", "trip", "found", "mine", "apart", "outer", "button"] ["tree", "one", "other"] (defScope (topS 22)) := ⟨rfl, rfl, rfl, by decide +kernel, rfl, by decide +kernel, by decide +kernel⟩
theorem c_worse_lot (T : Txt K mg) (N : Nb K mg C D fI mc) : CalX P w K mg base 22 19 "worse_lot" ["tree", "one", "other"] (spWorse K C) := by
  refine CalX.mk' T.d_worse_lot sc_worse_lot (fun _ _ _ _ _ _ us hl => match us, hl with | [_, _, _], _ => rfl) (fun vs H Q E h => ?_) (fun f cdv A outs s H vs Q E hr h => ?_)
  · obtain ⟨_, _, _, _, rfl, _⟩ := h; rfl
  · obtain ⟨v, t, x, y, rfl, ht, sm, nd, hd, k⟩ := h
    refine ⟨_, (pss_cons (ps_expr (pcS (c_need_buttons T N) (W := fun cls d _ H => E cls d H) (takes_of rfl rfl rfl rfl) hr (by decide) (by rfl) (pa_cons (pv 0) (pa_cons (pv 1) (pa_cons (pv 2) pa_nil)))))
        (pss_cons (ps_set (i := 3) sc_worse_lot.nd rfl (Or.inl rfl) (pc (c_told T 12) hr (by decide) (by rfl) (pa_cons (pv 0) pa_nil)))
        (pss_cons (ps_if (pt_val (pc (c_is_over T) hr (by decide) (by rfl) (pa_cons (pv 3) (pa_cons (pv 1) (pa_cons (pv 2) pa_nil))))) (pss_one (ps_ret pe_non)) pss_nil)
        (pss_cons (ps_asg (pc (c_trips_down T) hr (by decide) (by rfl) (pa_cons (pv 3) (pa_cons (pv 1) (pa_cons (pv 2) pa_nil)))) (pg_star rfl (pgs_cons (pg_name (i := 4) sc_worse_lot.nd rfl (Or.inl rfl)) (pgs_cons (pg_name (i := 5) sc_worse_lot.nd rfl (Or.inl rfl)) pgs_nil))))
        (pss_cons (ps_par3 (i := 6) (j := 7) (l := 8) rfl sc_worse_lot.nd rfl rfl rfl (by decide) (by decide) (by decide) rfl rfl rfl (pa_cons (pe_lst pa_nil) (pa_cons (pc (c_part_with T) hr (by decide) (by rfl) (pa_cons (pv 5) (pa_cons (pv 1) pa_nil))) (pa_cons (pc (c_parts_without T) hr (by decide) (by rfl) (pa_cons (pv 5) (pa_cons (pe_tup (pa_cons (pv 1) (pa_cons (pv 2) pa_nil))) pa_nil))) pa_nil))) (by rfl))
        (pss_cons (ps_for (passes_of rfl) rfl (pi_list (pv 4)) (pg_name (i := 9) sc_worse_lot.nd rfl (Or.inl rfl))
          (pss_one (ps_expr (pe_bm PySem.F.plainAttrs_list PySem.F.slot_list_extend PySem.F.type_list_extend mt_extend (pv 6) (pa_cons (pc (c_first_buttons T) hr (by decide) (by rfl) (pa_cons (pc (c_parts_without T) hr (by decide) (by rfl) (pa_cons (pv 9) (pa_cons (pe_tup (pa_cons (pv 1) pa_nil)) pa_nil))) (pa_cons (pe_op op_sub (pe_ix ix_tup (pv 9) pe_int (fun _ _ => rfl)) pe_int) pa_nil))) pa_nil)))))
        (pss_cons (ps_if (PW.pt (pw_or (pt_val (pc (c_goes T 12) hr (by decide) (by rfl) (pa_cons (pv 7) (pa_cons (pe_tup (pa_cons (pv 1) pa_nil)) pa_nil)))) (pw_or1 (pt_cmpR op_gt (pe_op op_sub (pe_ix ix_tup (pv 5) pe_int (fun _ _ => rfl)) pe_int) (pe_callB call_len_seq (by rfl) T.n_len boot_len (pa_cons (pv 8) pa_nil)) (nomark _))))) (pss_cons (ps_expr (pe_bm PySem.F.plainAttrs_list PySem.F.slot_list_extend PySem.F.type_list_extend mt_extend (pv 6) (pa_cons (pe_lc (own := [("button", 10)]) rfl sc_worse_lot.nd (pi_tup (pc (c_buttons_of T) hr (by decide) (by rfl) (pa_cons (pv 7) pa_nil))) (blkOk_by (N := ["tree", "one", "other", "whole", "around", "trip", "found", "mine", "apart", "outer", "button"]) (sc := defScope (topS 22)) (by decide +kernel)) (fun _ _ _ _ _ => (pg_name (i := 10) sc_worse_lot.nd rfl (Or.inl rfl))) (fun _ _ _ _ _ => pts_one (pt_cmpR op_ne (pv 10) (pv 1) (nomark _))) (fun _ _ _ _ _ => (pv 10))) pa_nil)))
          (pss_one (ps_expr (pe_bm PySem.F.plainAttrs_list PySem.F.slot_list_extend PySem.F.type_list_extend mt_extend (pv 6) (pa_cons (pc (c_first_buttons T) hr (by decide) (by rfl) (pa_cons (pv 8) (pa_cons (pe_op op_sub (pe_ix ix_tup (pv 5) pe_int (fun _ _ => rfl)) pe_int) pa_nil))) pa_nil))))) (pss_one (ps_expr (pe_bm PySem.F.plainAttrs_list PySem.F.slot_list_extend PySem.F.type_list_extend mt_extend (pv 6) (pa_cons (pc (c_first_buttons T) hr (by decide) (by rfl) (pa_cons (pv 8) (pa_cons (pe_op op_sub (pe_ix ix_tup (pv 5) pe_int (fun _ _ => rfl)) pe_int) pa_nil))) pa_nil)))))
        (pss_one (ps_ret (pe_tupleOf (by rfl) T.n_tuple (pe_callB cr_sortedI (by rfl) T.n_sorted boot_sorted (pa_cons (pe_op op_cat (pv 6) (pc (c_turning_lot T) hr (by decide) (by rfl) (pa_cons (pc (c_part_with T) hr (by decide) (by rfl) (pa_cons (pv 5) (pa_cons (pv 2) pa_nil))) (pa_cons (pv 2) pa_nil)))) pa_nil)))))))))))), ?_⟩
    rcases k with ⟨one, other, rfl, rfl, h1, h2, k⟩ | ⟨z, hz, ke⟩
    · refine ⟨_, rfl, _, rfl, _, rfl, v, t, _, _, rfl, ht, sm, hd, .inl ⟨⟨one, rfl, h1⟩, ⟨other, rfl, h2⟩, fun H1 s1 => ?_⟩⟩
      refine ⟨_, rfl, v, t, rfl, ht.mono s1, sm, nd, hd, fun v' H2 s2 hv' => ?_⟩
      obtain ⟨I, red, pb⟩ := norm_in sm nd hd h1
      have h2' := pb.mem_iff.mpr h2
      unfold Told at k
      generalize t.norm srt = u at *
      have s02 := s1.trans s2
      refine ⟨_, rfl, _, rfl, _, rfl, v', u, one, other, rfl, hv', I, h2', fun H3 s3 => ⟨_, rfl, ?_⟩⟩
      have s03 := s02.trans s3
      by_cases c : one = other ∨ u.over one other = true
      · have e : (if one = other then true else u.over one other) = true := by
          by_cases e1 : one = other
          · rw [if_pos e1]
          · rw [if_neg e1]; exact c.resolve_left e1
        rw [e]
        exact iteT (k.1 c H3 s03)
      · have hne : one ≠ other := fun e => c (.inl e)
        have hov : u.over one other = false := by
          cases e : u.over one other with
          | true => exact absurd (.inr e) c
          | false => rfl
        rw [if_neg hne, hov]
        have k := k.2 hne hov
        refine iteF ⟨_, rfl, _, rfl, _, rfl, v', u, one, other, rfl, hv'.mono s3, I.sm, I.dep, fun l H4 xs s4 hl e4 hx => ?_⟩
        obtain ⟨pre, kk, ps, ed, hpre, In, hob, hon, hov2, hwl, hred⟩ := downs_split hne u I h2'
        have nred := hred red
        rw [ed] at hx
        obtain ⟨ys, z, rfl, hys, hz⟩ := hx.snoc_inv
        have ylen := hys.len
        have pre12 : pre.length ≤ 12 := by
          have q := downs_len (one := one) (other := other) u
          rw [ed, List.length_append, List.length_singleton] at q
          have := I.dep
          omega
        have s04 := s03.trans s4
        refine ⟨l, ys, z, rfl, e4, by omega, fun D4 hD4 => ⟨_, _, rfl, _, _, rfl, rfl, ?_⟩⟩
        have hys4 := hys.mono (Same.new (o := .lst ys) hD4)
        have hz4 := hz.mono (Same.new (o := .lst ys) hD4)
        have s05 : Same H (upd H4 D4 (.lst ys)) := s04.trans (Same.new hD4)
        have eD4 : upd H4 D4 (.lst ys) D4 = some (.lst ys) := upd_same
        generalize upd H4 D4 (.lst ys) = G at hys4 hz4 s05 eD4
        have hom : one ∈ btns ps := by have := In.mem; rw [btn_node] at this; exact this
        obtain ⟨m1, m2⟩ := pw_mem hom
        obtain ⟨n1, n2⟩ := pw_mem hob
        obtain ⟨w1, w2⟩ := wo_sm (bs := [one, other]) In.sm In.dep
        have In1 := In.part hom
        have In2 := In.part hob
        have l24 := In.sm.len
        rw [btn_node] at l24
        refine ⟨by show 0 ≤ sizeLine; decide, fun m hm => ?_⟩
        have sG : Same G (upd G m (.lst [])) := Same.new hm
        refine ⟨_, rfl, _, rfl, z, kk, ps, one, rfl, hz4.mono sG, In.sm, In.dep, hom, fun vm H6 s6 hvm => ?_⟩
        refine ⟨_, rfl, _, rfl, _, rfl, by show 2 ≤ sizeLine; decide, fun q hq => ⟨z, kk, ps, q, [one, other], rfl, hz4.mono ((sG.trans s6).trans (Same.new hq)), In.sm, In.dep, SqT.of upd_same, by show 2 ≤ 1000; decide, fun r H8 ap s8 hr8 e8 hap => ?_⟩⟩
        refine ⟨_, _, _, rfl, ?_⟩
        have s68 := (Same.new (o := .tup ([one, other].map V.int)) hq).trans s8
        have em : H8 m = some (.lst []) := s68 _ _ (s6 _ _ upd_same)
        have hrm : r ≠ m := fun e => by
          have := Same.new (o := .tup [.int one, .int other]) hq _ _ (s6 _ _ (upd_same (H := G)))
          rw [← e] at this
          have hr9 : upd H6 q (.tup [V.int one, V.int other]) r = none := hr8
          rw [hr9] at this
          cases this
        have hvm8 := hvm.mono s68
        have sG8 : Same G H8 := (sG.trans s6).trans s68
        refine ⟨_, rfl, D4, rfl, ⟨_, SqL.of (sG8 _ _ eD4)⟩, for_list (K := K) (a := D4) (xs := ys) (fun i σ H' => ∃ (o : Option V) (ns : List Int), σ = [some v, some (.int one), some (.int other), some v', some (.ref D4), some z, some (.ref m), some vm, some (.ref r), o, none] ∧
            Same G H' ∧ H' m = some (.lst (ns.map V.int)) ∧ H' r = some (.lst ap) ∧ TVs K H' ap (wo ps [one, other]) ∧ TV K H' vm (pw ps one) ∧ ns.Perm ((pre.take i).flatMap (outer one)) ∧ ns.length ≤ 24 * i)
          ⟨none, [], rfl, sG8, em, e8, hap, hvm8, List.Perm.refl _, by simp⟩ (fun i σ H' _ ⟨_, _, _, h, _⟩ => SqL.of (h _ _ eD4)) ?_ ?_⟩
        · rintro i x σ H' hxi ⟨o, ns, rfl, s9, em9, er9, hap9, hvm9, np, nl⟩
          obtain ⟨d, hdi, hdv⟩ := (hys4.mono s9).get hxi
          have hdm := List.mem_of_getElem? hdi
          have hil : i < pre.length := (List.getElem?_eq_some_iff.mp hdi).1
          obtain ⟨Id, hdl⟩ := hpre d hdm
          cases d with
          | leaf b => cases hdl
          | node k2 ps2 =>
            obtain ⟨a2, c2, us2, rfl, g1, g2, g3⟩ := tv_node.mp hdv
            have bd := Id.sm.bd
            obtain ⟨v1, v2⟩ := wo_sm (bs := [one]) Id.sm Id.dep
            have l24' := Id.sm.len
            rw [btn_node] at l24'
            refine ⟨_, rfl, .inl ⟨rfl, _, SqL.of em9⟩, _, rfl, _, rfl, by show 1 ≤ sizeLine; decide, fun q hq => ⟨.ref a2, k2, ps2, q, [one], rfl, hdv.mono (Same.new hq), Id.sm, Id.dep, SqT.of upd_same, by show 1 ≤ 1000; decide, fun r2 H10 as s10 hr10 e10 has => ?_⟩⟩
            have s9' := (Same.new (o := .tup ([one].map V.int)) hq).trans s10
            refine ⟨_, rfl, a2, _, 0, .int k2, rfl, rfl, s9'.seqT g1, rfl, _, _, rfl, rfl, r2, as, wo ps2 [one], (k2 - 1).toNat, ?_, e10, has, v1, by omega, fun m2 H11 ms s11 hm11 e11 mp => ?_⟩
            · rw [Int.toNat_of_nonneg (by omega)]; rfl
            have s911 := s9'.trans s11
            have eml := s911 _ _ em9
            have hlen : ms.length ≤ 24 := by
              rw [mp.length_eq]
              have := firstB_len (k2 - 1).toNat (wo ps2 [one])
              omega
            refine ⟨m, m2, _, _, rfl, rfl, eml, e11, size_ok (by rw [List.length_map, List.length_map]; omega), some (.ref a2), ns ++ ms, rfl, (s9.trans s911).up hm, ?_, ?_, tvs_upd eml (hap9.mono s911), tv_upd eml _ _ (hvm9.mono s911), ?_, ?_⟩
            · rw [upd_same, List.map_append]
            · rw [upd_ne hrm]; exact s911 _ _ er9
            · have et : pre.take (i + 1) = pre.take i ++ [.node k2 ps2] := by rw [List.take_add_one, hdi]; rfl
              rw [et, List.flatMap_append]
              refine np.append ?_
              simpa [outer] using mp
            · rw [List.length_append]; omega
        · rintro σ H' ⟨o, ns, rfl, s9, em9, er9, hap9, hvm9, np, nl⟩
          rw [ylen, List.take_length] at np
          rw [ylen] at nl
          obtain ⟨a3, c3, us3, rfl, g1, g2, g3⟩ := tv_node.mp hz4
          have bd := In.sm.bd
          have hmG : G m = none := hm
          dsimp only
          refine seqIf_of (decide ((pw ps one).go (fun x => decide (x = one)) = true ∨ kk - 1 > ((wo ps [one, other]).length : Int))) (fun H'' => Same H' H'')
            (fun σ' H'' => ∃ ls : List Int, σ' = [some v, some (.int one), some (.int other), some v', some (.ref D4), some (.ref a3), some (.ref m), some vm, some (.ref r), o, none] ∧ H'' m = some (.lst (ls.map V.int)) ∧ Same G H'' ∧ ls.length ≤ 1000 ∧
              ls.Perm (pre.flatMap (outer one) ++ (if (pw ps one).go (fun x => decide (x = one)) = true ∨ kk - 1 > ((wo ps [one, other]).length : Int) then (pw ps one).btn.filter (fun x => decide (x ≠ one)) ++ firstB (kk - 2).toNat (wo ps [one, other]) else firstB (kk - 1).toNat (wo ps [one, other])))) ?_ ?_ ?_ ?_
          · -- the test
            intro R hR
            refine ⟨_, rfl, _, rfl, by show 1 ≤ sizeLine; decide, fun q hq => ⟨vm, pw ps one, q, [one], rfl, hvm9.mono (Same.new hq), In1.sm, In1.dep, SqT.of upd_same, fun H10 s10 => ⟨_, rfl, ?_⟩⟩⟩
            have eg : (pw ps one).go (fun x => decide (x ∈ [one])) = (pw ps one).go fun x => decide (x = one) := by
              congr 1; funext x; simp
            rw [eg]
            have s10' := (Same.new (o := .tup ([one].map V.int)) hq).trans s10
            have hR' := hR H10 s10'
            cases hg : (pw ps one).go fun x => decide (x = one) with
            | true =>
              rw [hg] at hR'
              refine iteT ?_
              simpa using hR'
            | false =>
              rw [hg] at hR'
              refine iteF ⟨_, rfl, a3, _, 0, .int kk, rfl, rfl, (s9.trans s10').seqT g1, rfl, _, _, rfl, rfl, _, rfl, r, ap, rfl, .inl (SqL.of (s10' _ _ er9)), _, _, rfl, rfl, _, rfl, ?_⟩
              rw [hap9.len]
              simpa using hR'
          · -- mine goes by one, or apart does not suffice
            intro eb R hR H10 s10
            have cond := of_decide_eq_true eb
            have k2 := base_k2 In.sm.ok nred (by have := In.nd; rw [btn_node] at this; exact this) hom (by rw [← any_isLeaf (by have := In.nd; rw [btn_node] at this; exact this) hom, ← hov2]; exact hov) cond
            refine ⟨_, rfl, .inl ⟨rfl, _, SqL.of (s10 _ _ em9)⟩, _, rfl, vm, pw ps one, rfl, hvm9.mono s10, In1.sm, In1.dep, fun a5 H11 bs s11 bp bw e11 => lcN (fun x => decide (x ≠ one)) (SqT.of e11) (by rw [bp.length_eq]; have := In1.sm.len; omega) (fun _ => rfl) ?_ ?_ ?_⟩
            · intro n H' R hn s hR
              (refine ⟨_, rfl, _, rfl, rfl, _, rfl, ?_⟩)
              rw [dec_i]
              have := hR H' (Same.refl H')
              simpa using this
            · intro n H' R hn hf s hR
              exact ⟨_, rfl, hR⟩
            · intro D6 H12 s12 hD6 e12
              have s1012 := (s10.trans s11).trans s12
              have fl : (bs.filter fun x => decide (x ≠ one)).length ≤ 24 := by
                have q1 := List.length_filter_le (fun x => decide (x ≠ one)) bs
                have q2 := bp.length_eq
                have q3 := In1.sm.len
                omega
              refine ⟨m, D6, _, _, rfl, rfl, s1012 _ _ em9, e12, size_ok (by rw [List.length_map, List.length_map]; omega), ?_⟩
              have emm := s1012 _ _ em9
              refine ⟨_, rfl, .inl ⟨rfl, _, SqL.of upd_same⟩, _, rfl, _, rfl, a3, _, 0, .int kk, rfl, rfl, ((s9.trans s1012).up hmG).seqT g1, rfl, _, _, rfl, rfl, r, ap, wo ps [one, other], (kk - 2).toNat, ?_, ?_, tvs_upd emm (hap9.mono s1012), w1, by omega, fun m2 H13 ms s13 hm13 e13 mp => ?_⟩
              · rw [Int.toNat_of_nonneg (by omega)]; rfl
              · rw [upd_ne hrm]; exact s1012 _ _ er9
              have ml : ms.length ≤ 24 := by
                rw [mp.length_eq]
                have := firstB_len (kk - 2).toNat (wo ps [one, other])
                omega
              refine ⟨m, m2, _, _, rfl, rfl, s13 _ _ upd_same, e13, size_ok (by rw [List.length_append, List.length_map, List.length_map, List.length_map]; omega), hR _ _ ⟨ns ++ (bs.filter fun x => decide (x ≠ one)) ++ ms, rfl, ?_, (((s9.trans s1012).up hmG).trans s13).up hmG, ?_, ?_⟩⟩
              · rw [upd_same, List.map_append, List.map_append]
              · rw [List.length_append, List.length_append]; omega
              · rw [if_pos cond, List.append_assoc]
                exact np.append ((bp.filter _).append mp)
          · intro eb R hR H10 s10
            have cond := of_decide_eq_false eb
            have emm := s10 _ _ em9
            refine ⟨_, rfl, .inl ⟨rfl, _, SqL.of emm⟩, _, rfl, _, rfl, a3, _, 0, .int kk, rfl, rfl, (s9.trans s10).seqT g1, rfl, _, _, rfl, rfl, r, ap, wo ps [one, other], (kk - 1).toNat, ?_, s10 _ _ er9, hap9.mono s10, w1, by omega, fun m2 H13 ms s13 hm13 e13 mp => ?_⟩
            · rw [Int.toNat_of_nonneg (by omega)]; rfl
            have ml : ms.length ≤ 24 := by
              rw [mp.length_eq]
              have := firstB_len (kk - 1).toNat (wo ps [one, other])
              omega
            refine ⟨m, m2, _, _, rfl, rfl, s13 _ _ emm, e13, size_ok (by rw [List.length_map, List.length_map]; omega), hR _ _ ⟨ns ++ ms, rfl, ?_, ((s9.trans s10).trans s13).up hmG, ?_, ?_⟩⟩
            · rw [upd_same, List.map_append]
            · rw [List.length_append]; omega
            · rw [if_neg cond]
              exact np.append mp
          · rintro σ' H10 ⟨ls, rfl, eml, s10, ll, lp⟩
            refine ⟨_, rfl, _, rfl, _, rfl, .ref a3, kk, ps, other, rfl, hz4.mono s10, In.sm, In.dep, hob, fun vo H11 s11 hvo => ⟨_, rfl, vo, pw ps other, other, rfl, hvo, In2, fun l2 H12 tl s12 hl12 e12 tp => ?_⟩⟩
            have tlen := turn_len In2
            refine ⟨m, l2, _, _, rfl, rfl, s12 _ _ (s11 _ _ eml), e12, size_ok (by rw [List.length_map, List.length_map, tp.length_eq]; omega), fun q hq => ?_⟩
            refine ⟨q, ls ++ tl, rfl, SqL.of (by rw [upd_same, List.map_append]), fun ms p hp hs np' => .inl ⟨p, _, rfl, SqL.of upd_same, fun q2 nq => ?_⟩⟩
            refine k q2 _ ms ?_ upd_same ?_ hs
            · exact (((((s05.trans s10).trans s11).trans s12).trans (Same.new hq)).trans (Same.new np')).trans (Same.new nq)
            · rw [hwl, baseL, ← List.append_assoc]
              exact hp.trans (lp.append tp)
    · exact ⟨_, rfl, _, rfl, _, rfl, v, t, _, _, rfl, ht, sm, hd, .inr ⟨z, hz, ke⟩⟩
end
end K23
namespace K23
open PySem PyProof.Rows PySem.Spec L2
/-! ### try: .. / except x as n: .. / further clauses, where what the body lets out is always of x -/
def wAsT (K : PySem.W.Frag) (c : Value) (i : Nat) (ts : Addr → Value → Option Addr → TS) (D : Ends) : WX := fun cls d σ H =>
  PySem.W.exmOne K cls c = some true ∧ ∀ a, H a = none → ts a cls d { nx := fun σ' H' => D.nx (σ'.set i none) H', rt := D.rt, bk := fun σ' H' => D.bk (σ'.set i none) H', ct := fun σ' H' => D.ct (σ'.set i none) H' } (σ.set i (some (.ref a))) H
section
variable {X : Cx} {x n : Str} {c : Value} {i : Nat} {body suite : List Stmt} {b₀ : Stmt} {np pos pos' : Pos} {tb : WX → TS} {ts : Addr → Value → Option Addr → TS} {more : List ExceptHandler}
theorem ps_try_asT (st : X.stack = X.env :: X.outer) (fr : X.env.frame = some X.env.locals) (nN : X.N.Nodup) (iN : X.N[i]? = some n) (kN : X.env.kindOf n = some .local) (cN : Names X x c)
    (hB : ∀ (W : WX) (pn : List (Addr × Obj)) (xe : Value → Shared → Prop), Takes (X.tr pn xe) W → PassesOwn (model X.prog X.w) X.A X.env xe → PSs (X.tr pn xe) body (tb W))
    (hS : ∀ (a : Addr) (oe : Obj) (cls : Value) (d : Option Addr) (pn : List (Addr × Obj)), Zc cls d oe → (∃ vs, oe.data = .fields vs) → PSs (X.suite a ((a, oe) :: pn)) (b₀ :: suite) (ts a cls d)) :
    PS X (.Try body (.ExceptHandler (some (.Name x np)) (some n) (b₀ :: suite) pos' :: more) [] [] pos) (fun D σ H => tb (wAsT X.K c i ts D) D σ H) := by
  refine ⟨fun pins s σ H D I hyp => ?_⟩
  have okX := I.ok
  have fra : X.A.frames = some (X.env :: X.outer) := by rw [okX.frames, st]
  have loc : Loc X.env.scope n := .inl kN
  refine wpAny_Try_except ?_
  refine wpAny_mono ((hB (wAsT X.K c i ts D) (X.pn ++ pins) (fun e sa => wpAny (model X.prog X.w) X.A (noteFrame e X.env) (fun _ sb => wpAny (model X.prog X.w) X.A (setFlight e none) (fun _ sc =>
    wpAny (model X.prog X.w) X.A (handleBy e X.env (.ExceptHandler (some (.Name x np)) (some n) (b₀ :: suite) pos' :: more)) (SP X pins D) X.xe sc) X.xe sb) X.xe sa) (fun u sz xx => ?_) PassesOwn.looking).run [] s σ H D (I.toTry _) hyp) (fun fl sz hz => ?_) (fun e sz he => he)
  · obtain ⟨a, B, sI, pinz, σz, Hz, cls, d, rfl, Jz, nb, up, sky, na, os, ag, exm, yes⟩ := xx
    have J : Inv X pins σz Hz sI := Jz.ofTry okX
    have skz : Sky B (X.env :: X.outer) a (Zc cls d) X.env.locals sz.heap := by rw [← st]; exact sky
    (show wpAny (model X.prog X.w) X.A (noteFrame (.ref a) X.env) _ _ _)
    refine Sky.land Zc.steady fra fr skz fun hA flA upA => ?_
    have JA : Inv X pins σz Hz { sz with heap := hA } := J.landed nb flA.1 (up.trans upA) os ag
    obtain ⟨oA, vA, heA, hzA, hdA⟩ := flA.there
    have noFr : ∀ {h : Heap} {o : Obj} {vs : Array Value}, h.FunFrames B (X.env :: X.outer) → h.get? a = some o → o.data = .fields vs → a ∉ frs (X.env :: X.outer) := fun {h o vs} f1 e1 d1 m1 => by
      obtain ⟨_, o2, e2, n2⟩ := f1.mem m1
      rw [e1] at e2; cases e2
      exact n2 _ d1
    have nfA := noFr flA.2.2.1 heA hdA
    have nL : a ≠ X.env.locals := fun z => nfA (List.mem_filterMap.mpr ⟨X.env, List.mem_cons_self, by rw [fr, z]⟩)
    have nF : a ∉ X.fs := fun m1 => by
      obtain ⟨e1, h1, q1⟩ := List.mem_filterMap.mp m1
      exact nfA (List.mem_filterMap.mpr ⟨e1, List.mem_cons_of_mem _ h1, q1⟩)
    have SA := JA.suite heA hdA na nL nF
    (refine wpAny_handleBy_cons (codeAny_handlers_test ?_) (by intro q; cases q))
    have LT : PySem.W.Looks (model X.prog X.w) hA (typeOf (.ref a)) cls := fun A Q E s k q => wpAny_typeOf_ref (k _ _ heA) (by rw [hzA.1]; exact q)
    have LM := PySem.W.exm_one (M := model X.prog X.w) (JA.kIn) LT exm
    have tst : ∀ {Q : Value → Shared → Prop} {E : Value → Shared → Prop}, Q c { sz with heap := hA } → wpAny (model X.prog X.w) (X.A.mark (some (.ref a))) (eval (.Name x np) X.env) Q E { sz with heap := hA } := fun {Q E} q => by
      obtain ⟨g1, g2, g3 | ⟨g3, g4, g5⟩⟩ := cN
      · exact ld_glob (X := X.suite a ((a, oA) :: (X.pn ++ pins))) SA g1 g3 q g2
      · exact ld_blt (X := X.suite a ((a, oA) :: (X.pn ++ pins))) SA g1 g3 g4 q g5 g2
    refine tst (LM.here ?_)
    (refine codeAny_handlers_suite_as ?_)
    refine HandSPX.lands_againZ flA fun hB flB upB => ?_
    have JB : Inv X pins σz Hz { sz with heap := hB } := J.landed nb flB.1 ((up.trans upA).trans upB) os ag
    obtain ⟨oB, vB, heB, hzB, hdB⟩ := flB.there
    have SB := JB.suite heB hdB na nL nF
    refine store_ok (X := X.suite a ((a, oB) :: (X.pn ++ pins))) (v := .ref a) SB nN iN loc rfl (fun s5 S5 => ?_) (.inr kN)
    refine wpAny_mono ((hS a oB cls d (X.pn ++ pins) hzB ⟨_, hdB⟩).run [] s5 _ Hz _ S5 (yes a na)) (fun f s6 h6 => ?_) (fun _ _ z => False.elim z)
    have fin : ∀ {σ6 : L2.St} {H6 : Hp} {Q : Shared → Prop}, Inv (X.suite a ((a, oB) :: (X.pn ++ pins))) [] σ6 H6 s6 → (∀ s7, Inv X pins (σ6.set i none) H6 s7 → Q s7) →
        wpAny (model X.prog X.w) X.A (do bindName X.env n .none; unbindBehindTheSuite X.env n pos') (fun _ s7 => Q s7) X.xe s6 := fun {σ6 H6 Q} S6 hq => gone_ok (S6.unsuite okX) nN iN kN hq
    cases f with
    | next => exact let ⟨σ6, H6, S6, q6⟩ := h6; fin S6 fun s7 J7 => ⟨_, _, J7, q6⟩
    | brk => exact let ⟨σ6, H6, S6, q6⟩ := h6; fin S6 fun s7 J7 => ⟨_, _, J7, q6⟩
    | cont => exact let ⟨σ6, H6, S6, q6⟩ := h6; fin S6 fun s7 J7 => ⟨_, _, J7, q6⟩
    | ret u => exact let ⟨v6, σ6, H6, S6, r6, q6⟩ := h6; fin S6 fun s7 J7 => ⟨_, _, _, J7, r6, q6⟩
  · cases fl with
    | next => exact let ⟨σ', H', J', q⟩ := hz; wpAny_execs_nil ⟨σ', H', J'.ofTry okX, q⟩
    | brk => exact let ⟨σ', H', J', q⟩ := hz; ⟨σ', H', J'.ofTry okX, q⟩
    | cont => exact let ⟨σ', H', J', q⟩ := hz; ⟨σ', H', J'.ofTry okX, q⟩
    | ret u => exact let ⟨v, σ', H', J', r, q⟩ := hz; ⟨v, σ', H', J'.ofTry okX, r, q⟩
end
/-! ### worse_lot(other = .., one = .., tree = ..) -/
def tKw3 (sp : Sp) (E : L2.St → XK) (tk : TA) : TE := fun σ H Q => tk σ H fun zs H2 => ∃ a b c, zs = [a, b, c] ∧ sp [c, b, a] H2 Q (E σ)
section
variable {X : Cx} {k j : Nat} {sp : Sp} {p pos : Pos} {kws : List Keyword} {tk : TA} {W : WX}
theorem kwb (kV doc pm cdv ct : Value) (an : Option Addr) (wa wb wc : Value) : bindArgs (PySem.W.fnOf "worse_lot" "worse_lot" (defArgs (topS 22)) (defBody (topS 22)) (defScope (topS 22)) .none kV doc pm an cdv ct) ⟨[], (["other", "one", "tree"] : List Str).zip [wa, wb, wc]⟩ = pure ((["tree", "one", "other"] : List Str).zip [wc, wb, wa]) := by kernel_rfl
theorem pe_worseK (c : CalX X.prog X.w X.K X.mg X.base 22 k "worse_lot" ["tree", "one", "other"] sp) (tw : Takes X W) (hr : Room j X.A) (hk : k ≤ j) (hg : Gl X "worse_lot") (hkw : PK X kws tk)
    (hall : (backToKw pos (keywordEach kws X.env)).all (·.1.isSome) = true := by rfl) (hks : (backToKw pos (keywordEach kws X.env)).filterMap (·.1) = (["other", "one", "tree"] : List Str) := by rfl)
    (hpl : ((backTo pos (starEach [] X.env)).any (·.1) || (backToKw pos (keywordEach kws X.env)).any (·.1.isNone)) = false := by rfl) : PE X (.Call (.Name "worse_lot" p) [] kws pos) (tKw3 sp (WE W) tk) := by
  obtain ⟨f, fd, Fn, F, hm, kp, b⟩ := c.ex
  (refine ⟨fun pins s σ H Q I h => ?_⟩)
  refine wpAny_Call_Name_kw (ld_glob I hg hm ?_ (by decide))
  refine PySem.W.callWith_KW0 (h₀ := X.base) I.ok.mod.kin kp hall ?_ hpl
  refine thn (hkw.run pos pins s σ H _ I h) fun ws s2 ⟨zs, H2, I2, rz, va, vb, vc, ez, q2⟩ => ⟨I2.kIn, ?_⟩
  subst ez
  rw [hks]
  obtain ⟨oc, od, kV, doc, pm, an, cdv, ct, osl, efd, lk, hcd⟩ := Fn.ex
  cases rz with
  | @cons _ wa _ wr ra rz =>
    cases rz with
    | @cons _ wb _ wr2 rb rz =>
      cases rz with
      | @cons _ wc _ wr3 rc rz =>
        cases rz
        have hb : BindsTo s2 fd ⟨[], (["other", "one", "tree"] : List Str).zip [wa, wb, wc]⟩ ((["tree", "one", "other"] : List Str).zip [wc, wb, wa]) := BindsTo.of_eq (by rw [efd]; exact kwb kV doc pm cdv ct an wa wb wc)
        have hrun := F.run X.A X.stack s2 H2 ⟨[], (["other", "one", "tree"] : List Str).zip [wa, wb, wc]⟩ [wc, wb, wa] [vc, vb, va] Q _ (hr.mono hk) I2.env0 hb (.cons rc (.cons rb (.cons ra .nil))) q2
        rw [List.nil_append]
        refine wpAny_call (codeAny_mono hrun fun r s' hq => ?_)
        cases r with
        | error e => exact passAt tw σ pins H2 s2 e s' I2 hq
        | ok fl =>
          cases fl with
          | ret u => exact I2.after hq
          | next => exact False.elim hq
          | brk => exact False.elim hq
          | cont => exact False.elim hq
end
section
variable {P : Program} {w : World} {K : PySem.W.Frag} {mg : Str → Option Value} {base : Heap} {C D fI : Addr} {mc : Value}
theorem _root_.K23.Told.imp {t : Tr} {one other : Int} {H : Hp} {Q Q' : VK} (h : Told K t one other H Q) (g : ∀ u H', Q u H' → Q' u H') : Told K t one other H Q' :=
  ⟨fun c H' s => g _ _ (h.1 c H' s), fun a b c H' ns s e p o => g _ _ (h.2 a b c H' ns s e p o)⟩
/-! ### _law_told: slots _law_tree_here 0, _law_one 1, _law_other 2, _law_is_named 3, raised 4 -/
def spLawTold (K : PySem.W.Frag) : Sp := fun vs H Q _ => ∃ (v : V) (t : Tr) (x y : V) (nm : Bool), vs = [v, x, y, .bl nm] ∧ TV K H v t ∧ Sm t ∧ t.btn.Nodup ∧ t.dep ≤ 12 ∧
  ((∃ one other : Int, x = .int one ∧ y = .int other ∧ one ∈ t.btn ∧ other ∈ t.btn ∧ Told K t one other H fun u H1 => ∀ l, H1 l = none → Q (.ref l) (upd H1 l (.lst [.str "told", u]))) ∨
    ∃ z, ((Bd K t x H ∧ z = x) ∨ (Gd t x ∧ Bd K t y H ∧ z = y)) ∧ ∀ (l : Addr) (H' : Hp), Same H H' → H' l = none → Q (.ref l) (upd H' l (.lst [.str "none", z])))
theorem sc_law_told : FnScope ["_law_tree_here", "_law_one", "_law_other", "_law_is_named", "raised"] ["_law_tree_here", "_law_one", "_law_other", "_law_is_named"] (defScope (topS 40)) := ⟨rfl, rfl, rfl, by decide +kernel, rfl, by decide +kernel, by decide +kernel⟩
theorem c_law_told (T : Txt K mg) (N : Nb K mg C D fI mc) : Cal P w K mg base 20 "_law_told" ["_law_tree_here", "_law_one", "_law_other", "_law_is_named"] (spLawTold K) := by
  refine Cal.mk' T.d_law_told sc_law_told (fun _ _ _ _ _ _ us hl => match us, hl with | [_, _, _, _], _ => rfl) (fun vs H Q E h => ?_) (fun f cdv A outer s H vs Q E hr h => ?_)
  · obtain ⟨_, _, _, _, _, rfl, _⟩ := h; rfl
  · obtain ⟨v, t, x, y, nm, rfl, ht, sm, nd, hd, k⟩ := h
    refine ⟨_, (pss_one (ps_try_asT (i := 4) (c := .ref C) rfl rfl sc_law_told.nd rfl rfl ⟨rfl, by decide, Or.inl N.gC⟩
      (fun W pn xe tk _ => pss_one (ps_ret (pe_lst (pa_cons pe_str (pa_cons (pe_ifExp (pt_val (pv 3)) (pe_worseK (c_worse_lot T N) tk hr (by decide) (by rfl) (pk_cons (pv 2) (pk_cons (pv 1) (pk_cons (pv 0) pk_nil)))) (pcS (c_worse_lot T N) tk hr (by decide) (by rfl) (pa_cons (pv 0) (pa_cons (pv 1) (pa_cons (pv 2) pa_nil))))) pa_nil)))))
      (fun a oe cls d pn hz hf => pss_one (ps_ret (pe_lst (pa_cons pe_str (pa_cons (pe_xf N.xf N.noG hz hf (pv 4)) pa_nil))))))), ?_⟩
    have ke : ∀ z : V, (∀ (l : Addr) (H' : Hp), Same H H' → H' l = none → Q (.ref l) (upd H' l (.lst [.str "none", z]))) → ∀ (d : Addr) (H' : Hp), Same H H' → H' d = some (.xd [("given", z)]) → ∀ a, H' a = none →
        (tRet (tLst (tCons (tC (.str "none")) (tCons (tXf a (.ref C) (some d) C "given" (tVar 4)) tNil)))) { nx := fun _ _ => False, rt := Q } [some v, some x, some y, some (.bl nm), some (.ref a)] H' := by
      intro z kz d H' s1 e1 a ha
      exact ⟨_, rfl, rfl, rfl, d, _, z, rfl, e1, rfl, by show 2 ≤ sizeLine; decide, fun l hl => kz l H' s1 hl⟩
    cases nm with
    | true =>
      rcases k with ⟨one, other, rfl, rfl, h1, h2, k⟩ | ⟨z, hz, k⟩
      · exact ⟨_, rfl, _, rfl, iteT ⟨_, rfl, _, rfl, _, rfl, _, _, _, rfl, v, t, _, _, rfl, ht, sm, nd, hd, .inl ⟨one, other, rfl, rfl, h1, h2, k.imp fun u H' q => ⟨by show 2 ≤ sizeLine; decide, q⟩⟩⟩⟩
      · exact ⟨_, rfl, _, rfl, iteT ⟨_, rfl, _, rfl, _, rfl, _, _, _, rfl, v, t, _, _, rfl, ht, sm, nd, hd, .inr ⟨z, hz, fun d H' s1 e1 => ⟨N.te, fun a ha => ke z k d H' s1 e1 a ha⟩⟩⟩⟩
    | false =>
      rcases k with ⟨one, other, rfl, rfl, h1, h2, k⟩ | ⟨z, hz, k⟩
      · exact ⟨_, rfl, _, rfl, iteF ⟨_, rfl, _, rfl, _, rfl, v, t, _, _, rfl, ht, sm, nd, hd, .inl ⟨one, other, rfl, rfl, h1, h2, k.imp fun u H' q => ⟨by show 2 ≤ sizeLine; decide, q⟩⟩⟩⟩
      · exact ⟨_, rfl, _, rfl, iteF ⟨_, rfl, _, rfl, _, rfl, v, t, _, _, rfl, ht, sm, nd, hd, .inr ⟨z, hz, fun d H' s1 e1 => ⟨N.te, fun a ha => ke z k d H' s1 e1 a ha⟩⟩⟩⟩
end
end K23
namespace K23
open PySem PyProof.Rows PySem.Spec L2
theorem seqAsg_of {te : TE} {g : TG} {u : TS} {D : Ends} {σ : L2.St} {H : Hp} (v : V) (h : ∀ Q : VK, Q v H → te σ H Q) (k : g v σ H (u D)) : tSeq (tAsg te g) u D σ H := h _ k
theorem id_perm (l : List Tr) : (id l).Perm l := List.Perm.refl _
theorem norm_partsI {ps : List Tr} (h : ∀ p ∈ ps, p.ok) : (∀ q ∈ ps.map (Tr.norm id), q.ok) ∧ (btns (ps.map (Tr.norm id))).Perm (btns ps) := by
  refine ⟨fun q hq => ?_, ?_⟩
  · obtain ⟨p, hp, rfl⟩ := List.mem_map.mp hq
    exact (norm_ok id_perm p (h p hp)).ok
  · induction ps with
    | nil => exact List.Perm.refl _
    | cons p r ih =>
      rw [List.map_cons, btns, btns]
      exact (norm_ok id_perm p (h p (by simp))).btn.append (ih fun q hq => h q (by simp [hq]))
section
variable {w : World} {P : Program} {K : PySem.W.Frag} {base : Heap} {mg : Str → Option Value}
def spRed (K : PySem.W.Frag) (d : Nat) : Sp := fun vs H Q _ => ∃ (v : V) (t : Tr), vs = [v] ∧ TV K H v t ∧ Sm t ∧ t.btn.Nodup ∧ t.dep ≤ d ∧ ∀ (v' : V) (H' : Hp), Same H H' → TV K H' v' (t.norm id) → Q v' H'
/-! ### _law_reduced: slots _law_tree_here 0, _law_parts 1, _law_bound 2, _law_is_one 3, _law_is_all 4, _law_found 5, _law_part 6, _law_is_like 7 -/
theorem sc_law_reduced : FnScope ["_law_tree_here", "_law_parts", "_law_bound", "_law_is_one", "_law_is_all", "_law_found", "_law_part", "_law_is_like"] ["_law_tree_here"] (defScope (topS 37)) := ⟨rfl, rfl, rfl, by decide +kernel, rfl, by decide +kernel, by decide +kernel⟩
theorem c_law_reduced (T : Txt K mg) : ∀ d : Nat, Cal P w K mg base (d + 2) "_law_reduced" ["_law_tree_here"] (spRed K d) := by
  intro d
  induction d with
  | zero =>
    refine Cal.mk' T.d_law_reduced sc_law_reduced (fun _ _ _ _ _ _ us hl => match us, hl with | [_], _ => rfl) (fun vs H Q E h => ?_) (fun f cdv A outer s H vs Q E hr h => ?_)
    · obtain ⟨_, _, rfl, _⟩ := h; rfl
    · obtain ⟨v, t, rfl, ht, sm, nd, hd, k⟩ := h
      refine ⟨_, (pss_cons (ps_if (pt_val (pe_callB call_isi (by rfl) T.n_isinstance boot_isinstance (pa_cons (pv 0) (pa_cons (pe_bltn (v := .ty "int") (by rfl) T.n_int boot_int rfl) pa_nil)))) (pss_one (ps_ret (pv 0))) pss_nil) pss_never), ?_⟩
      obtain ⟨b, rfl⟩ := dep_zero hd
      obtain ⟨u, hu, hk⟩ := tv_isInt ht
      exact ⟨_, rfl, _, .ty "int", u, _, _, rfl, .ty _, hu, hk, _, rfl, iteT ⟨_, rfl, k v H (Same.refl H) (by rw [Tr.norm]; exact ht)⟩⟩
  | succ d ih =>
    refine Cal.mk' T.d_law_reduced sc_law_reduced (fun _ _ _ _ _ _ us hl => match us, hl with | [_], _ => rfl) (fun vs H Q E h => ?_) (fun f cdv A outer s H vs Q E hr h => ?_)
    · obtain ⟨_, _, rfl, _⟩ := h; rfl
    · obtain ⟨v, t, rfl, ht, sm, nd, hd, k⟩ := h
      refine ⟨_, (pss_cons (ps_if (pt_val (pe_callB call_isi (by rfl) T.n_isinstance boot_isinstance (pa_cons (pv 0) (pa_cons (pe_bltn (v := .ty "int") (by rfl) T.n_int boot_int rfl) pa_nil)))) (pss_one (ps_ret (pv 0))) pss_nil)
        (pss_cons (ps_par (i := 1) (j := 2) rfl sc_law_reduced.nd rfl rfl (by decide) rfl rfl (pa_cons (pe_lc (own := [("_law_part", 6)]) rfl sc_law_reduced.nd (pi_tup (pe_ix ix_tup (pv 0) pe_int (fun _ _ => rfl))) (blkOk_by (N := ["_law_tree_here", "_law_parts", "_law_bound", "_law_is_one", "_law_is_all", "_law_found", "_law_part", "_law_is_like"]) (sc := defScope (topS 37)) (by decide +kernel)) (fun _ _ _ _ _ => (pg_name (i := 6) sc_law_reduced.nd rfl (Or.inl rfl))) (fun _ _ _ _ _ => pts_nil) (fun _ _ _ _ _ => (pc ih hr (by omega) (by rfl) (pa_cons (pv 6) pa_nil)))) (pa_cons (pe_ix ix_tup (pv 0) pe_int (fun _ _ => rfl)) pa_nil)) (by rfl))
        (pss_cons (ps_if (pt_cmpR op_eq (pe_callB call_len_seq (by rfl) T.n_len boot_len (pa_cons (pv 1) pa_nil)) pe_int (nomark _)) (pss_one (ps_ret (pe_ix ix_list (pv 1) pe_int (fun _ _ => rfl)))) pss_nil)
        (pss_cons (ps_par3 (i := 3) (j := 4) (l := 5) rfl sc_law_reduced.nd rfl rfl rfl (by decide) (by decide) (by decide) rfl rfl rfl (pa_cons (pe_cmpR op_eq (pv 2) pe_int (nomark _)) (pa_cons (pe_cmpR op_eq (pv 2) (pe_callB call_len_seq (by rfl) T.n_len boot_len (pa_cons (pv 1) pa_nil)) (nomark _)) (pa_cons (pe_lst pa_nil) pa_nil))) (by rfl))
        (pss_cons (ps_for PassesOwn.never rfl (pi_list (pv 1)) (pg_name (i := 6) sc_law_reduced.nd rfl (Or.inl rfl))
          (pss_cons (ps_set (i := 7) sc_law_reduced.nd rfl (Or.inl rfl) (pe_and (pe_not (pe_callB call_isi (by rfl) T.n_isinstance boot_isinstance (pa_cons (pv 6) (pa_cons (pe_bltn (v := .ty "int") (by rfl) T.n_int boot_int rfl) pa_nil)))) (pe_one (pe_or (pe_and (pv 3) (pe_one (pe_cmpR op_eq (pe_ix ix_tup (pv 6) pe_int (fun _ _ => rfl)) pe_int (nomark _)))) (pe_one (pe_and (pv 4) (pe_one (pe_cmpR op_eq (pe_ix ix_tup (pv 6) pe_int (fun _ _ => rfl)) (pe_callB call_len_seq (by rfl) T.n_len boot_len (pa_cons (pe_ix ix_tup (pv 6) pe_int (fun _ _ => rfl)) pa_nil)) (nomark _)))))))))
            (pss_one (ps_set (i := 5) sc_law_reduced.nd rfl (Or.inl rfl) (pe_op op_cat (pv 5) (pe_ifExp (pt_val (pv 7)) (pe_callTy call_list_of (by rfl) T.n_list boot_list (pa_cons (pe_ix ix_tup (pv 6) pe_int (fun _ _ => rfl)) pa_nil)) (pe_lst (pa_cons (pv 6) pa_nil))))))))
        (pss_one (ps_ret (pe_tup (pa_cons (pe_ifExp (pt_val (pv 4)) (pe_callB call_len_seq (by rfl) T.n_len boot_len (pa_cons (pv 5) pa_nil)) (pv 2)) (pa_cons (pe_tupleOf (by rfl) T.n_tuple (pv 5)) pa_nil)))))))))), ?_⟩
      obtain ⟨u, hu, hk⟩ := tv_isInt ht
      cases t with
      | leaf b => exact ⟨_, rfl, _, .ty "int", u, _, _, rfl, .ty _, hu, hk, _, rfl, iteT ⟨_, rfl, k v H (Same.refl H) (by rw [Tr.norm]; exact ht)⟩⟩
      | node bound ps =>
        obtain ⟨a, b, us, rfl, h1, h2, h3⟩ := tv_node.mp ht
        rw [btn_node] at nd
        have bd := sm.bd
        have l24 := sm.len
        rw [btn_node] at l24
        obtain ⟨ho, n2⟩ := norm_partsI sm.oks
        rw [Tr.norm, normA_eq] at k
        refine ⟨_, rfl, _, .ty "int", u, _, _, rfl, .ty _, hu, hk, _, rfl, iteF ⟨_, rfl, a, _, 1, .ref b, rfl, rfl, h1, rfl, lcMap (Tr.norm id) h2 h3 (by have := sm.plen; omega) (fun _ => rfl) ?_ ?_⟩⟩
        · intro v p H' R hp s1 hv hR
          exact ⟨_, rfl, v, p, rfl, hv, sm.part hp, nd_part nd p hp, dep_part hd hp, hR⟩
        · intro l H1 xs s1 hl e1 hT
          have h24 : (btns (ps.map (Tr.norm id))).length ≤ 24 := by rw [n2.length_eq]; exact l24
          have qlen : (ps.map (Tr.norm id)).length = ps.length := List.length_map _
          generalize ps.map (Tr.norm id) = qs at *
          have hlen := hT.len
          refine ⟨_, rfl, a, _, 0, .int bound, rfl, rfl, s1.seqT h1, rfl, _, _, rfl, ?_⟩
          refine ⟨_, rfl, l, xs, rfl, .inl (SqL.of e1), rfl, _, rfl, ?_⟩
          rw [dec_i, hlen]
          unfold mk at k
          by_cases c : qs.length = 1
          · rw [decide_eq_true (by omega)]
            rw [if_pos c] at k
            obtain ⟨q, rfl⟩ := List.length_eq_one_iff.mp c
            obtain ⟨v, r, rfl, g1, g2⟩ := hT.uncons
            exact iteT ⟨_, rfl, l, _, 0, v, rfl, rfl, SqL.of e1, atI_nat (j := 0) rfl, k v H1 s1 g1⟩
          · rw [decide_eq_false (by omega)]
            rw [if_neg c] at k
            refine iteF ⟨_, rfl, rfl, _, rfl, _, rfl, l, xs, rfl, .inl (SqL.of e1), rfl, by show 0 ≤ sizeLine; decide, fun m hm => ⟨_, _, _, rfl, ?_⟩⟩
            rw [dec_i, dec_i, hlen]
            have s0 : Same H1 (upd H1 m (.lst [])) := Same.new hm
            refine ⟨_, rfl, l, rfl, ⟨_, SqL.of (s0 _ _ e1)⟩, for_list (K := K) (a := l) (xs := xs) (fun i σ H' => ∃ (o o2 : Option V) (fm : Addr) (ys : List V), σ = [some (.ref a), some (.ref l), some (.int bound), some (.bl (decide (bound = 1))), some (.bl (decide (bound = (qs.length : Int)))), some (.ref fm), o, o2] ∧ Same H1 H' ∧ H1 fm = none ∧ H' fm = some (.lst ys) ∧ TVs K H' ys (flat bound qs.length (qs.take i)))
              ⟨none, none, m, [], rfl, s0, hm, upd_same, TVs.nil⟩ (fun i σ H' _ ⟨_, _, _, _, _, s2, _⟩ => SqL.of (s2 _ _ e1)) ?_ ?_⟩
            · rintro i x σ H' hx ⟨o, o2, fm, ys, rfl, s2, hfm, e2, hys⟩
              obtain ⟨p, hp, hv⟩ := (hT.mono s2).get hx
              have hpm := List.mem_of_getElem? hp
              have ef := flat_take (k := bound) (n := qs.length) qs i p hp
              have f24 := flat_short (k := bound) (n := qs.length) ho h24 i
              have ylen := hys.len
              obtain ⟨u2, hu2, hk2⟩ := tv_isInt hv
              refine seqAsg_of (.bl (like bound qs.length p)) (fun R kR => ?_) ?_
              · cases p with
                | leaf b => exact ⟨_, rfl, _, .ty "int", u2, _, _, rfl, .ty _, hu2, hk2, _, rfl, _, rfl, iteF kR⟩
                | node k2 ps2 =>
                  obtain ⟨a2, b2, us2, rfl, g1, g2, g3⟩ := tv_node.mp hv
                  rw [like] at kR
                  refine ⟨_, rfl, _, .ty "int", u2, _, _, rfl, .ty _, hu2, hk2, _, rfl, _, rfl, iteT ⟨_, rfl, _, rfl, ?_⟩⟩
                  have second : ∀ z : Bool, z = false → R (.bl (z || (decide (bound = (qs.length : Int)) && decide (k2 = (ps2.length : Int))))) H' → _ := fun z _ y => y
                  by_cases c1 : bound = 1
                  · rw [decide_eq_true c1] at kR ⊢
                    refine iteT ⟨_, rfl, a2, _, 0, .int k2, rfl, rfl, g1, rfl, rfl, _, rfl, ?_⟩
                    rw [dec_i]
                    by_cases c2 : k2 = 1
                    · rw [decide_eq_true c2] at kR ⊢
                      exact iteT kR
                    · rw [decide_eq_false c2] at kR ⊢
                      refine iteF ⟨_, rfl, _, rfl, ?_⟩
                      by_cases c3 : bound = (qs.length : Int)
                      · rw [decide_eq_true c3] at kR ⊢
                        refine iteT ⟨_, rfl, a2, _, 0, .int k2, rfl, rfl, g1, rfl, _, rfl, a2, _, 1, .ref b2, rfl, rfl, g1, rfl, b2, us2, rfl, .inr g2, rfl, ?_⟩
                        rw [dec_i, g3.len]
                        simpa using kR
                      · rw [decide_eq_false c3] at kR ⊢
                        exact iteF (by simpa using kR)
                  · rw [decide_eq_false c1] at kR ⊢
                    refine iteF ⟨_, rfl, iteF ⟨_, rfl, _, rfl, ?_⟩⟩
                    by_cases c3 : bound = (qs.length : Int)
                    · rw [decide_eq_true c3] at kR ⊢
                      refine iteT ⟨_, rfl, a2, _, 0, .int k2, rfl, rfl, g1, rfl, _, rfl, a2, _, 1, .ref b2, rfl, rfl, g1, rfl, b2, us2, rfl, .inr g2, rfl, ?_⟩
                      rw [dec_i, g3.len]
                      simpa using kR
                    · rw [decide_eq_false c3] at kR ⊢
                      exact iteF (by simpa using kR)
              · refine ⟨_, rfl, _, rfl, _, rfl, ?_⟩
                cases hk3 : like bound qs.length p with
                | true =>
                  rw [hk3, if_pos rfl] at ef
                  cases p with
                  | leaf b => rw [like] at hk3; cases hk3
                  | node k2 ps2 =>
                    obtain ⟨a2, b2, us2, rfl, g1, g2, g3⟩ := tv_node.mp hv
                    have p24 : ps2.length ≤ 24 := by
                      have z1 := ho _ hpm
                      rw [Tr.ok, okA_iff] at z1
                      have z2 := plen_le z1.2.2
                      have z3 := len_part hpm
                      rw [btn_node] at z3
                      omega
                    have ulen := g3.len
                    refine iteT ⟨_, rfl, a2, _, 1, .ref b2, rfl, rfl, g1, rfl, b2, us2, rfl, .inr g2, fun l2 hl2 => ⟨fm, l2, ys, us2, rfl, rfl, (Same.new hl2) _ _ e2, upd_same, size_ok (by omega), fun q hq => ⟨some (.ref a2), some (.bl true), q, ys ++ us2, rfl, (s2.trans (Same.new hl2)).trans (Same.new hq), ?_, upd_same, ?_⟩⟩⟩
                    · exact (s2.trans (Same.new hl2)).free hq
                    · rw [ef]
                      exact (hys.append g3).mono ((Same.new hl2).trans (Same.new hq))
                | false =>
                  rw [hk3, if_neg Bool.false_ne_true] at ef
                  refine iteF ⟨_, rfl, by show 1 ≤ sizeLine; decide, fun l2 hl2 => ⟨fm, l2, ys, [x], rfl, rfl, (Same.new hl2) _ _ e2, upd_same, size_ok (by rw [List.length_singleton]; omega), fun q hq => ⟨some x, some (.bl false), q, ys ++ [x], rfl, (s2.trans (Same.new hl2)).trans (Same.new hq), ?_, upd_same, ?_⟩⟩⟩
                  · exact (s2.trans (Same.new hl2)).free hq
                  · rw [ef]
                    exact (hys.append (TVs.cons hv TVs.nil)).mono ((Same.new hl2).trans (Same.new hq))
            · rintro σ H' ⟨o, o2, fm, ys, rfl, s2, hfm, e2, hys⟩
              rw [hlen, List.take_length] at hys
              have f24 := flat_short (k := bound) (n := qs.length) ho h24 qs.length
              rw [List.take_length] at f24
              have ylen := hys.len
              have fin : ∀ kk : Int, (kk = if bound = (qs.length : Int) then ((flat bound qs.length qs).length : Int) else bound) → ∀ (q : Addr), H' q = none → ∀ p, upd H' q (.tup ys) p = none → Q (.ref p) (upd (upd H' q (.tup ys)) p (.tup [.int kk, .ref q])) := by
                rintro kk rfl q hq p hp
                refine k _ _ (((s1.trans s2).trans (Same.new hq)).trans (Same.new hp)) ?_
                refine tv_node.mpr ⟨p, q, ys, rfl, SqT.of upd_same, SqT.of ?_, hys.mono ((Same.new hq).trans (Same.new hp))⟩
                rw [upd_ne (ne_of_none upd_same hp)]
                exact upd_same
              refine ⟨_, rfl, _, rfl, ?_⟩
              by_cases c2 : bound = (qs.length : Int)
              · rw [decide_eq_true c2]
                refine iteT ⟨_, rfl, fm, ys, rfl, .inl (SqL.of e2), _, rfl, .inl ⟨fm, _, rfl, SqL.of e2, fun q hq => ⟨by show 2 ≤ sizeLine; decide, fun p hp => fin _ (by rw [if_pos c2, ylen]) q hq p hp⟩⟩⟩
              · rw [decide_eq_false c2]
                exact iteF ⟨_, rfl, _, rfl, .inl ⟨fm, _, rfl, SqL.of e2, fun q hq => ⟨by show 2 ≤ sizeLine; decide, fun p hp => fin _ (by rw [if_neg c2]) q hq p hp⟩⟩⟩
end
end K23
namespace K23
open PySem PyProof.Rows PySem.Spec L2
/-! ### trees are data of no great depth -/
theorem canLay_encs : ∀ {ps : List Tr}, (∀ p ∈ ps, PyData.canLay0 (enc p) = true) → PyData.canLayAll0 (encs ps) = true
  | [], _ => by rw [encs]; rfl
  | p :: r, h => by rw [encs, PyData.canLayAll0, h p (by simp), canLay_encs fun q hq => h q (by simp [hq])]; rfl
theorem canLay_enc : ∀ t : Tr, PyData.canLay0 (enc t) = true := by
  refine Tr.ind (fun b => by rw [enc]; rfl) fun k ps ih => ?_
  rw [enc, PyData.canLay0, PyData.canLayAll0, PyData.canLayAll0, PyData.canLayAll0, PyData.canLay0, PyData.canLay0, canLay_encs ih]
  rfl
theorem depth_encs {n : Nat} : ∀ {ps : List Tr}, (∀ p ∈ ps, (enc p).depth ≤ n) → PyData.depthAll (encs ps) ≤ n
  | [], _ => by rw [encs, PyData.depthAll]; omega
  | p :: r, h => by
    rw [encs, PyData.depthAll]
    exact Nat.max_le.mpr ⟨h p (by simp), depth_encs fun q hq => h q (by simp [hq])⟩
theorem depth_enc : ∀ t : Tr, (enc t).depth ≤ 2 * t.dep := by
  refine Tr.ind (fun b => by rw [enc, PyData.depth]; omega) fun k ps ih => ?_
  rw [enc, PyData.depth, PyData.depthAll, PyData.depthAll, PyData.depthAll, PyData.depth, PyData.depth, Tr.dep]
  have h := depth_encs (n := 2 * depA ps) fun p hp => Nat.le_trans (ih p hp) (by have := depA_le.mp (Nat.le_refl (depA ps)) p hp; omega)
  omega
theorem sh_encs {ps : List Tr} (h : ∀ p ∈ ps, p.dep ≤ 12) : SeqAt.shaped (.list (encs ps)) = true := by
  have h1 := canLay_encs (ps := ps) fun p _ => canLay_enc p
  have h2 := depth_encs (n := 24) (ps := ps) fun p hp => Nat.le_trans (depth_enc p) (by have := h p hp; omega)
  simp only [SeqAt.shaped, PyData.canLay0, PyData.depth, h1, Bool.true_and, decide_eq_true_eq]
  have h3 : PyData.depthAll (encs ps) + 1 ≤ 64 := by omega
  simpa using h3
theorem eqv_encs : ∀ ps : List Tr, PyData.eqv (.list (encs ps)) (.list []) = decide (ps = [])
  | [] => by rw [encs]; simp [PyData.eqv, PyData.eqvAll]
  | p :: r => by rw [encs]; simp [PyData.eqv, PyData.eqvAll]
theorem inner_leaf {ps : List Tr} {one : Int} (nd : (btns ps).Nodup) (h : one ∈ btns ps) (hl : (pw ps one).isLeaf = true) : ps.filter (fun p => !p.isLeaf && decide (one ∈ p.btn)) = [] := by
  obtain ⟨m1, m2⟩ := pw_mem h
  rw [List.filter_eq_nil_iff]
  intro p hp hc
  (rw [Bool.and_eq_true, decide_eq_true_eq] at hc)
  have := part_uniq nd _ hp _ m1 hc.2 m2
  rw [this, hl] at hc
  cases hc.1
theorem inner_node {ps : List Tr} {one : Int} (nd : (btns ps).Nodup) (h : one ∈ btns ps) (hl : (pw ps one).isLeaf = false) : (ps.filter (fun p => !p.isLeaf && decide (one ∈ p.btn)))[0]? = some (pw ps one) := by
  obtain ⟨m1, m2⟩ := pw_mem h
  rw [← find_pw h]
  congr 1
  (refine List.filter_congr fun p hp => ?_)
  by_cases c : one ∈ p.btn
  · have := part_uniq nd _ hp _ m1 c m2
    rw [this, hl]; rfl
  · rw [decide_eq_false c, Bool.and_false]
/-! ### rules at a place whose frame is known -/
theorem call_isiK' {X : Cx} {K : PySem.W.Frag} (h : X.K = K) : CallR X (.builtin "isinstance") (rIsi K) := by subst h; exact call_isi
section
variable {w : World} {P : Program} {K : PySem.W.Frag} {base : Heap} {mg : Str → Option Value}
/-! ### _law_no_worse_by_parts: slots _law_reduced_here 0, _law_one 1, _law_other 2, _law_inner 3, _law_part 4; cells ['_law_one'] -/
theorem sc_law_no_worse_by_parts : FnScope ["_law_reduced_here", "_law_one", "_law_other", "_law_inner", "_law_part"] ["_law_reduced_here", "_law_one", "_law_other"] (defScope (topS 38)) := ⟨rfl, rfl, rfl, by decide +kernel, rfl, by decide +kernel, by decide +kernel⟩
theorem c_law_no_worse_by_parts (T : Txt K mg) : Cal P w K mg base 15 "_law_no_worse_by_parts" ["_law_reduced_here", "_law_one", "_law_other"] (spOver K) := by
  refine Cal.mk' T.d_law_no_worse_by_parts sc_law_no_worse_by_parts (fun _ _ _ _ _ _ us hl => match us, hl with | [_, _, _], _ => rfl) (fun vs H Q E h => ?_) (fun f cdv A outer s H vs Q E hr h => ?_)
  · obtain ⟨_, _, _, _, rfl, _⟩ := h; rfl
  · obtain ⟨v, t, one, other, rfl, ht, I, ho, k⟩ := h
    refine ⟨_, (pss_one (ps_while PassesOwn.never (pt_val pe_bl)
          (pss_cons (ps_if (pt_cmpR op_eq (pv 1) (pv 2) (nomark _)) (pss_one (ps_ret pe_bl)) pss_nil)
            (pss_cons (ps_setLc (i := 3) (own := [("_law_part", 4)]) rfl sc_law_no_worse_by_parts.nd rfl rfl (sw_true rfl rfl rfl (by decide +kernel)) (pi_tup (pe_ix ix_tup (pv 0) pe_int (fun _ _ => rfl))) (blkOk_by (N := ["_law_reduced_here", "_law_one", "_law_other", "_law_inner", "_law_part"]) (sc := defScope (topS 38)) (by decide +kernel)) (fun _ _ _ _ _ => (pg_name (i := 4) sc_law_no_worse_by_parts.nd rfl (Or.inl rfl))) (fun _ _ _ _ _ => pts_one (PW.pt (pw_and (pt_not (pt_val (pe_callB (call_isiK' (K := K) rfl) (by rfl) T.n_isinstance boot_isinstance (pa_cons (pv 4) (pa_cons (pe_bltn (v := .ty "int") (by rfl) T.n_int boot_int rfl) pa_nil))))) (pw_and1 (pt_cmpR (op_inK (K := K) rfl) (pv 1) (pc (c_law_held T 12) hr (by decide) (by rfl) (pa_cons (pv 4) pa_nil)) (by rfl)))))) (fun _ _ _ _ _ => (pv 4)))
            (pss_cons (ps_if (PW.pt (pw_or (pt_cmpR (op_eqDK (K := K) rfl hr.units) (pv 3) (pe_lst pa_nil) (nomark _)) (pw_or1 (pt_cmpR op_notIn_seq (pv 2) (pc (c_law_held T 12) hr (by decide) (by rfl) (pa_cons (pe_ix ix_list (pv 3) pe_int (fun _ _ => rfl)) pa_nil)) (by rfl))))) (pss_one (ps_ret (pe_cmpR (op_inTK (K := K) rfl (hu1 hr.units)) (pv 1) (pe_ix ix_tup (pv 0) pe_int (fun _ _ => rfl)) (by rfl)))) pss_nil)
            (pss_one (ps_set (i := 0) sc_law_no_worse_by_parts.nd rfl (Or.inl rfl) (pe_ix ix_list (pv 3) pe_int (fun _ _ => rfl))))))))), ?_⟩
    refine ⟨fun m σ H' => ∃ (x : V) (u : Tr) (o : Option V), σ = [some x, some (.int one), some (.int other), o, none] ∧ Same H H' ∧ TV K H' x u ∧ InT 12 one u ∧ other ∈ u.btn ∧ u.over one other = t.over one other ∧ m = u.dep,
      ⟨_, v, t, none, rfl, Same.refl H, ht, I, ho, rfl, rfl⟩, ?_⟩
    rintro m σ H' ⟨x, u, o, rfl, s1, hx, Iu, hou, hov, rfl⟩
    have nx : ∀ σ' H'', (∃ (x : V) (u2 : Tr) (o : Option V), σ' = [some x, some (.int one), some (.int other), o, none] ∧ Same H H'' ∧ TV K H'' x u2 ∧ InT 12 one u2 ∧ other ∈ u2.btn ∧ u2.over one other = t.over one other ∧ u2.dep < u.dep) → ∃ m', m' < u.dep ∧ ∃ (x : V) (u : Tr) (o : Option V), σ' = [some x, some (.int one), some (.int other), o, none] ∧ Same H H'' ∧ TV K H'' x u ∧ InT 12 one u ∧ other ∈ u.btn ∧ u.over one other = t.over one other ∧ m' = u.dep := by
      rintro σ' H'' ⟨x, u2, o, e1, e2, e3, e4, e5, e6, e7⟩
      exact ⟨_, e7, x, u2, o, e1, e2, e3, e4, e5, e6, rfl⟩
    refine ⟨_, rfl, iteT ⟨_, nx, ?_⟩⟩
    (refine ⟨_, rfl, _, rfl, rfl, _, rfl, ?_⟩)
    rw [dec_i]
    by_cases c : one = other
    · rw [decide_eq_true c]
      rw [if_pos c] at k
      exact iteT (k H' s1)
    · rw [decide_eq_false c]
      rw [if_neg c, ← hov] at k
      cases u with
      | leaf b =>
        have q1 := Iu.mem
        simp [btn_leaf] at q1 hou
        exact absurd (q1.trans hou.symm) c
      | node kk ps =>
        obtain ⟨a, b, us, rfl, h1, h2, h3⟩ := tv_node.mp hx
        have nd := Iu.nd
        have hom := Iu.mem
        rw [btn_node] at nd hom hou
        rw [Tr.over, overA_eq hom] at k
        have depp : ∀ p ∈ ps, p.dep ≤ 12 := fun p hp => Nat.le_trans (dep_part (n := 11) (by have := Iu.dep; omega) hp) (by omega)
        refine iteF ⟨_, rfl, a, _, 1, .ref b, rfl, rfl, h1, rfl, lcT (fun p => !p.isLeaf && decide (one ∈ p.btn)) (fun _ v => v) h2 h3 (by have := Iu.sm.plen; omega) (fun _ => rfl) ?_ ?_ ?_⟩
        · intro v p H2 R hp s2 hv hR
          obtain ⟨ui, hui, hki⟩ := tv_isInt hv
          refine ⟨_, rfl, _, .ty "int", ui, _, _, rfl, .ty _, hui, hki, _, rfl, ?_⟩
          cases hl : p.isLeaf with
          | true =>
            rw [hl] at hR
            exact iteF (hR H2 (Same.refl H2))
          | false =>
            rw [hl] at hR
            refine iteT ⟨_, rfl, _, rfl, v, p, rfl, hv, Iu.sm.part hp, depp p hp, fun l H3 s3 n3 e3 => ⟨l, _, rfl, .inl (SqL.of e3), rfl, flat_ints p.btn, _, rfl, ?_⟩⟩
            rw [inV_ints]
            exact hR H3 s3
        · intro v p H2 R hp hf s2 hv hR
          exact ⟨_, rfl, hR H2 (Same.refl H2)⟩
        · intro D H2 s2 hD e2
          have ts := sel_tvs (fun p => !p.isLeaf && decide (one ∈ p.btn)) (h3.mono s2)
          generalize sel (fun p => !p.isLeaf && decide (one ∈ p.btn)) (fun _ v => v) ps us = ws at e2 ts
          have shq : ∀ p ∈ ps.filter (fun p => !p.isLeaf && decide (one ∈ p.btn)), p.dep ≤ 12 := fun p hp => depp p (List.mem_filter.mp hp).1
          refine ⟨_, rfl, by show 0 ≤ sizeLine; decide, fun q hq => ⟨_, _, .lst (SqL.of ((Same.new hq) _ _ e2)) (ts.mono (Same.new hq)), .lst (SqL.of upd_same) .nil, sh_encs shq, sh_ints [], ?_⟩⟩
          rw [eqv_encs]
          have sq : Same H2 (upd H2 q (.lst [])) := Same.new hq
          cases hl : (pw ps one).isLeaf with
          | true =>
            rw [inner_leaf nd hom hl, decide_eq_true rfl]
            rw [if_pos hl] at k
            refine ⟨_, rfl, iteT (iteT ⟨_, rfl, _, rfl, a, _, 1, .ref b, rfl, rfl, (s2.trans sq).seqT h1, rfl, one, b, us, ps, rfl, rfl, (s2.trans sq).seqT h2, h3.mono (s2.trans sq), ?_⟩)⟩
            rw [any_isLeaf nd hom, hl]
            exact k _ ((s1.trans s2).trans sq)
          | false =>
            have hin := inner_node nd hom hl
            have hne : ps.filter (fun p => !p.isLeaf && decide (one ∈ p.btn)) ≠ [] := fun e => by rw [e] at hin; cases hin
            rw [decide_eq_false hne]
            rw [if_neg (by rw [hl]; exact Bool.false_ne_true)] at k
            obtain ⟨y, hy, ty⟩ := ts.getP hin
            have ty := ty.mono sq
            have Ip := Iu.part hom
            refine ⟨_, rfl, iteF ⟨_, rfl, _, rfl, D, ws, 0, y, rfl, rfl, SqL.of (sq _ _ e2), atI_nat (j := 0) hy, y, pw ps one, rfl, ty, Ip.sm, Ip.dep, fun l H3 s3 n3 e3 => ⟨l, _, rfl, .inl (SqL.of e3), rfl, flat_ints _, _, rfl, ?_⟩⟩⟩
            have s23 := (s2.trans sq).trans s3
            show if (!inV (V.int other) ((pw ps one).btn.map V.int)) = true then _ else _
            rw [inV_ints]
            by_cases c2 : other ∈ (pw ps one).btn
            · rw [decide_eq_true c2]
              rw [if_pos c2] at k
              refine iteF ⟨_, rfl, D, ws, 0, y, rfl, rfl, SqL.of (s3 _ _ (sq _ _ e2)), atI_nat (j := 0) hy, y, pw ps one, _, rfl, s1.trans s23, ty.mono s3, Ip, c2, ?_, ?_⟩
              · rw [← hov, Tr.over, overA_eq hom, if_neg (by rw [hl]; exact Bool.false_ne_true), if_pos c2]
              · obtain ⟨m1, m2⟩ := pw_mem hom
                have dp := dep_part (n := (Tr.node kk ps).dep - 1) (k := kk) (ps := ps) (by rw [Tr.dep]; omega) m1
                rw [Tr.dep] at dp ⊢; omega
            · rw [decide_eq_false c2]
              rw [if_neg c2] at k
              refine iteT ⟨_, rfl, _, rfl, a, _, 1, .ref b, rfl, rfl, s23.seqT h1, rfl, one, b, us, ps, rfl, rfl, s23.seqT h2, h3.mono s23, ?_⟩
              rw [any_isLeaf nd hom, hl]
              exact k _ (s1.trans s23)
end
end K23
namespace K23
open PySem PyProof.Rows PySem.Spec L2
/-! ### data without lists stand when a list changes -/
mutual
def flatD : PyData → Bool
  | .list _ => false
  | .tuple ds => flatDs ds
  | _ => true
def flatDs : List PyData → Bool
  | [] => true
  | d :: r => flatD d && flatDs r
end
mutual
theorem dp_upd {K : PySem.W.Frag} {H : Hp} {m : Addr} {ys : List V} {o : HO} (e : H m = some (.lst ys)) : ∀ (d : PyData) (v : V), flatD d = true → Dp K H v d → Dp K (upd H m o) v d
  | .none, _, _, h => by cases h; exact .non
  | .bool b, _, _, h => by cases h; exact .bl b
  | .int i, _, _, h => by cases h; exact .int i
  | .str x, _, _, h => by cases h; exact .str x
  | .list ds, _, f, h => by rw [flatD] at f; cases f
  | .tuple ds, _, f, h => by
    rw [flatD] at f
    cases h with
    | tup hs ha => exact .tup (sqT_upd e hs) (dps_upd e ds _ f ha)
  | .dict _, _, _, h => by cases h
theorem dps_upd {K : PySem.W.Frag} {H : Hp} {m : Addr} {ys : List V} {o : HO} (e : H m = some (.lst ys)) : ∀ (ds : List PyData) (vs : List V), flatDs ds = true → DpAll K H vs ds → DpAll K (upd H m o) vs ds
  | [], _, _, h => by cases h; exact .nil
  | d :: ds, _, f, h => by
    rw [flatDs, Bool.and_eq_true] at f
    cases h with
    | cons h1 h2 => exact .cons (dp_upd e d _ f.1 h1) (dps_upd e ds _ f.2 h2)
end
/-- lots, each a tuple of its buttons -/
def lotD (L : List Int) : PyData := .tuple (L.map PyData.int)
abbrev EV (K : PySem.W.Frag) (H : Hp) (xs : List V) (Ls : List (List Int)) : Prop := DpAll K H xs (Ls.map lotD)
theorem dps_len {K : PySem.W.Frag} {H : Hp} : ∀ {ds : List PyData} {vs : List V}, DpAll K H vs ds → vs.length = ds.length
  | [], _, h => by cases h; rfl
  | d :: ds, _, h => by
    cases h with
    | cons h1 h2 => rw [List.length_cons, List.length_cons, dps_len h2]
theorem dps_append {K : PySem.W.Frag} {H : Hp} : ∀ {ds es : List PyData} {vs us : List V}, DpAll K H vs ds → DpAll K H us es → DpAll K H (vs ++ us) (ds ++ es)
  | [], _, _, _, h, g => by cases h; exact g
  | d :: ds, _, _, _, h, g => by
    cases h with
    | cons h1 h2 => exact .cons h1 (dps_append h2 g)
theorem dps_get {K : PySem.W.Frag} {H : Hp} : ∀ {ds : List PyData} {vs : List V} {i : Nat} {v : V}, DpAll K H vs ds → vs[i]? = some v → ∃ d, ds[i]? = some d ∧ Dp K H v d
  | [], _, _, _, h, e => by cases h; simp at e
  | d :: ds, _, 0, _, h, e => by
    cases h with
    | cons h1 h2 =>
      simp at e
      subst e
      exact ⟨d, rfl, h1⟩
  | d :: ds, _, i + 1, _, h, e => by
    cases h with
    | cons h1 h2 => exact dps_get (i := i) h2 (by simpa using e)
theorem flat_lots : ∀ Ls : List (List Int), flatDs (Ls.map lotD) = true
  | [] => rfl
  | L :: r => by
    rw [List.map_cons, flatDs, flat_lots r, lotD, flatD]
    have : flatDs (L.map PyData.int) = true := by
      induction L with
      | nil => rfl
      | cons n L ih => rw [List.map_cons, flatDs, ih]; rfl
    rw [this]; rfl
theorem lot_inv {K : PySem.W.Frag} {H : Hp} {v : V} {L : List Int} (h : Dp K H v (lotD L)) : ∃ a, v = .ref a ∧ SqT K H a (L.map V.int) := by
  unfold lotD at h
  cases h with
  | @tup a vs ds hs ha =>
    refine ⟨a, rfl, ?_⟩
    have e : vs = L.map V.int := by
      clear hs
      induction L generalizing vs with
      | nil => cases ha; rfl
      | cons n L ih =>
        cases ha with
        | cons h1 h2 =>
          cases h1
          rw [List.map_cons, ih h2]
    rw [← e]; exact hs
theorem lot_mk {K : PySem.W.Frag} {H : Hp} {a : Addr} {L : List Int} (h : SqT K H a (L.map V.int)) : Dp K H (.ref a) (lotD L) := .tup h (dps_ints L)
theorem EV.append {K : PySem.W.Frag} {H : Hp} {xs ys : List V} {Ls Ms : List (List Int)} (h : EV K H xs Ls) (g : EV K H ys Ms) : EV K H (xs ++ ys) (Ls ++ Ms) := by
  unfold EV; rw [List.map_append]; exact dps_append h g
theorem EV.one {K : PySem.W.Frag} {H : Hp} {a : Addr} {L : List Int} (h : SqT K H a (L.map V.int)) : EV K H [.ref a] [L] := .cons (lot_mk h) .nil
theorem every_short : ∀ row : List Int, ∀ L ∈ everyL row, L.length ≤ row.length := by
  refine snoc_ind (fun L hL => ?_) fun row b ih L hL => ?_
  · simp [everyL] at hL; simp [hL]
  · rw [every_snoc, List.mem_append, List.mem_map] at hL
    (rw [List.length_append, List.length_singleton])
    rcases hL with hL | ⟨M, hM, rfl⟩
    · have := ih L hL; omega
    · have := ih M hM; rw [List.length_append, List.length_singleton]; omega
/-! ### a comprehension over a list, without a test -/
theorem lcL {K : PySem.W.Frag} {b : Addr} {xs : List V} {σ : L2.St} {H : Hp} {j : Nat} {te : TE} {ws : List Nat} {Qd : Addr → Hp → Prop} (J : Nat → List V → Hp → Prop)
    (hS : SqL K H b xs) (hz : xs.length ≤ 100000) (hw : ∀ x, wipe ((wipe σ ws).set j (some x)) ws = wipe σ ws)
    (h0 : ∀ D, H D = none → J 0 [] (upd H D (.lst [])))
    (hst : ∀ i ys G D acc acc', G D = some (.lst acc) → J i ys G → J i ys (upd G D (.lst acc')))
    (he : ∀ i x ys H' (R : VK), xs[i]? = some x → Same H H' → J i ys H' → (∀ y H'', Same H' H'' → J (i + 1) (ys ++ [y]) H'' → R y H'') → te ((wipe σ ws).set j (some x)) H' R)
    (hq : ∀ D H' ys, Same H H' → H D = none → H' D = some (.lst ys) → ys.length = xs.length → J xs.length ys H' → Qd D H') :
    ∃ a, V.ref b = .ref a ∧ (∃ xs, SqL K H a xs) ∧ ∀ D, H D = none → ∃ W : Nat → Nat → Hp → Prop, (∃ m, W 0 m (upd H D (.lst []))) ∧ ∀ i m H, W i m H →
      ((Itl K a).stop i H ∧ Qd D H) ∨ ((Itl K a).go i H ∧ ∃ Nx : Hp → Prop, (∀ H', Nx H' → ∃ m', m' < m ∧ W (i + 1) m' H') ∧ ∀ x H', (Itl K a).yld i H x H' → gName j x (wipe σ ws) H' fun σ2 H2 => wipe σ2 ws = wipe σ ws ∧ tYes σ2 H2 fun b H3 =>
        if b = true then te σ2 H3 fun z G4 => ∃ got, G4 D = some (.lst got) ∧ got.length < sizeLine ∧ Nx (upd G4 D (.lst (got ++ [z]))) else Nx H3) := by
  refine ⟨b, rfl, ⟨xs, hS⟩, fun D hD => ?_⟩
  refine lc_list (K := K) (a := b) (xs := xs) (Qd := fun H' => Qd D H') (fun i H' => ∃ ys, Same H H' ∧ H' D = some (.lst ys) ∧ ys.length = i ∧ J i ys H') ⟨[], Same.new hD, upd_same, rfl, h0 D hD⟩ (fun i H' _ ⟨_, h, _⟩ => Same.seq h hS) (fun i x H' hx ⟨ys, s1, e1, hl, hJ⟩ => ?_) (fun H' ⟨ys, s1, e1, hl, hJ⟩ => ?_)
  · have hil := (List.getElem?_eq_some_iff.mp hx).1
    refine ⟨hw x, ?_⟩
    unfold tYes
    simp only [if_true]
    refine he i x ys H' _ hx s1 hJ fun y H4 s4 hJ' => ⟨ys, s4 _ _ e1, size_lt (by omega), ys ++ [y], (s1.trans s4).up hD, upd_same, by rw [List.length_append, hl]; rfl, hst _ _ _ _ _ _ (s4 _ _ e1) hJ'⟩
  · exact hq D H' ys s1 hD e1 hl hJ
theorem op_catAK {X : Cx} {K : PySem.W.Frag} (h : X.K = K) : OpR X (binaryOp .Add) (rCatA K) := by subst h; exact op_catA
section
variable {w : World} {P : Program} {K : PySem.W.Frag} {base : Heap} {mg : Str → Option Value}
/-! ### _law_every: slots _law_row 0, _law_found 1, _law_button 2, _law_some 3; cells ['_law_button'] -/
def spEvery (K : PySem.W.Frag) : Sp := fun vs H Q _ => ∃ (a : Addr) (row : List Int), vs = [.ref a] ∧ H a = some (.lst (row.map V.int)) ∧ row.length ≤ 6 ∧
  ∀ (l : Addr) (H' : Hp) (xs : List V), Same H H' → H l = none → H' l = some (.lst xs) → EV K H' xs (everyL row) → Q (.ref l) H'
theorem sc_law_every : FnScope ["_law_row", "_law_found", "_law_button", "_law_some"] ["_law_row"] (defScope (topS 31)) := ⟨rfl, rfl, rfl, by decide +kernel, rfl, by decide +kernel, by decide +kernel⟩
theorem c_law_every (T : Txt K mg) : Cal P w K mg base 1 "_law_every" ["_law_row"] (spEvery K) := by
  refine Cal.mk' T.d_law_every sc_law_every (fun _ _ _ _ _ _ us hl => match us, hl with | [_], _ => rfl) (fun vs H Q E h => ?_) (fun f cdv A outer s H vs Q E hr h => ?_)
  · obtain ⟨_, _, rfl, _⟩ := h; rfl
  · obtain ⟨a, row, rfl, ha, h6, k⟩ := h
    refine ⟨_, (pss_cons (ps_set (i := 1) sc_law_every.nd rfl (Or.inl rfl) (pe_lst (pa_cons (pe_tup pa_nil) pa_nil)))
        (pss_cons (ps_for PassesOwn.never rfl (pi_list (pv 0)) (pg_name (i := 2) sc_law_every.nd rfl (Or.inr rfl))
          (pss_one (ps_set (i := 1) sc_law_every.nd rfl (Or.inl rfl) (pe_op op_cat (pv 1) (pe_lc (own := [("_law_some", 3)]) rfl sc_law_every.nd (pi_list (pv 1)) (blkOk_by (N := ["_law_row", "_law_found", "_law_button", "_law_some"]) (sc := defScope (topS 31)) (by decide +kernel)) (fun _ _ _ _ _ => (pg_name (i := 3) sc_law_every.nd rfl (Or.inl rfl))) (fun _ _ _ _ _ => pts_nil) (fun _ _ _ _ _ => (pe_op (op_catAK (K := K) rfl) (pv 3) (pe_tup (pa_cons (pv 2) pa_nil)))))))))
        (pss_one (ps_ret (pv 1))))), ?_⟩
    refine ⟨by show 0 ≤ sizeLine; decide, fun p0 hp0 => ⟨by show 1 ≤ sizeLine; decide, fun l0 hl0 => ?_⟩⟩
    have s0 : Same H (upd (upd H p0 (.tup [])) l0 (.lst [.ref p0])) := (Same.new hp0).trans (Same.new hl0)
    have hl0' : H l0 = none := (Same.new hp0).free hl0
    refine ⟨_, rfl, a, rfl, ⟨_, SqL.of (s0 _ _ ha)⟩, for_list (K := K) (a := a) (xs := row.map V.int) (fun i σ H' => ∃ (o : Option V) (fm : Addr) (xs : List V), σ = [some (.ref a), some (.ref fm), o, none] ∧ Same H H' ∧ H fm = none ∧ H' fm = some (.lst xs) ∧ EV K H' xs (everyL (row.take i)))
      ⟨none, l0, _, rfl, s0, hl0', upd_same, .cons (lot_mk (L := []) (SqT.of (by rw [upd_ne (ne_of_none upd_same hl0)]; exact upd_same))) .nil⟩ (fun i σ H' _ ⟨_, _, _, _, s1, _⟩ => SqL.of (s1 _ _ ha)) ?_ ?_⟩
    · rintro i x σ H' hx ⟨o, fm, xs, rfl, s1, hfm, e1, hxs⟩
      rw [List.getElem?_map] at hx
      obtain ⟨b, hb, rfl⟩ := Option.map_eq_some_iff.mp hx
      have hil := (List.getElem?_eq_some_iff.mp hb).1
      have et : row.take (i + 1) = row.take i ++ [b] := by rw [List.take_add_one, hb]; rfl
      have elen : (everyL (row.take i)).length ≤ 64 := by
        rw [every_len, List.length_take]
        calc 2 ^ (min i row.length) ≤ 2 ^ 6 := Nat.pow_le_pow_right (by omega) (by omega)
          _ = 64 := rfl
      have eshort : ∀ L ∈ everyL (row.take i), L.length ≤ 6 := fun L hL => by
        have := every_short _ L hL
        rw [List.length_take] at this
        omega
      have xlen := dps_len hxs
      rw [List.length_map] at xlen
      have keep : ∀ {G : Hp}, Same H' G → EV K G xs (everyL (row.take i)) := fun sg => dps_mono sg _ _ hxs
      rw [et, every_snoc]
      generalize everyL (row.take i) = Ls at *
      refine ⟨_, rfl, _, rfl, lcL (fun i ys G => EV K G ys ((Ls.take i).map fun L => L ++ [b])) (SqL.of e1) (by omega) (fun _ => rfl) (fun D _ => .nil) (fun i ys G D acc acc' eD hJ => dps_upd eD _ _ (flat_lots _) hJ) ?_ ?_⟩
      · intro i2 x2 ys H2 R hx2 s2 hJ hR
        obtain ⟨d, hd, hdv⟩ := dps_get (keep s2) hx2
        rw [List.getElem?_map] at hd
        obtain ⟨L, hL, rfl⟩ := Option.map_eq_some_iff.mp hd
        obtain ⟨c, rfl, hc⟩ := lot_inv hdv
        have et2 : Ls.take (i2 + 1) = Ls.take i2 ++ [L] := by rw [List.take_add_one, hL]; rfl
        have llen : (L.map V.int).length ≤ 100 := by rw [List.length_map]; have := eshort L (List.mem_of_getElem? hL); omega
        refine ⟨_, rfl, _, rfl, by show 1 ≤ sizeLine; decide, fun q hq => ⟨c, q, L.map V.int, [.int b], rfl, rfl, (Same.new hq).seqT hc, SqT.of upd_same, size_ok (by rw [List.length_singleton]; omega), fun hL0 => ?_, (fun _ h => nomatch h), fun _ _ p hp => ?_⟩⟩
        · refine hR _ _ (Same.new hq) ?_
          rw [et2, List.map_append]
          refine EV.append (dps_mono (Same.new hq) _ _ hJ) (EV.one (L := L ++ [b]) ?_)
          rw [List.map_append, hL0]
          exact SqT.of upd_same
        · refine hR _ _ ((Same.new hq).trans (Same.new hp)) ?_
          rw [et2, List.map_append]
          refine EV.append (dps_mono ((Same.new hq).trans (Same.new hp)) _ _ hJ) (EV.one (L := L ++ [b]) ?_)
          rw [List.map_append]
          exact SqT.of upd_same
      · intro D H2 ys s2 hD e2 hlen hJ
        rw [xlen, List.take_length] at hJ
        refine ⟨fm, D, xs, ys, rfl, rfl, s2 _ _ e1, e2, size_ok (by omega), fun q hq => ⟨some (.int b), q, xs ++ ys, rfl, (s1.trans s2).trans (Same.new hq), (s1.trans s2).free hq, upd_same, ?_⟩⟩
        exact EV.append (dps_mono (Same.new hq) _ _ (keep s2)) (dps_mono (Same.new hq) _ _ hJ)
    · rintro σ H' ⟨o, fm, xs, rfl, s1, hfm, e1, hxs⟩
      rw [List.length_map, List.take_length] at hxs
      exact ⟨_, rfl, k fm H' xs s1 hfm e1 hxs⟩
end
end K23
namespace K23
open PySem PyProof.Rows PySem.Spec L2
theorem pg_tupK {X : Cx} {K : PySem.W.Frag} {es : List Expr} {k : Nat} {t : TGs} {n : Nat} {pos : Pos} (h : X.K = K) (hc : X.calm = true) (hg : PGs X es t)
    (hn : (assignEach es X.env).length = n := by rfl) (hst : (assignEach es X.env).findIdx? (·.1) = none := by rfl) : PG X (.Tuple es k pos) (gTup K n t) := by subst h; exact pg_tup hc hg hn hst
theorem ix_tupK {X : Cx} {K : PySem.W.Frag} (h : X.K = K) : IxR X (rIxT K) := by subst h; exact ix_tup
theorem rep_zero (n : Nat) : (List.replicate n [V.int 0]).flatten = List.replicate n (V.int 0) := by
  induction n with
  | zero => rfl
  | succ n ih => rw [List.replicate_succ, List.flatten_cons, ih]; rfl
theorem goN_take {S : Int → Bool} (ps : List Tr) (i : Nat) (p : Tr) (h : ps[i]? = some p) : goN S (ps.take (i + 1)) = goN S (ps.take i) + (if p.go S = true then 1 else 0) := by
  have e : ps.take (i + 1) = ps.take i ++ [p] := by rw [List.take_add_one, h]; rfl
  rw [e, goN_append, goN, goN]
  omega
abbrev inL (L : List Int) : Int → Bool := fun x => decide (x ∈ L)
section
variable {w : World} {P : Program} {K : PySem.W.Frag} {base : Heap} {mg : Str → Option Value}
/-! ### _law_words: slots _law_tree_here 0, _law_every_here 1, _law_total 2, _law_part 3, _law_some 4, _law_much 5, _law_word 6; cells ['_law_tree_here'] -/
def spWords (K : PySem.W.Frag) (d : Nat) : Sp := fun vs H Q _ => ∃ (v : V) (t : Tr) (l : Addr) (xs : List V) (Ls : List (List Int)), vs = [v, .ref l] ∧ TV K H v t ∧ Sm t ∧ t.dep ≤ d ∧ H l = some (.lst xs) ∧ EV K H xs Ls ∧ Ls.length ≤ 1000 ∧
  ∀ (m : Addr) (H' : Hp), Same H H' → H m = none → H' m = some (.lst (Ls.map fun L => V.bl (t.go (inL L)))) → Q (.ref m) H'
theorem sc_law_words : FnScope ["_law_tree_here", "_law_every_here", "_law_total", "_law_part", "_law_some", "_law_much", "_law_word"] ["_law_tree_here", "_law_every_here"] (defScope (topS 32)) := ⟨rfl, rfl, rfl, by decide +kernel, rfl, by decide +kernel, by decide +kernel⟩
theorem words_leaf {b : Int} {l : Addr} {xs : List V} {Ls : List (List Int)} {σ : L2.St} {H : Hp} {Q : VK} {te : TE} {ws : List Nat} {j : Nat} (e1 : H l = some (.lst xs)) (hxs : EV K H xs Ls) (hz : Ls.length ≤ 1000) (hw : ∀ x, wipe ((wipe σ ws).set j (some x)) ws = wipe σ ws)
    (he : ∀ c L H' (R : VK), SqT K H' c (L.map V.int) → R (.bl (inL L b)) H' → te ((wipe σ ws).set j (some (.ref c))) H' R)
    (k : ∀ (m : Addr) (H' : Hp), Same H H' → H m = none → H' m = some (.lst (Ls.map fun L => V.bl ((Tr.leaf b).go (inL L)))) → Q (.ref m) H') :
    ∃ a, V.ref l = .ref a ∧ (∃ xs, SqL K H a xs) ∧ ∀ D, H D = none → ∃ W : Nat → Nat → Hp → Prop, (∃ m, W 0 m (upd H D (.lst []))) ∧ ∀ i m H, W i m H →
      ((Itl K a).stop i H ∧ Q (.ref D) H) ∨ ((Itl K a).go i H ∧ ∃ Nx : Hp → Prop, (∀ H', Nx H' → ∃ m', m' < m ∧ W (i + 1) m' H') ∧ ∀ x H', (Itl K a).yld i H x H' → gName j x (wipe σ ws) H' fun σ2 H2 => wipe σ2 ws = wipe σ ws ∧ tYes σ2 H2 fun b H3 =>
        if b = true then te σ2 H3 fun z G4 => ∃ got, G4 D = some (.lst got) ∧ got.length < sizeLine ∧ Nx (upd G4 D (.lst (got ++ [z]))) else Nx H3) := by
  have xlen := dps_len hxs
  rw [List.length_map] at xlen
  refine lcL (Qd := fun D H' => Q (.ref D) H') (fun i ys G => ys = (Ls.take i).map fun L => V.bl (inL L b)) (SqL.of e1) (by omega) hw (fun D _ => rfl) (fun i ys G D acc acc' _ h => h) ?_ ?_
  · intro i x ys H' R hx s hJ hR
    obtain ⟨d, hd, hdv⟩ := dps_get (dps_mono s _ _ hxs) hx
    rw [List.getElem?_map] at hd
    obtain ⟨L, hL, rfl⟩ := Option.map_eq_some_iff.mp hd
    obtain ⟨c, rfl, hc⟩ := lot_inv hdv
    refine he c L H' R hc (hR _ _ (Same.refl H') ?_)
    have et : Ls.take (i + 1) = Ls.take i ++ [L] := by rw [List.take_add_one, hL]; rfl
    rw [et, List.map_append, hJ]
    rfl
  · intro D H' ys s hD e hl hJ
    rw [xlen, List.take_length] at hJ
    subst hJ
    refine k D H' s hD ?_
    rw [e]
    congr 2
theorem c_law_words (T : Txt K mg) : ∀ d : Nat, Cal P w K mg base (d + 2) "_law_words" ["_law_tree_here", "_law_every_here"] (spWords K d) := by
  intro d
  induction d with
  | zero =>
    refine Cal.mk' T.d_law_words sc_law_words (fun _ _ _ _ _ _ us hl => match us, hl with | [_, _], _ => rfl) (fun vs H Q E h => ?_) (fun f cdv A outer s H vs Q E hr h => ?_)
    · obtain ⟨_, _, _, _, _, rfl, _⟩ := h; rfl
    · obtain ⟨v, t, l, xs, Ls, rfl, ht, sm, hd, e1, hxs, hz, k⟩ := h
      refine ⟨_, (pss_cons (ps_if (pt_val (pe_callB call_isi (by rfl) T.n_isinstance boot_isinstance (pa_cons (pv 0) (pa_cons (pe_bltn (v := .ty "int") (by rfl) T.n_int boot_int rfl) pa_nil)))) (pss_one (ps_ret (pe_lc (own := [("_law_some", 4)]) rfl sc_law_words.nd (pi_list (pv 1)) (blkOk_by (N := ["_law_tree_here", "_law_every_here", "_law_total", "_law_part", "_law_some", "_law_much", "_law_word"]) (sc := defScope (topS 32)) (by decide +kernel)) (fun _ _ _ _ _ => (pg_name (i := 4) sc_law_words.nd rfl (Or.inl rfl))) (fun _ _ _ _ _ => pts_nil) (fun _ _ _ _ _ => (pe_cmpR (op_inK (K := K) rfl) (pv 0) (pv 4) (by rfl)))))) pss_nil) pss_never), ?_⟩
      obtain ⟨b, rfl⟩ := dep_zero hd
      have hv := tv_leaf.mp ht
      subst hv
      obtain ⟨u, hu, hk⟩ := tv_isInt ht
      refine ⟨_, rfl, _, .ty "int", u, _, _, rfl, .ty _, hu, hk, _, rfl, iteT ⟨_, rfl, words_leaf e1 hxs hz (fun _ => rfl) ?_ k⟩⟩
      intro c L H' R hc hR
      refine ⟨_, rfl, _, rfl, c, _, rfl, .inr hc, rfl, flat_ints L, ?_⟩
      rw [inV_ints]
      exact hR
  | succ d ih =>
    refine Cal.mk' T.d_law_words sc_law_words (fun _ _ _ _ _ _ us hl => match us, hl with | [_, _], _ => rfl) (fun vs H Q E h => ?_) (fun f cdv A outer s H vs Q E hr h => ?_)
    · obtain ⟨_, _, _, _, _, rfl, _⟩ := h; rfl
    · obtain ⟨v, t, l, xs, Ls, rfl, ht, sm, hd, e1, hxs, hz, k⟩ := h
      refine ⟨_, (pss_cons (ps_if (pt_val (pe_callB call_isi (by rfl) T.n_isinstance boot_isinstance (pa_cons (pv 0) (pa_cons (pe_bltn (v := .ty "int") (by rfl) T.n_int boot_int rfl) pa_nil)))) (pss_one (ps_ret (pe_lc (own := [("_law_some", 4)]) rfl sc_law_words.nd (pi_list (pv 1)) (blkOk_by (N := ["_law_tree_here", "_law_every_here", "_law_total", "_law_part", "_law_some", "_law_much", "_law_word"]) (sc := defScope (topS 32)) (by decide +kernel)) (fun _ _ _ _ _ => (pg_name (i := 4) sc_law_words.nd rfl (Or.inl rfl))) (fun _ _ _ _ _ => pts_nil) (fun _ _ _ _ _ => (pe_cmpR (op_inK (K := K) rfl) (pv 0) (pv 4) (by rfl)))))) pss_nil)
        (pss_cons (ps_set (i := 2) sc_law_words.nd rfl (Or.inl rfl) (pe_op op_rep (pe_lst (pa_cons pe_int pa_nil)) (pe_callB call_len_seq (by rfl) T.n_len boot_len (pa_cons (pv 1) pa_nil))))
        (pss_cons (ps_for PassesOwn.never rfl (pi_tup (pe_ix ix_tup (pv 0) pe_int (fun _ _ => rfl))) (pg_name (i := 3) sc_law_words.nd rfl (Or.inl rfl))
          (pss_one (ps_setLc (i := 2) (own := [("_law_much", 5), ("_law_word", 6)]) rfl sc_law_words.nd rfl rfl (sw_true rfl rfl rfl (by decide +kernel)) (pi_zip (by rfl) T.n_zip (pa_cons (pv 2) (pa_cons (pc ih hr (by omega) (by rfl) (pa_cons (pv 3) (pa_cons (pv 1) pa_nil))) pa_nil))) (blkOk_by (N := ["_law_tree_here", "_law_every_here", "_law_total", "_law_part", "_law_some", "_law_much", "_law_word"]) (sc := defScope (topS 32)) (by decide +kernel)) (fun _ _ _ _ _ => (pg_tupK (K := K) (n := 2) rfl (by rfl) (pgs_cons (pg_name (i := 5) sc_law_words.nd rfl (Or.inl rfl)) (pgs_cons (pg_name (i := 6) sc_law_words.nd rfl (Or.inl rfl)) pgs_nil)))) (fun _ _ _ _ _ => pts_nil) (fun _ _ _ _ _ => (pe_op op_add (pv 5) (pe_callTy call_int1 (by rfl) T.n_int boot_int (pa_cons (pv 6) pa_nil)))))))
        (pss_one (ps_ret (pe_lc (own := [("_law_much", 5)]) rfl sc_law_words.nd (pi_list (pv 2)) (blkOk_by (N := ["_law_tree_here", "_law_every_here", "_law_total", "_law_part", "_law_some", "_law_much", "_law_word"]) (sc := defScope (topS 32)) (by decide +kernel)) (fun _ _ _ _ _ => (pg_name (i := 5) sc_law_words.nd rfl (Or.inl rfl))) (fun _ _ _ _ _ => pts_nil) (fun _ _ _ _ _ => (pe_cmpR op_ge (pv 5) (pe_ix (ix_tupK (K := K) rfl) (pv 0) pe_int (fun _ _ => rfl)) (nomark _))))))))), ?_⟩
      obtain ⟨u, hu, hk⟩ := tv_isInt ht
      have xlen := dps_len hxs
      rw [List.length_map] at xlen
      cases t with
      | leaf b =>
        have hv := tv_leaf.mp ht
        subst hv
        refine ⟨_, rfl, _, .ty "int", u, _, _, rfl, .ty _, hu, hk, _, rfl, iteT ⟨_, rfl, words_leaf e1 hxs hz (fun _ => rfl) ?_ k⟩⟩
        intro c L H' R hc hR
        refine ⟨_, rfl, _, rfl, c, _, rfl, .inr hc, rfl, flat_ints L, ?_⟩
        rw [inV_ints]
        exact hR
      | node kk ps =>
        obtain ⟨a, b, us, rfl, h1, h2, h3⟩ := tv_node.mp ht
        refine ⟨_, rfl, _, .ty "int", u, _, _, rfl, .ty _, hu, hk, _, rfl, iteF ⟨by show 1 ≤ sizeLine; decide, fun p hp => ?_⟩⟩
        have sp : Same H (upd H p (.lst [.int 0])) := Same.new hp
        refine ⟨_, rfl, l, xs, rfl, .inl (SqL.of (sp _ _ e1)), p, (xs.length : Int), [.int 0], rfl, rfl, upd_same, by omega, by omega, ?_, fun q hq => ?_⟩
        · rw [List.length_singleton, Int.toNat_natCast, sizeLine_eq]; omega
        rw [Int.toNat_natCast, rep_zero, xlen]
        have sq : Same H (upd (upd H p (.lst [.int 0])) q (.lst (List.replicate Ls.length (V.int 0)))) := sp.trans (Same.new hq)
        refine ⟨_, rfl, a, _, 1, .ref b, rfl, rfl, sq.seqT h1, rfl, b, rfl, ⟨_, sq.seqT h2⟩, for_tup (K := K) (a := b) (xs := us) (fun i σ H' => ∃ (o : Option V) (m : Addr), σ = [some (.ref a), some (.ref l), some (.ref m), o, none, none, none] ∧ Same H H' ∧ H m = none ∧ H' m = some (.lst (Ls.map fun L => V.int ((goN (inL L) (ps.take i) : Nat) : Int))))
          ⟨none, q, rfl, sq, sp.free hq, ?_⟩ (fun i σ H' _ ⟨_, _, _, s1, _⟩ => s1.seqT h2) ?_ ?_⟩
        · rw [upd_same]
          congr 2
          clear hz k e1 hxs xlen sq
          induction Ls with
          | nil => rfl
          | cons L r ihL => rw [List.length_cons, List.replicate_succ, List.map_cons, ihL]; rfl
        · rintro i x σ H' hx ⟨o, m, rfl, s1, hm, em⟩
          obtain ⟨pt, hp2, hv⟩ := (h3.mono s1).get hx
          have hpm := List.mem_of_getElem? hp2
          refine ⟨_, rfl, _, rfl, _, rfl, x, pt, l, xs, Ls, rfl, hv, sm.part hpm, dep_part hd hpm, s1 _ _ e1, dps_mono s1 _ _ hxs, hz, fun m2 H2 s2 hm2 e2 => ?_⟩
          have s12 := s1.trans s2
          refine ⟨m, m2, _, _, rfl, SqL.of (s2 _ _ em), SqL.of e2, fun D hD => ?_⟩
          refine lc_it (walk_zip (xs := Ls.map fun L => V.int ((goN (inL L) (ps.take i) : Nat) : Int)) (ys := Ls.map fun L => V.bl (pt.go (inL L))) (n := Ls.length) (by simp)) (fun i2 G => Same H2 G ∧ G D = some (.lst ((Ls.take i2).map fun L => V.int ((goN (inL L) (ps.take (i + 1)) : Nat) : Int)))) ⟨Same.new hD, upd_same⟩ (fun i2 G _ h => ⟨SqL.of (h.1 _ _ (s2 _ _ em)), SqL.of (h.1 _ _ e2)⟩) ?_ ?_
          · rintro i2 y G G' hi2 ⟨sG, eD⟩ ⟨Tp, y1, y2, rfl, hT, rfl, g1, g2⟩
            dsimp only at g1 g2
            rw [List.getElem?_map] at g1 g2
            obtain ⟨L, hL, rfl⟩ := Option.map_eq_some_iff.mp g1
            rw [hL] at g2
            cases g2
            have sT : Same G (upd G Tp (.tup [V.int ((goN (inL L) (ps.take i) : Nat) : Int), V.bl (pt.go (inL L))])) := Same.new hT
            refine ⟨Tp, _, rfl, SqT.of upd_same, rfl, _, _, rfl, _, _, rfl, rfl, rfl, ?_⟩
            unfold tYes
            simp only [if_true]
            refine ⟨_, rfl, _, rfl, .inr ⟨_, rfl, _, _, rfl, rfl, _, sT _ _ eD, ?_, (sG.trans sT).up hD, ?_⟩⟩
            · rw [List.length_map, List.length_take]; exact size_lt (by omega)
            · rw [upd_same]
              have et : Ls.take (i2 + 1) = Ls.take i2 ++ [L] := by rw [List.take_add_one, hL]; rfl
              rw [et, List.map_append, List.map_singleton, goN_take _ _ _ hp2]
              congr 4
              cases pt.go (inL L) <;> simp
          · rintro G ⟨sG, eD⟩
            rw [List.take_length] at eD
            exact ⟨some x, D, rfl, s12.trans sG, s12.free hD, eD⟩
        · rintro σ H' ⟨o, m, rfl, s1, hm, em⟩
          rw [h3.len, List.take_length] at em
          refine ⟨_, rfl, lcL (fun i ys G => ys = (Ls.take i).map fun L => V.bl ((Tr.node kk ps).go (inL L))) (SqL.of em) (by rw [List.length_map]; omega) (fun _ => rfl) (fun D _ => rfl) (fun i ys G D acc acc' _ h => h) ?_ ?_⟩
          · intro i x ys G R hx sG hJ hR
            rw [List.getElem?_map] at hx
            obtain ⟨L, hL, rfl⟩ := Option.map_eq_some_iff.mp hx
            refine ⟨_, rfl, _, rfl, a, _, 0, .int kk, rfl, rfl, (s1.trans sG).seqT h1, rfl, _, _, rfl, rfl, hR _ _ (Same.refl G) ?_⟩
            have et : Ls.take (i + 1) = Ls.take i ++ [L] := by rw [List.take_add_one, hL]; rfl
            rw [et, List.map_append, hJ, List.map_singleton, go_node]
          · intro D G ys sG hD e hl hJ
            rw [List.length_map, List.take_length] at hJ
            subst hJ
            exact k D G (s1.trans sG) (s1.free hD) e
end
end K23
namespace K23
open PySem PyProof.Rows PySem.Spec L2
section
variable {w : World} {P : Program} {K : PySem.W.Frag} {base : Heap} {mg : Str → Option Value}
/-! ### _law_powers: slots _law_row 0, _law_found 1, _law_button 2 -/
def spPowers (K : PySem.W.Frag) : Sp := fun vs H Q _ => ∃ (a : Addr) (row : List Int), vs = [.ref a] ∧ H a = some (.lst (row.map V.int)) ∧ 1 ≤ row.length ∧ row.length ≤ 6 ∧
  ∀ (l : Addr) (H' : Hp), Same H H' → H l = none → H' l = some (.lst ((powL row.length).map V.int)) → Q (.ref l) H'
theorem cutV_rest (xs : List V) : cutV xs (some (1 : Int)) none = xs.drop 1 := by
  unfold cutV
  have e : HT.sIx xs.length 0 (some (1 : Int)) = min 1 xs.length := HT.sIx_nat xs.length 0 1
  rw [HT.sIx_none, e]
  cases xs with
  | nil => rfl
  | cons x r =>
    have : min 1 (x :: r).length = 1 := by rw [List.length_cons]; omega
    rw [this, List.drop_succ_cons, List.drop_zero, List.take_of_length_le (by rw [List.length_cons]; omega)]
theorem sc_law_powers : FnScope ["_law_row", "_law_found", "_law_button"] ["_law_row"] (defScope (topS 33)) := ⟨rfl, rfl, rfl, by decide +kernel, rfl, by decide +kernel, by decide +kernel⟩
theorem c_law_powers (T : Txt K mg) : Cal P w K mg base 1 "_law_powers" ["_law_row"] (spPowers K) := by
  refine Cal.mk' T.d_law_powers sc_law_powers (fun _ _ _ _ _ _ us hl => match us, hl with | [_], _ => rfl) (fun vs H Q E h => ?_) (fun f cdv A outer s H vs Q E hr h => ?_)
  · obtain ⟨_, _, rfl, _⟩ := h; rfl
  · obtain ⟨a, row, rfl, ha, h1, h6, k⟩ := h
    refine ⟨_, (pss_cons (ps_set (i := 1) sc_law_powers.nd rfl (Or.inl rfl) (pe_lst (pa_cons pe_int pa_nil)))
        (pss_cons (ps_for PassesOwn.never rfl (pi_list (pe_slice sl_list (pv 0) (po_some pe_int) po_none)) (pg_name (i := 2) sc_law_powers.nd rfl (Or.inl rfl))
          (pss_one (ps_expr (pe_bm PySem.F.plainAttrs_list PySem.F.slot_list_append PySem.F.type_list_append mt_append (pv 1) (pa_cons (pe_op op_mul pe_int (pe_ix ix_list (pv 1) (pe_un un_neg pe_int) (fun _ _ => rfl))) pa_nil)))))
        (pss_one (ps_ret (pv 1))))), ?_⟩
    refine ⟨by show 1 ≤ sizeLine; decide, fun m hm => ?_⟩
    have sm : Same H (upd H m (.lst [.int 1])) := Same.new hm
    refine ⟨_, rfl, 1, rfl, a, row.map V.int, rfl, SqL.of (sm _ _ ha), fun q hq => ?_⟩
    rw [cutV_rest]
    have hqm : q ≠ m := fun e => by rw [e, upd_same] at hq; cases hq
    have dlen : ((row.map V.int).drop 1).length = row.length - 1 := by rw [List.length_drop, List.length_map]
    refine ⟨q, rfl, ⟨_, SqL.of upd_same⟩, for_list (K := K) (a := q) (xs := (row.map V.int).drop 1) (fun i σ H' => ∃ (o : Option V), σ = [some (.ref a), some (.ref m), o] ∧ Same H H' ∧ H' q = some (.lst ((row.map V.int).drop 1)) ∧ H' m = some (.lst ((powL (i + 1)).map V.int)))
      ⟨none, rfl, sm.trans (Same.new hq), upd_same, by rw [upd_ne (Ne.symm hqm)]; exact upd_same⟩ (fun i σ H' _ ⟨_, _, _, h, _⟩ => SqL.of h) ?_ ?_⟩
    · rintro i x σ H' hx ⟨o, rfl, s1, eq, em⟩
      have hil := (List.getElem?_eq_some_iff.mp hx).1
      rw [dlen] at hil
      have ei : i < 6 := by omega
      have el : (powL (i + 1)).map V.int = (powL i).map V.int ++ [.int ((2 ^ i : Nat) : Int)] := by rw [powL_succ, List.map_append]; rfl
      refine ⟨_, rfl, .inl ⟨rfl, _, SqL.of em⟩, _, rfl, _, rfl, m, _, -1, .int ((2 ^ i : Nat) : Int), rfl, rfl, SqL.of em, by rw [el]; exact atI_last _ _, _, _, rfl, rfl, .inl ⟨by decide, by decide⟩, m, _, _, rfl, rfl, em, size_lt (by rw [List.length_map]; simp [powL]; omega), some x, rfl, s1.up hm, ?_, ?_⟩
      · rw [upd_ne hqm]; exact eq
      · rw [upd_same, powL_succ (i + 1), List.map_append]
        congr 3
        rw [List.map_singleton, Nat.pow_succ', Int.natCast_mul]
        rfl
    · rintro σ H' ⟨o, rfl, s1, eq, em⟩
      rw [dlen] at em
      refine ⟨_, rfl, k m H' s1 hm ?_⟩
      rw [em]
      congr 4
      omega
/-! ### _law_is_no_worse: slots _law_words_here 0, _law_powers_here 1, _law_one 2, _law_other 3, _law_at 4 -/
def spNw (K : PySem.W.Frag) : Sp := fun vs H Q _ => ∃ (a b : Addr) (ws : List Bool) (n i j : Nat), vs = [.ref a, .ref b, .int (i : Int), .int (j : Int)] ∧ H a = some (.lst (ws.map V.bl)) ∧ H b = some (.lst ((powL n).map V.int)) ∧ ws.length = 2 ^ n ∧ n ≤ 6 ∧ i < n ∧ j < n ∧
  ∀ H', Same H H' → Q (.bl (decide (Nw ws i j))) H'
theorem sc_law_is_no_worse : FnScope ["_law_words_here", "_law_powers_here", "_law_one", "_law_other", "_law_at"] ["_law_words_here", "_law_powers_here", "_law_one", "_law_other"] (defScope (topS 35)) := ⟨rfl, rfl, rfl, by decide +kernel, rfl, by decide +kernel, by decide +kernel⟩
theorem c_law_is_no_worse (T : Txt K mg) : Cal P w K mg base 1 "_law_is_no_worse" ["_law_words_here", "_law_powers_here", "_law_one", "_law_other"] (spNw K) := by
  refine Cal.mk' T.d_law_is_no_worse sc_law_is_no_worse (fun _ _ _ _ _ _ us hl => match us, hl with | [_, _, _, _], _ => rfl) (fun vs H Q E h => ?_) (fun f cdv A outer s H vs Q E hr h => ?_)
  · obtain ⟨_, _, _, _, _, _, rfl, _⟩ := h; rfl
  · obtain ⟨a, b, ws, n, i, j, rfl, ha, hb, hw, h6, hi, hj, k⟩ := h
    refine ⟨_, (pss_cons (ps_for PassesOwn.never rfl (pi_range1 (by rfl) T.n_range (pa_cons (pe_callB call_len_seq (by rfl) T.n_len boot_len (pa_cons (pv 0) pa_nil)) pa_nil)) (pg_name (i := 4) sc_law_is_no_worse.nd rfl (Or.inl rfl))
          (pss_one (ps_if (PW.pt (pw_and (pt_cmpR op_eq (pe_op op_mod (pe_op op_fdiv (pv 4) (pe_ix ix_list (pv 1) (pv 2) (fun _ _ => rfl))) pe_int) pe_int (nomark _)) (pw_and1 (pt_cmpR op_eq (pe_op op_mod (pe_op op_fdiv (pv 4) (pe_ix ix_list (pv 1) (pv 3) (fun _ _ => rfl))) pe_int) pe_int (nomark _))))) (pss_one (ps_if (PW.pt (pw_and (pt_val (pe_ix ix_list (pv 0) (pe_op op_add (pv 4) (pe_ix ix_list (pv 1) (pv 3) (fun _ _ => rfl))) (fun _ _ => rfl))) (pw_and1 (pt_not (pt_val (pe_ix ix_list (pv 0) (pe_op op_add (pv 4) (pe_ix ix_list (pv 1) (pv 2) (fun _ _ => rfl))) (fun _ _ => rfl))))))) (pss_one (ps_ret pe_bl)) pss_nil)) pss_nil))) (pss_one (ps_ret pe_bl))), ?_⟩
    have small : ∀ j, j < n → (2 ^ j : Nat) ≤ 64 := fun j hj => calc 2 ^ j ≤ 2 ^ 6 := Nat.pow_le_pow_right (by omega) (by omega)
      _ = 64 := rfl
    have pos : ∀ j : Nat, 0 < (2 ^ j : Nat) := fun j => Nat.pow_pos (by omega)
    have pget : ∀ j, j < n → atI ((powL n).map V.int) (j : Int) = some (.int ((2 ^ j : Nat) : Int)) := fun j hj => atI_nat (by rw [List.getElem?_map, powL_get hj]; rfl)
    have wlen : ws.length ≤ 64 := by
      rw [hw]
      calc 2 ^ n ≤ 2 ^ 6 := Nat.pow_le_pow_right (by omega) h6
        _ = 64 := rfl
    have wget : ∀ m, m < ws.length → atI (ws.map V.bl) (m : Int) = some (.bl (ws.getD m false)) := fun m hm => atI_nat (by
      rw [List.getElem?_map, List.getElem?_eq_getElem hm, List.getD_eq_getElem?_getD, List.getElem?_eq_getElem hm]; rfl)
    refine ⟨_, rfl, a, _, rfl, .inl (SqL.of ha), _, rfl, by rw [List.length_map]; omega, by rw [List.length_map]; omega, ?_⟩
    rw [Int.toNat_natCast, List.length_map]
    refine for_range (lo := 0) (n := ws.length) (fun i2 σ H' => ∃ o : Option V, σ = [some (.ref a), some (.ref b), some (.int (i : Int)), some (.int (j : Int)), o] ∧ H' = H ∧ ∀ m, m < i2 → m / 2 ^ i % 2 = 0 → m / 2 ^ j % 2 = 0 → ws.getD (m + 2 ^ j) false = true → ws.getD (m + 2 ^ i) false = true)
      ⟨none, rfl, rfl, fun m hm => by omega⟩ ?_ ?_
    · rintro m σ H' hm ⟨o, rfl, rfl, hall⟩
      have hz : (0 : Int) + (m : Int) = (m : Int) := Int.zero_add _
      rw [hz]
      have next : (∀ h1 : m / 2 ^ i % 2 = 0, ∀ h2 : m / 2 ^ j % 2 = 0, ws.getD (m + 2 ^ j) false = true → ws.getD (m + 2 ^ i) false = true) → ∃ o : Option V, [some (V.ref a), some (.ref b), some (.int (i : Int)), some (.int (j : Int)), some (.int (m : Int))] = [some (.ref a), some (.ref b), some (.int (i : Int)), some (.int (j : Int)), o] ∧ H' = H' ∧ ∀ m', m' < m + 1 → m' / 2 ^ i % 2 = 0 → m' / 2 ^ j % 2 = 0 → ws.getD (m' + 2 ^ j) false = true → ws.getD (m' + 2 ^ i) false = true := fun h => by
        refine ⟨_, rfl, rfl, fun m' hm' h1 h2 h3 => ?_⟩
        by_cases e : m' = m
        · subst e; exact h h1 h2 h3
        · exact hall m' (by omega) h1 h2 h3
      refine ⟨_, rfl, _, rfl, _, rfl, b, _, (i : Int), .int ((2 ^ i : Nat) : Int), rfl, rfl, SqL.of hb, pget i hi, _, _, rfl, rfl, ⟨by have := pos i; omega, by have := small i hi; omega⟩, _, _, rfl, rfl, by show (0 : Int) < 2; decide, rfl, _, rfl, ?_⟩
      rw [dec_i, div_int]
      by_cases c1 : m / 2 ^ i % 2 = 0
      · rw [decide_eq_true (by rw [c1]; rfl)]
        refine iteT ⟨_, rfl, _, rfl, _, rfl, b, _, (j : Int), .int ((2 ^ j : Nat) : Int), rfl, rfl, SqL.of hb, pget j hj, _, _, rfl, rfl, ⟨by have := pos j; omega, by have := small j hj; omega⟩, _, _, rfl, rfl, by show (0 : Int) < 2; decide, rfl, _, rfl, ?_⟩
        rw [dec_i, div_int]
        by_cases c2 : m / 2 ^ j % 2 = 0
        · rw [decide_eq_true (by rw [c2]; rfl)]
          have li := step_lt hi (by rw [← hw]; exact hm) c1
          have lj := step_lt hj (by rw [← hw]; exact hm) c2
          rw [← hw] at li lj
          refine iteT ⟨_, rfl, _, rfl, _, rfl, _, rfl, b, _, (j : Int), .int ((2 ^ j : Nat) : Int), rfl, rfl, SqL.of hb, pget j hj, _, _, rfl, rfl, a, _, ((m + 2 ^ j : Nat) : Int), .bl (ws.getD (m + 2 ^ j) false), rfl, ?_, SqL.of ha, wget _ lj, _, rfl, ?_⟩
          · rw [Int.natCast_add]
          cases w1 : ws.getD (m + 2 ^ j) false with
          | false => exact iteF (iteF (next fun _ _ h => by rw [w1] at h; cases h))
          | true =>
            refine iteT ⟨_, rfl, _, rfl, _, rfl, _, rfl, b, _, (i : Int), .int ((2 ^ i : Nat) : Int), rfl, rfl, SqL.of hb, pget i hi, _, _, rfl, rfl, a, _, ((m + 2 ^ i : Nat) : Int), .bl (ws.getD (m + 2 ^ i) false), rfl, ?_, SqL.of ha, wget _ li, _, rfl, ?_⟩
            · rw [Int.natCast_add]
            cases w2 : ws.getD (m + 2 ^ i) false with
            | true => exact iteF (next fun _ _ _ => w2)
            | false =>
              refine iteT ?_
              have e : decide (Nw ws i j) = false := decide_eq_false fun h => by
                have := h m hm c1 c2 w1
                rw [w2] at this
                cases this
              rw [e] at k
              exact k H' (Same.refl H')
        · rw [decide_eq_false (fun e => c2 (by exact_mod_cast e))]
          exact iteF (next fun _ h => absurd h c2)
      · rw [decide_eq_false (fun e => c1 (by exact_mod_cast e))]
        exact iteF (iteF (next fun h => absurd h c1))
    · rintro σ H' ⟨o, rfl, rfl, hall⟩
      have e : decide (Nw ws i j) = true := decide_eq_true hall
      rw [e] at k
      exact k H' (Same.refl H')
end
end K23
namespace K23
open PySem PyProof.Rows PySem.Spec L2
abbrev kk2 (a b : Int) : List L2.Key := [.inl a, .inl b]
theorem kk2_inj {a b c d : Int} (h : kk2 a b = kk2 c d) : a = c ∧ b = d := by
  injection h with h1 h2
  injection h2 with h2 _
  injection h1 with h1
  injection h2 with h2
  exact ⟨h1, h2⟩
theorem nd_ix : ∀ {l : List Int} {i j : Nat} {a : Int}, l.Nodup → l[i]? = some a → l[j]? = some a → i = j
  | [], _, _, _, _, h, _ => by (simp at h)
  | x :: l, 0, 0, _, _, _, _ => rfl
  | x :: l, 0, j + 1, a, nd, h1, h2 => by
    have e : x = a := by simpa using h1
    subst e
    exact absurd (List.mem_of_getElem? (show l[j]? = some x by simpa using h2)) (List.nodup_cons.mp nd).1
  | x :: l, i + 1, 0, a, nd, h1, h2 => by
    have e : x = a := by simpa using h2
    subst e
    exact absurd (List.mem_of_getElem? (show l[i]? = some x by simpa using h1)) (List.nodup_cons.mp nd).1
  | x :: l, i + 1, j + 1, a, nd, h1, h2 => by
    have := nd_ix (i := i) (j := j) (List.nodup_cons.mp nd).2 (by simpa using h1) (by simpa using h2)
    omega
/-- the table's pairs as far as they are laid -/
structure Tab (row : List Int) (f : Nat → Nat → Bool) (n m : Nat) (kvs : List (List L2.Key × V)) : Prop where
  keys : ∀ p ∈ kvs, ∃ a b, a ∈ row ∧ b ∈ row ∧ p.1 = kk2 a b
  vals : ∀ i j a b, row[i]? = some a → row[j]? = some b → (i < n ∨ (i = n ∧ j < m)) → valV kvs (kk2 a b) = some (.bl (f i j))
  len : kvs.length ≤ n * row.length + m
theorem putK_keys {α : Type} [DecidableEq α] {P : α → Prop} {kvs : List (α × V)} {k : α} {v : V} (h : ∀ p ∈ kvs, P p.1) (hk : P k) : ∀ p ∈ putK kvs k v, P p.1 := by
  unfold putK
  intro p hp
  split at hp
  · obtain ⟨q, hq, e⟩ := List.mem_map.mp hp
    split at e
    · rw [← e]; exact h q hq
    · rw [← e]; exact h q hq
  · (rcases List.mem_append.mp hp with hp | hp)
    · exact h p hp
    · rw [List.mem_singleton] at hp; rw [hp]; exact hk
theorem Tab.put {row : List Int} {f : Nat → Nat → Bool} {n m : Nat} {kvs : List (List L2.Key × V)} {a b : Int} (nd : row.Nodup) (T : Tab row f n m kvs) (ha : row[n]? = some a) (hb : row[m]? = some b) : Tab row f n (m + 1) (putK kvs (kk2 a b) (.bl (f n m))) := by
  refine ⟨?_, fun i j a' b' hi hj hlt => ?_, ?_⟩
  · exact putK_keys (P := fun k => ∃ a b, a ∈ row ∧ b ∈ row ∧ k = kk2 a b) T.keys ⟨a, b, List.mem_of_getElem? ha, List.mem_of_getElem? hb, rfl⟩
  · rw [valV_put]
    by_cases e : kk2 a' b' = kk2 a b
    · rw [if_pos e]
      obtain ⟨e1, e2⟩ := kk2_inj e
      subst e1 e2
      have e3 : i = n := nd_ix nd hi ha
      have e4 : j = m := nd_ix nd hj hb
      rw [e3, e4]
    · rw [if_neg e]
      refine T.vals i j a' b' hi hj ?_
      rcases hlt with h | ⟨h1, h2⟩
      · exact .inl h
      · subst h1
        rw [ha] at hi
        cases hi
        have : j ≠ m := fun ej => by
          subst ej
          rw [hb] at hj
          cases hj
          exact e rfl
        exact .inr ⟨rfl, by omega⟩
  · have := length_putK kvs (kk2 a b) (.bl (f n m))
    have := T.len
    omega
theorem Tab.row {row : List Int} {f : Nat → Nat → Bool} {n : Nat} {kvs : List (List L2.Key × V)} (T : Tab row f n row.length kvs) : Tab row f (n + 1) 0 kvs := by
  refine ⟨T.keys, fun i j a b hi hj hlt => T.vals i j a b hi hj ?_, ?_⟩
  · have h2 := (List.getElem?_eq_some_iff.mp hj).1
    omega
  · have := T.len
    rw [Nat.succ_mul]; omega
section
variable {w : World} {P : Program} {K : PySem.W.Frag} {base : Heap} {mg : Str → Option Value}
/-! ### _law_table: slots _law_row 0, _law_words_here 1, _law_powers_here 2, _law_found 3, _law_one 4, _law_first 5, _law_other 6, _law_second 7 -/
def spTable (K : PySem.W.Frag) : Sp := fun vs H Q _ => ∃ (a b : Addr) (row : List Int) (ws : List Bool), vs = [.ref a, .ref b] ∧ H a = some (.lst (row.map V.int)) ∧ H b = some (.lst (ws.map V.bl)) ∧ row.Nodup ∧ 1 ≤ row.length ∧ row.length ≤ 6 ∧ ws.length = 2 ^ row.length ∧
  ∀ (d : Addr) (H' : Hp) (kvs : List (List L2.Key × V)), Same H H' → H d = none → H' d = some (.dT kvs) → Tab row (fun i j => decide (i = j) || decide (Nw ws i j)) row.length 0 kvs → Q (.ref d) H'
theorem sc_law_table : FnScope ["_law_row", "_law_words_here", "_law_powers_here", "_law_found", "_law_one", "_law_first", "_law_other", "_law_second"] ["_law_row", "_law_words_here"] (defScope (topS 36)) := ⟨rfl, rfl, rfl, by decide +kernel, rfl, by decide +kernel, by decide +kernel⟩
theorem c_law_table (T : Txt K mg) : Cal P w K mg base 2 "_law_table" ["_law_row", "_law_words_here"] (spTable K) := by
  refine Cal.mk' T.d_law_table sc_law_table (fun _ _ _ _ _ _ us hl => match us, hl with | [_, _], _ => rfl) (fun vs H Q E h => ?_) (fun f cdv A outer s H vs Q E hr h => ?_)
  · obtain ⟨_, _, _, _, rfl, _⟩ := h; rfl
  · obtain ⟨a, b, row, ws, rfl, ha, hb, nd, h1, h6, hw, k⟩ := h
    refine ⟨_, (pss_cons (ps_par (i := 2) (j := 3) rfl sc_law_table.nd rfl rfl (by decide) rfl rfl (pa_cons (pc (c_law_powers T) hr (by decide) (by rfl) (pa_cons (pv 0) pa_nil)) (pa_cons pe_dnewT pa_nil)) (by rfl))
        (pss_cons (ps_for PassesOwn.never rfl (pi_enum (by rfl) T.n_enumerate (pa_cons (pv 0) pa_nil)) (pg_tup (by rfl) (pgs_cons (pg_name (i := 4) sc_law_table.nd rfl (Or.inl rfl)) (pgs_cons (pg_name (i := 5) sc_law_table.nd rfl (Or.inl rfl)) pgs_nil)))
          (pss_one (ps_for PassesOwn.never rfl (pi_enum (by rfl) T.n_enumerate (pa_cons (pv 0) pa_nil)) (pg_tup (by rfl) (pgs_cons (pg_name (i := 6) sc_law_table.nd rfl (Or.inl rfl)) (pgs_cons (pg_name (i := 7) sc_law_table.nd rfl (Or.inl rfl)) pgs_nil)))
              (pss_one (ps_dput (hu1 hr.units) (pv 3) (pe_tup (pa_cons (pv 5) (pa_cons (pv 7) pa_nil))) (pe_or (pe_cmpR op_eq (pv 4) (pv 6) (nomark _)) (pe_one (pc (c_law_is_no_worse T) hr (by decide) (by rfl) (pa_cons (pv 1) (pa_cons (pv 2) (pa_cons (pv 4) (pa_cons (pv 6) pa_nil))))))) (by rfl))))))
        (pss_one (ps_ret (pv 3))))), ?_⟩
    refine ⟨_, rfl, a, row, rfl, ha, h1, h6, fun l H1 s1 hl e1 => ?_⟩
    refine fun d hd => ⟨_, _, rfl, ?_⟩
    have sd : Same H1 (upd H1 d (.dT [])) := Same.new hd
    have rl : (row.map V.int).length = row.length := List.length_map _
    refine ⟨_, rfl, a, row.map V.int, rfl, SqL.of (sd _ _ (s1 _ _ ha)), for_it (walk_enum (xs := row.map V.int)) (fun i σ H' => ∃ (o4 o5 o6 o7 : Option V) (kvs : List (List L2.Key × V)), σ = [some (.ref a), some (.ref b), some (.ref l), some (.ref d), o4, o5, o6, o7] ∧ Same H1 H' ∧ H' d = some (.dT kvs) ∧ Tab row (fun i j => decide (i = j) || decide (Nw ws i j)) i 0 kvs)
      ⟨none, none, none, none, [], rfl, sd, upd_same, ⟨(fun p hp => by cases hp), (fun i j a b _ _ h => by omega), (by simp)⟩⟩ (fun i σ H' _ ⟨_, _, _, _, _, _, s2, _⟩ => SqL.of (s2 _ _ (s1 _ _ ha))) ?_ ?_⟩
    · rintro i x σ H' H'' hi ⟨o4, o5, o6, o7, kvs, rfl, s2, ed, tab⟩ ⟨Tp, y1, y2, rfl, hT, rfl, g1, g2⟩
      cases g1
      dsimp only at g2
      rw [List.getElem?_map] at g2
      obtain ⟨r1, hr1, rfl⟩ := Option.map_eq_some_iff.mp g2
      have sT := s2.trans (Same.new (o := .tup [V.int (i : Nat), V.int r1]) hT)
      have edT : upd H' Tp (.tup [V.int (i : Nat), V.int r1]) d = some (.dT kvs) := Same.new hT _ _ ed
      refine ⟨Tp, _, rfl, SqT.of upd_same, rfl, _, _, rfl, _, _, rfl, rfl, ?_⟩
      refine ⟨_, rfl, a, row.map V.int, rfl, SqL.of (sT _ _ (s1 _ _ ha)), for_it (walk_enum (xs := row.map V.int)) (fun j σ H' => ∃ (o6 o7 : Option V) (kvs : List (List L2.Key × V)), σ = [some (.ref a), some (.ref b), some (.ref l), some (.ref d), some (.int (i : Nat)), some (.int r1), o6, o7] ∧ Same H1 H' ∧ H' d = some (.dT kvs) ∧ Tab row (fun i j => decide (i = j) || decide (Nw ws i j)) i j kvs)
        ⟨o6, o7, kvs, rfl, sT, edT, tab⟩ (fun i σ H' _ ⟨_, _, _, _, s2, _⟩ => SqL.of (s2 _ _ (s1 _ _ ha))) ?_ ?_⟩
      · rintro j x σ G G' hj ⟨o6, o7, kvs, rfl, s3, ed3, tab3⟩ ⟨Tq, y1, y2, rfl, hTq, rfl, g3, g4⟩
        cases g3
        dsimp only at g4
        rw [List.getElem?_map] at g4
        obtain ⟨r2, hr2, rfl⟩ := Option.map_eq_some_iff.mp g4
        have sq := Same.new (o := .tup [V.int (j : Nat), V.int r2]) hTq
        have s4 := s3.trans sq
        have ed4 := sq _ _ ed3
        refine ⟨Tq, _, rfl, SqT.of upd_same, rfl, _, _, rfl, _, _, rfl, rfl, ?_⟩
        generalize upd G Tq (.tup [V.int (j : Nat), V.int r2]) = G2 at s4 ed4
        rw [rl] at hi hj
        have klen := tab3.len
        have ksmall : kvs.length < 100 := by
          have : i * row.length ≤ 5 * 6 := Nat.mul_le_mul (by omega) h6
          omega
        -- the pair is laid
        have lay : ∀ (bv : Bool) (G3 : Hp), bv = (decide (i = j) || decide (Nw ws i j)) → Same G2 G3 → ∀ p, G3 p = none → ∃ (a2 : Addr) (H4 : Hp), V.ref d = .ref a2 ∧ DPut (upd G3 p (.tup [.int r1, .int r2])) a2 (.ref p) (.bl bv) H4 ∧ ∃ (o6 o7 : Option V) (kvs : List (List L2.Key × V)), [some (V.ref a), some (.ref b), some (.ref l), some (.ref d), some (.int (i : Nat)), some (.int r1), some (.int (j : Nat)), some (.int r2)] = [some (V.ref a), some (.ref b), some (.ref l), some (.ref d), some (.int (i : Nat)), some (.int r1), o6, o7] ∧ Same H1 H4 ∧ H4 d = some (.dT kvs) ∧ Tab row (fun i j => decide (i = j) || decide (Nw ws i j)) i (j + 1) kvs := by
          rintro bv G3 rfl s5 p hp
          have sp : Same G2 (upd G3 p (.tup [.int r1, .int r2])) := s5.trans (Same.new hp)
          refine ⟨d, _, rfl, DPut.t (k := kk2 r1 r2) (sp _ _ ed4) upd_same (by rw [sizeLine_eq]; omega), some (.int (j : Nat)), some (.int r2), _, rfl, (s4.trans sp).up hd, upd_same, ?_⟩
          exact tab3.put nd hr1 hr2
        (refine ⟨_, rfl, _, rfl, rfl, _, rfl, ?_⟩)
        rw [dec_i]
        by_cases c : i = j
        · have ci : ((i : Nat) : Int) = ((j : Nat) : Int) := by rw [c]
          rw [decide_eq_true ci]
          exact iteT ⟨_, rfl, _, rfl, _, rfl, by show 2 ≤ sizeLine; decide, fun p hp => lay true G2 (by rw [decide_eq_true c]; rfl) (Same.refl G2) p hp⟩
        · have ci : ¬ ((i : Nat) : Int) = ((j : Nat) : Int) := fun e => c (by exact_mod_cast e)
          rw [decide_eq_false ci]
          refine iteF ⟨_, rfl, _, rfl, _, rfl, _, rfl, b, l, ws, row.length, i, j, rfl, (s1.trans s4) _ _ hb, s4 _ _ e1, hw, h6, hi, hj, fun G3 s5 => ?_⟩
          exact ⟨_, rfl, _, rfl, _, rfl, by show 2 ≤ sizeLine; decide, fun p hp => lay _ G3 (by rw [decide_eq_false c, Bool.false_or]) s5 p hp⟩
      · rintro σ G ⟨o6, o7, kvs, rfl, s3, ed3, tab3⟩
        rw [rl] at tab3
        exact ⟨_, _, _, _, kvs, rfl, s3, ed3, tab3.row⟩
    · rintro σ G ⟨o4, o5, o6, o7, kvs, rfl, s3, ed3, tab3⟩
      rw [rl] at tab3
      exact ⟨_, rfl, k d G kvs (s1.trans s3) (s1.free hd) ed3 tab3⟩
end
end K23
namespace K23
open PySem PyProof.Rows PySem.Spec L2
/-! ### the bag, and what stands beside it -/
def bagD (g : Addr) (m t : Int) : List (L2.Key × V) := [(.inr "great", .ref g), (.inr "mixed", .int m), (.inr "turn", .int t)]
def Bag (b g : Addr) (H : Hp) : Prop := ∃ (ns : List Int) (m t : Int), H b = some (.dK (bagD g m t)) ∧ H g = some (.lst (ns.map V.int))
/-- all but the bag -/
def rest (b g : Addr) (H : Hp) : Hp := fun c => if c = b ∨ c = g then none else H c
section
variable {b g : Addr} {H H' : Hp} {K : PySem.W.Frag}
theorem rest_at {c : Addr} {o : HO} : rest b g H c = some o ↔ (c ≠ b ∧ c ≠ g ∧ H c = some o) := by
  unfold rest
  by_cases h : c = b ∨ c = g
  · rw [if_pos h]
    constructor
    · intro z; cases z
    · rintro ⟨h1, h2, _⟩
      rcases h with h | h
      · exact absurd h h1
      · exact absurd h h2
  · rw [if_neg h]
    exact ⟨fun z => ⟨fun e => h (.inl e), fun e => h (.inr e), z⟩, fun z => z.2.2⟩
theorem rest_same : Same (rest b g H) H := fun c o h => (rest_at.mp h).2.2
theorem rest_mono (s : Same H H') : Same (rest b g H) (rest b g H') := fun c o h => by
  obtain ⟨h1, h2, h3⟩ := rest_at.mp h
  exact rest_at.mpr ⟨h1, h2, s _ _ h3⟩
theorem Bag.mono (B : Bag b g H) (s : Same H H') : Bag b g H' := by
  obtain ⟨ns, m, t, h1, h2⟩ := B
  exact ⟨ns, m, t, s _ _ h1, s _ _ h2⟩
/-- what is new is not of the bag -/
theorem Bag.new (B : Bag b g H) {c : Addr} {o : HO} (hc : H c = none) (h : H' c = some o) : rest b g H' c = some o := by
  obtain ⟨ns, m, t, h1, h2⟩ := B
  refine rest_at.mpr ⟨fun e => ?_, fun e => ?_, h⟩
  · rw [e, h1] at hc; cases hc
  · rw [e, h2] at hc; cases hc
theorem Bag.sqT (B : Bag b g H) {a : Addr} {xs : List V} (h : SqT K H a xs) : SqT K (rest b g H) a xs := by
  obtain ⟨ns, m, t, h1, h2⟩ := B
  rcases h with (h | ⟨u, h⟩) | h
  · refine .inl (.inl (rest_at.mpr ⟨fun e => ?_, fun e => ?_, h⟩))
    · rw [e, h1] at h; cases h
    · rw [e, h2] at h; cases h
  · refine .inl (.inr ⟨u, rest_at.mpr ⟨fun e => ?_, fun e => ?_, h⟩⟩)
    · rw [e, h1] at h; cases h
    · rw [e, h2] at h; cases h
  · exact .inr h
theorem Bag.tv (B : Bag b g H) : ∀ (t : Tr) (v : V), TV K H v t → TV K (rest b g H) v t := by
  refine Tr.ind (fun b v h => tv_leaf.mpr (tv_leaf.mp h)) fun k ps ih v h => ?_
  obtain ⟨a, b, vs, rfl, h1, h2, h3⟩ := tv_node.mp h
  exact tv_node.mpr ⟨a, b, vs, rfl, B.sqT h1, B.sqT h2, tvs_of h3 fun p hp v hv => ih p hp v hv⟩
theorem Bag.tvs (B : Bag b g H) {ps : List Tr} {vs : List V} (h : TVs K H vs ps) : TVs K (rest b g H) vs ps := tvs_of h fun p _ v hv => B.tv p v hv
/-- the dict is written -/
theorem rest_b {o : HO} : rest b g (upd H b o) = rest b g H := by
  funext c
  unfold rest
  by_cases h : c = b ∨ c = g
  · rw [if_pos h, if_pos h]
  · rw [if_neg h, if_neg h, upd_ne fun e => h (.inl e)]
theorem rest_g {o : HO} : rest b g (upd H g o) = rest b g H := by
  funext c
  unfold rest
  by_cases h : c = b ∨ c = g
  · rw [if_pos h, if_pos h]
  · rw [if_neg h, if_neg h, upd_ne fun e => h (.inr e)]
theorem bag_ne {kvs : List (L2.Key × V)} {xs : List V} (h1 : H b = some (.dK kvs)) (h2 : H g = some (.lst xs)) : g ≠ b := fun e => by rw [e, h1] at h2; cases h2
theorem get_great {m t : Int} (h : H b = some (.dK (bagD g m t))) : DGet H b (.str "great") (some (.ref g)) := .inl ⟨_, .inr "great", .inl h, rfl, rfl⟩
theorem get_mixed {m t : Int} (h : H b = some (.dK (bagD g m t))) : DGet H b (.str "mixed") (some (.int m)) := .inl ⟨_, .inr "mixed", .inl h, rfl, rfl⟩
theorem get_turn {m t : Int} (h : H b = some (.dK (bagD g m t))) : DGet H b (.str "turn") (some (.int t)) := .inl ⟨_, .inr "turn", .inl h, rfl, rfl⟩
theorem put_turn {m t n : Int} (h : H b = some (.dK (bagD g m t))) : DPut H b (.str "turn") (.int n) (upd H b (.dK (bagD g m n))) := .inl ⟨_, .inr "turn", h, rfl, by show 3 < sizeLine; decide, rfl⟩
end
theorem op_neD_ints {K : PySem.W.Frag} {H : Hp} {a q : Addr} {ns : List Int} (h : H a = some (.lst (ns.map V.int))) (hq : H q = none) : ∃ d e, Dp K (upd H q (.lst [])) (.ref a) d ∧ Dp K (upd H q (.lst [])) (.ref q) e ∧ SeqAt.shaped d = true ∧ SeqAt.shaped e = true ∧ (!PyData.eqv d e) = !decide (ns = []) :=
  ⟨_, _, .lst (SqL.of (Same.new hq _ _ h)) (dps_ints ns), .lst (SqL.of upd_same) .nil, sh_ints ns, sh_ints [], by rw [eqv_leftover]⟩
theorem last_int {ns : List Int} {z : Int} : (((ns ++ [z]).map V.int))[((ns ++ [z]).map V.int).length - 1]? = some (.int z) := by
  rw [List.map_append]; simp
theorem ixN_end {n m : Nat} (h : n = m + 1) : ixN n (-1) = some m := by
  subst h
  unfold ixN
  rw [if_neg (by decide), if_pos (by omega)]
  congr 1
  omega
/-- a while, then what follows it -/
theorem seqWhile_of {c : TT} {body u : TS} {D : Ends} {σ : L2.St} {H : Hp} (Pv : Nat → L2.St → Hp → Prop) (PP : L2.St → Hp → Prop) (m0 : Nat) (h0 : Pv m0 σ H)
    (step : ∀ (R : L2.St → Hp → Prop), (∀ σ' H', PP σ' H' → R σ' H') → ∀ m σ H, Pv m σ H → c σ H fun b H1 => if b = true then ∃ N : L2.St → Hp → Prop, (∀ σ' H', N σ' H' → ∃ m', m' < m ∧ Pv m' σ' H') ∧ body { D with nx := N, ct := N, bk := R } σ H1 else R σ H1)
    (hr : ∀ σ' H', PP σ' H' → u D σ' H') : tSeq (tWhile c body) u D σ H := ⟨Pv, ⟨m0, h0⟩, step _ hr⟩
section
variable {w : World} {P : Program} {K : PySem.W.Frag} {base : Heap} {mg : Str → Option Value}
/-! ### _law_draw: slots _law_bag_here 0, _law_many 1, _law_digit 2, _law_found 3 -/
def spDraw : Sp := fun vs H Q _ => ∃ (b g : Addr) (many : Int), vs = [.ref b, .int many] ∧ Bag b g H ∧ 0 < many ∧ many < 1073741824 ∧ ∀ (d : Int) (H' : Hp), 0 ≤ d → d < many → Bag b g H' → Same (rest b g H) (rest b g H') → Q (.int d) H'
theorem sc_law_draw : FnScope ["_law_bag_here", "_law_many", "_law_digit", "_law_found"] ["_law_bag_here", "_law_many"] (defScope (topS 25)) := ⟨rfl, rfl, rfl, by decide +kernel, rfl, by decide +kernel, by decide +kernel⟩
theorem c_law_draw (T : Txt K mg) : Cal P w K mg base 1 "_law_draw" ["_law_bag_here", "_law_many"] spDraw := by
  refine Cal.mk' T.d_law_draw sc_law_draw (fun _ _ _ _ _ _ us hl => match us, hl with | [_, _], _ => rfl) (fun vs H Q E h => ?_) (fun f cdv A outer s H vs Q E hr h => ?_)
  · obtain ⟨_, _, _, rfl, _⟩ := h; rfl
  · obtain ⟨b, g, many, rfl, B, hm, hm2, k⟩ := h
    have hu := hu1 hr.units
    refine ⟨_, (pss_cons (ps_while PassesOwn.never (PW.pt (pw_and (pt_cmpR (op_neD hr.units) (pe_dget (hu1 hr.units) (pv 0) pe_str (fun _ _ => rfl)) (pe_lst pa_nil) (nomark _)) (pw_and1 (pt_cmpR op_eq (pe_ix ix_list (pe_dget (hu1 hr.units) (pv 0) pe_str (fun _ _ => rfl)) (pe_un un_neg pe_int) (fun _ _ => rfl)) pe_int (nomark _)))))
          (pss_one (ps_expr (pe_bm0 PySem.F.plainAttrs_list PySem.F.slot_list_pop PySem.F.type_list_pop mt_pop (pe_dget (hu1 hr.units) (pv 0) pe_str (fun _ _ => rfl))))))
        (pss_cons (ps_if (pt_cmpR (op_neD hr.units) (pe_dget (hu1 hr.units) (pv 0) pe_str (fun _ _ => rfl)) (pe_lst pa_nil) (nomark _)) (pss_cons (ps_set (i := 2) sc_law_draw.nd rfl (Or.inl rfl) (pe_op op_mod (pe_ix ix_list (pe_dget (hu1 hr.units) (pv 0) pe_str (fun _ _ => rfl)) (pe_un un_neg pe_int) (fun _ _ => rfl)) (pv 1)))
          (pss_cons (ps_asg (pe_op op_fdiv (pe_ix ix_list (pe_dget (hu1 hr.units) (pv 0) pe_str (fun _ _ => rfl)) (pe_un un_neg pe_int) (fun _ _ => rfl)) (pv 1)) (pg_sub (pe_dget (hu1 hr.units) (pv 0) pe_str (fun _ _ => rfl)) (pe_un un_neg pe_int) set_list))
          (pss_one (ps_ret (pe_callTy call_int1 (by rfl) T.n_int boot_int (pa_cons (pv 2) pa_nil)))))) pss_nil)
        (pss_cons (ps_dput (hu1 hr.units) (pv 0) pe_str (pe_op op_add (pe_dget (hu1 hr.units) (pv 0) pe_str (fun _ _ => rfl)) pe_int) (by rfl))
        (pss_cons (ps_set (i := 3) sc_law_draw.nd rfl (Or.inl rfl) (pe_op op_mod (pe_callTy call_int1 (by rfl) T.n_int boot_int (pa_cons (pe_op op_add (pe_dget (hu1 hr.units) (pv 0) pe_str (fun _ _ => rfl)) (pe_op op_mul (pe_dget (hu1 hr.units) (pv 0) pe_str (fun _ _ => rfl)) pe_int)) pa_nil)) pe_int))
        (pss_cons (ps_set (i := 3) sc_law_draw.nd rfl (Or.inl rfl) (pe_op op_mod (pe_callTy call_int1 (by rfl) T.n_int boot_int (pa_cons (pe_op op_add (pe_op op_add (pe_op op_mul (pv 3) (pv 3)) (pe_op op_mul (pe_dget (hu1 hr.units) (pv 0) pe_str (fun _ _ => rfl)) pe_int)) pe_int) pa_nil)) pe_int))
        (pss_cons (ps_set (i := 3) sc_law_draw.nd rfl (Or.inl rfl) (pe_op op_mod (pe_callTy call_int1 (by rfl) T.n_int boot_int (pa_cons (pe_op op_add (pe_op op_mul (pv 3) (pv 3)) (pe_dget (hu1 hr.units) (pv 0) pe_str (fun _ _ => rfl))) pa_nil)) pe_int))
        (pss_one (ps_ret (pe_op op_mod (pe_callTy call_int1 (by rfl) T.n_int boot_int (pa_cons (pe_op op_fdiv (pv 3) pe_int) pa_nil)) (pv 1)))))))))), ?_⟩
    obtain ⟨ns0, m, t, eb, eg⟩ := B
    refine seqWhile_of (fun z σ H' => ∃ ns : List Int, σ = [some (.ref b), some (.int many), none, none] ∧ H' b = some (.dK (bagD g m t)) ∧ H' g = some (.lst (ns.map V.int)) ∧ Same (rest b g H) (rest b g H') ∧ z = ns.length)
      (fun σ H' => ∃ ns : List Int, σ = [some (.ref b), some (.int many), none, none] ∧ H' b = some (.dK (bagD g m t)) ∧ H' g = some (.lst (ns.map V.int)) ∧ Same (rest b g H) (rest b g H')) _ ⟨ns0, rfl, eb, eg, Same.refl _, rfl⟩ ?_ ?_
    · rintro R hR z σ H' ⟨ns, rfl, eb, eg, s1, rfl⟩
      refine ⟨_, rfl, b, .ref g, rfl, get_great eb, by show 0 ≤ sizeLine; decide, fun q hq => ?_⟩
      obtain ⟨d, e, x1, x2, x3, x4, x5⟩ := op_neD_ints eg hq
      refine ⟨d, e, x1, x2, x3, x4, _, rfl, ?_⟩
      rw [x5]
      have sq : Same H' (upd H' q (.lst [])) := Same.new hq
      have s2 : Same (rest b g H) (rest b g (upd H' q (.lst []))) := s1.trans (rest_mono sq)
      have eb2 := sq _ _ eb
      have eg2 := sq _ _ eg
      rcases List.eq_nil_or_concat ns with rfl | ⟨ns', z, rfl⟩
      · rw [decide_eq_true rfl]
        exact iteF (iteF (hR _ _ ⟨[], rfl, eb2, eg2, s2⟩))
      · rw [List.concat_eq_append] at *
        rw [decide_eq_false (by simp)]
        refine iteT ⟨_, rfl, b, .ref g, rfl, get_great eb2, 1, rfl, g, _, -1, .int z, rfl, rfl, SqL.of eg2, by rw [List.map_append]; exact atI_last _ _, rfl, _, rfl, ?_⟩
        rw [dec_i]
        by_cases hz : z = 0
        · rw [decide_eq_true hz]
          refine iteT ⟨fun σ' H'' => ∃ ns2 : List Int, σ' = [some (.ref b), some (.int many), none, none] ∧ H'' b = some (.dK (bagD g m t)) ∧ H'' g = some (.lst (ns2.map V.int)) ∧ Same (rest b g H) (rest b g H'') ∧ ns2.length < (ns' ++ [z]).length, fun σ' H'' ⟨ns2, e1, e2, e3, e4, e5⟩ => ⟨_, e5, ns2, e1, e2, e3, e4, rfl⟩, ?_⟩
          refine ⟨_, rfl, b, .ref g, rfl, get_great eb2, .inl ⟨rfl, _, SqL.of eg2⟩, g, _, .int z, rfl, rfl, eg2, last_int, ns', rfl, ?_, ?_, ?_, by simp⟩
          · rw [upd_ne (Ne.symm (bag_ne eb2 eg2))]; exact eb2
          · rw [upd_same]; simp
          · rw [rest_g]; exact s2
        · rw [decide_eq_false hz]
          exact iteF (hR _ _ ⟨_, rfl, eb2, eg2, s2⟩)
    · rintro σ H' ⟨ns, rfl, eb, eg, s1⟩
      refine ⟨_, rfl, b, .ref g, rfl, get_great eb, by show 0 ≤ sizeLine; decide, fun q hq => ?_⟩
      obtain ⟨d, e, x1, x2, x3, x4, x5⟩ := op_neD_ints eg hq
      refine ⟨d, e, x1, x2, x3, x4, _, rfl, ?_⟩
      rw [x5]
      have sq : Same H' (upd H' q (.lst [])) := Same.new hq
      have s2 : Same (rest b g H) (rest b g (upd H' q (.lst []))) := s1.trans (rest_mono sq)
      have eb2 := sq _ _ eb
      have eg2 := sq _ _ eg
      generalize upd H' q (.lst []) = G at *
      rcases List.eq_nil_or_concat ns with rfl | ⟨ns', z, rfl⟩
      · rw [decide_eq_true rfl]
        have c1 : CMul t 40692 := .inr ⟨by decide, by decide⟩
        refine iteF ⟨_, rfl, b, .int t, rfl, get_turn eb2, _, _, rfl, rfl, _, rfl, b, _, rfl, put_turn eb2, ?_⟩
        have eb3 : upd G b (.dK (bagD g m (t + 1))) b = some (.dK (bagD g m (t + 1))) := upd_same
        have eg3 : upd G b (.dK (bagD g m (t + 1))) g = some (.lst (([] : List Int).map V.int)) := by rw [upd_ne (bag_ne eb2 eg2)]; exact eg2
        have s3 : Same (rest b g H) (rest b g (upd G b (.dK (bagD g m (t + 1))))) := by rw [rest_b]; exact s2
        generalize upd G b (.dK (bagD g m (t + 1))) = G3 at eb3 eg3 s3
        refine ⟨_, rfl, b, _, rfl, get_mixed eb3, _, rfl, b, _, rfl, get_turn eb3, _, _, rfl, rfl, .inr ⟨by decide, by decide⟩, _, _, rfl, rfl, .inl ⟨_, rfl, _, _, rfl, rfl, by show (0 : Int) < 2147483399; decide, ?_⟩⟩
        have f1a := Int.emod_nonneg (m + (t + 1) * 40692) (show (2147483399 : Int) ≠ 0 by decide)
        have f1b := Int.emod_lt_of_pos (m + (t + 1) * 40692) (show (0 : Int) < 2147483399 by decide)
        generalize (m + (t + 1) * 40692) % 2147483399 = f1 at f1a f1b
        refine ⟨_, rfl, _, rfl, _, _, rfl, rfl, .inl ⟨by omega, by omega⟩, _, rfl, b, _, rfl, get_turn eb3, _, _, rfl, rfl, .inr ⟨by decide, by decide⟩, _, _, rfl, rfl, _, _, rfl, rfl, .inl ⟨_, rfl, _, _, rfl, rfl, by show (0 : Int) < 2147483647; decide, ?_⟩⟩
        have f2a := Int.emod_nonneg (f1 * f1 + (t + 1) * 69621 + 5) (show (2147483647 : Int) ≠ 0 by decide)
        have f2b := Int.emod_lt_of_pos (f1 * f1 + (t + 1) * 69621 + 5) (show (0 : Int) < 2147483647 by decide)
        generalize (f1 * f1 + (t + 1) * 69621 + 5) % 2147483647 = f2 at f2a f2b
        refine ⟨_, rfl, _, rfl, _, _, rfl, rfl, .inl ⟨by omega, by omega⟩, _, rfl, b, _, rfl, get_mixed eb3, _, _, rfl, rfl, .inl ⟨_, rfl, _, _, rfl, rfl, by show (0 : Int) < 2147483629; decide, ?_⟩⟩
        refine ⟨_, rfl, _, _, rfl, rfl, ⟨by decide, by decide⟩, .inl ⟨_, rfl, _, rfl, _, _, rfl, rfl, hm, ?_⟩⟩
        exact k _ G3 (Int.emod_nonneg _ (by omega)) (Int.emod_lt_of_pos _ hm) ⟨[], m, t + 1, eb3, eg3⟩ s3
      · rw [List.concat_eq_append] at *
        rw [decide_eq_false (by simp)]
        refine iteT ⟨_, rfl, b, .ref g, rfl, get_great eb2, 1, rfl, g, _, -1, .int z, rfl, rfl, SqL.of eg2, by rw [List.map_append]; exact atI_last _ _, _, rfl, _, _, rfl, rfl, hm, ?_⟩
        refine ⟨_, rfl, b, .ref g, rfl, get_great eb2, 1, rfl, g, _, -1, .int z, rfl, rfl, SqL.of eg2, by rw [List.map_append]; exact atI_last _ _, _, rfl, _, _, rfl, rfl, ⟨hm, hm2⟩, ?_⟩
        refine ⟨_, rfl, b, .ref g, rfl, get_great eb2, 1, rfl, g, _, -1, ns'.length, rfl, rfl, eg2, ?_, ?_⟩
        · exact ixN_end (by simp)
        · refine ⟨_, rfl, .inl ⟨_, rfl, k _ _ (Int.emod_nonneg _ (by omega)) (Int.emod_lt_of_pos _ hm) ⟨ns' ++ [z / many], m, t, ?_, ?_⟩ ?_⟩⟩
          · rw [upd_ne (Ne.symm (bag_ne eb2 eg2))]; exact eb2
          · rw [upd_same]; simp
          · rw [rest_g]; exact s2
end
end K23
namespace K23
open PySem PyProof.Rows PySem.Spec L2
/-! ### items: ints and trees -/
def Good (d : PyData) : Prop := PyData.canLay0 d = true ∧ d.depth ≤ 60
def Itm (K : PySem.W.Frag) (H : Hp) (xs : List V) : Prop := ∀ x ∈ xs, ∃ d, Dp K H x d ∧ Good d
theorem Itm.mono {K : PySem.W.Frag} {H H' : Hp} {xs : List V} (h : Itm K H xs) (s : Same H H') : Itm K H' xs := fun x hx => by
  obtain ⟨d, h1, h2⟩ := h x hx
  exact ⟨d, dp_mono s d x h1, h2⟩
theorem itm_ints {K : PySem.W.Frag} {H : Hp} (ns : List Int) : Itm K H (ns.map V.int) := fun x hx => by
  obtain ⟨n, _, rfl⟩ := List.mem_map.mp hx
  exact ⟨.int n, .int n, rfl, by show 0 ≤ 60; decide⟩
theorem itm_tvs {K : PySem.W.Frag} {H : Hp} : ∀ {ps : List Tr} {vs : List V}, TVs K H vs ps → (∀ p ∈ ps, p.dep ≤ 12) → Itm K H vs
  | [], _, h, _ => by rw [h.of_nil]; intro x hx; cases hx
  | p :: ps, _, h, g => by
    obtain ⟨v, r, rfl, h1, h2⟩ := h.uncons
    intro x hx
    (rcases List.mem_cons.mp hx with rfl | hx)
    · exact ⟨enc p, h1, canLay_enc p, Nat.le_trans (depth_enc p) (by have := g p (by simp); omega)⟩
    · exact itm_tvs h2 (fun q hq => g q (by simp [hq])) x hx
theorem itm_all {K : PySem.W.Frag} {H : Hp} : ∀ {xs : List V}, Itm K H xs → ∃ ds, DpAll K H xs ds ∧ PyData.canLayAll0 ds = true ∧ PyData.depthAll ds ≤ 60 ∧ (ds = [] ↔ xs = [])
  | [], _ => ⟨[], .nil, rfl, by show 0 ≤ 60; decide, by simp⟩
  | x :: xs, h => by
    obtain ⟨d, h1, h2, h3⟩ := h x (by simp)
    obtain ⟨ds, g1, g2, g3, g4⟩ := itm_all (xs := xs) fun y hy => h y (by simp [hy])
    exact ⟨d :: ds, .cons h1 g1, by rw [PyData.canLayAll0, h2, g2]; rfl, by rw [PyData.depthAll]; exact Nat.max_le.mpr ⟨h3, g3⟩, by simp⟩
theorem neD_itm {K : PySem.W.Frag} {H : Hp} {a q : Addr} {xs : List V} (h : H a = some (.lst xs)) (hx : Itm K H xs) (hq : H q = none) : ∃ d e, Dp K (upd H q (.lst [])) (.ref a) d ∧ Dp K (upd H q (.lst [])) (.ref q) e ∧ SeqAt.shaped d = true ∧ SeqAt.shaped e = true ∧ (!PyData.eqv d e) = !decide (xs = []) := by
  obtain ⟨ds, g1, g2, g3, g4⟩ := itm_all hx
  refine ⟨_, _, .lst (SqL.of (Same.new hq _ _ h)) (dps_mono (Same.new hq) _ _ g1), .lst (SqL.of upd_same) .nil, ?_, sh_ints [], ?_⟩
  · simp only [SeqAt.shaped, PyData.canLay0, PyData.depth, g2, Bool.true_and, decide_eq_true_eq]
    have h3 : PyData.depthAll ds + 1 ≤ 64 := by omega
    simpa using h3
  · congr 1
    cases ds with
    | nil => rw [decide_eq_true (g4.mp rfl)]; simp [PyData.eqv, PyData.eqvAll]
    | cons d ds =>
      have : xs ≠ [] := fun e => by have := g4.mpr e; cases this
      rw [decide_eq_false this]; simp [PyData.eqv, PyData.eqvAll]
theorem erase_perm {α : Type} : ∀ {xs : List α} {k : Nat} {y : α}, xs[k]? = some y → (y :: xs.eraseIdx k).Perm xs
  | [], _, _, h => by simp at h
  | x :: xs, 0, y, h => by
    have e : x = y := by simpa using h
    subst e
    exact List.Perm.refl _
  | x :: xs, k + 1, y, h => by
    have ih := erase_perm (xs := xs) (k := k) (y := y) (by simpa using h)
    rw [List.eraseIdx_cons_succ]
    exact (List.Perm.swap x y _).trans (ih.cons x)
/-- what stands beside the bag stands in the heap -/
theorem rest_get {b g : Addr} {H : Hp} {c : Addr} {o : HO} (h : rest b g H c = some o) : H c = some o := (rest_at.mp h).2.2
theorem rest_upd {b g : Addr} {H : Hp} {c : Addr} {o : HO} (hb : c ≠ b) (hg : c ≠ g) : rest b g (upd H c o) = upd (rest b g H) c o := by
  funext x
  by_cases e : x = c
  · subst e
    rw [upd_same]
    exact rest_at.mpr ⟨hb, hg, upd_same⟩
  · rw [upd_ne e]
    unfold rest
    by_cases h : x = b ∨ x = g
    · rw [if_pos h, if_pos h]
    · rw [if_neg h, if_neg h, upd_ne e]
theorem Bag.upd {b g : Addr} {H : Hp} {c : Addr} {o : HO} (B : Bag b g H) (hb : c ≠ b) (hg : c ≠ g) : Bag b g (upd H c o) := by
  obtain ⟨ns, m, t, h1, h2⟩ := B
  exact ⟨ns, m, t, by rw [upd_ne (Ne.symm hb)]; exact h1, by rw [upd_ne (Ne.symm hg)]; exact h2⟩
section
variable {w : World} {P : Program} {K : PySem.W.Frag} {base : Heap} {mg : Str → Option Value}
/-! ### _law_pick: slots _law_bag_here 0, _law_items 1 -/
def spPick : Sp := fun vs H Q _ => ∃ (b g l : Addr) (xs : List V), vs = [.ref b, .ref l] ∧ Bag b g H ∧ rest b g H l = some (.lst xs) ∧ 1 ≤ xs.length ∧ xs.length ≤ 100000 ∧
  ∀ (i : Nat) (v : V) (H' : Hp), xs[i]? = some v → Bag b g H' → Same (rest b g H) (rest b g H') → Q v H'
theorem sc_law_pick : FnScope ["_law_bag_here", "_law_items"] ["_law_bag_here", "_law_items"] (defScope (topS 26)) := ⟨rfl, rfl, rfl, by decide +kernel, rfl, by decide +kernel, by decide +kernel⟩
theorem c_law_pick (T : Txt K mg) : Cal P w K mg base 2 "_law_pick" ["_law_bag_here", "_law_items"] spPick := by
  refine Cal.mk' T.d_law_pick sc_law_pick (fun _ _ _ _ _ _ us hl => match us, hl with | [_, _], _ => rfl) (fun vs H Q E h => ?_) (fun f cdv A outer s H vs Q E hr h => ?_)
  · obtain ⟨_, _, _, _, rfl, _⟩ := h; rfl
  · obtain ⟨b, g, l, xs, rfl, B, hl, h1, h2, k⟩ := h
    refine ⟨_, (pss_one (ps_ret (pe_ix ix_list (pv 1) (pc (c_law_draw T) hr (by decide) (by rfl) (pa_cons (pv 0) (pa_cons (pe_callB call_len_seq (by rfl) T.n_len boot_len (pa_cons (pv 1) pa_nil)) pa_nil))) (fun _ _ => rfl)))), ?_⟩
    refine ⟨_, rfl, _, rfl, _, rfl, l, xs, rfl, .inl (SqL.of (rest_get hl)), b, g, _, rfl, B, by omega, by omega, fun d H' d0 d1 B' s' => ?_⟩
    obtain ⟨n, rfl⟩ := Int.eq_ofNat_of_zero_le d0
    have hn : n < xs.length := by omega
    exact ⟨l, xs, (n : Int), xs[n], rfl, rfl, SqL.of (rest_get (s' _ _ hl)), atI_nat (List.getElem?_eq_getElem hn), k n xs[n] H' (List.getElem?_eq_getElem hn) B' s'⟩
/-! ### _law_mixed: slots _law_bag_here 0, _law_items 1, _law_rest 2, _law_found 3 -/
def spMixed (K : PySem.W.Frag) : Sp := fun vs H Q _ => ∃ (b g l : Addr) (xs : List V), vs = [.ref b, .ref l] ∧ Bag b g H ∧ rest b g H l = some (.lst xs) ∧ xs.length ≤ 100000 ∧ Itm K (rest b g H) xs ∧
  ∀ (m : Addr) (ys : List V) (H' : Hp), ys.Perm xs → Bag b g H' → Same (rest b g H) (rest b g H') → H m = none → rest b g H' m = some (.lst ys) → Q (.ref m) H'
theorem sc_law_mixed : FnScope ["_law_bag_here", "_law_items", "_law_rest", "_law_found"] ["_law_bag_here", "_law_items"] (defScope (topS 27)) := ⟨rfl, rfl, rfl, by decide +kernel, rfl, by decide +kernel, by decide +kernel⟩
theorem c_law_mixed (T : Txt K mg) : Cal P w K mg base 2 "_law_mixed" ["_law_bag_here", "_law_items"] (spMixed K) := by
  refine Cal.mk' T.d_law_mixed sc_law_mixed (fun _ _ _ _ _ _ us hl => match us, hl with | [_, _], _ => rfl) (fun vs H Q E h => ?_) (fun f cdv A outer s H vs Q E hr h => ?_)
  · obtain ⟨_, _, _, _, rfl, _⟩ := h; rfl
  · obtain ⟨b, g, l, xs, rfl, B, hl, h2, hI, k⟩ := h
    refine ⟨_, (pss_cons (ps_par (i := 2) (j := 3) rfl sc_law_mixed.nd rfl rfl (by decide) rfl rfl (pa_cons (pe_callTy call_list_of (by rfl) T.n_list boot_list (pa_cons (pv 1) pa_nil)) (pa_cons (pe_lst pa_nil) pa_nil)) (by rfl))
        (pss_cons (ps_while PassesOwn.never (pt_cmpR (op_neD hr.units) (pv 2) (pe_lst pa_nil) (nomark _))
          (pss_one (ps_expr (pe_bm PySem.F.plainAttrs_list PySem.F.slot_list_append PySem.F.type_list_append mt_append (pv 3) (pa_cons (pe_bm PySem.F.plainAttrs_list PySem.F.slot_list_pop PySem.F.type_list_pop mt_popAt (pv 2) (pa_cons (pc (c_law_draw T) hr (by decide) (by rfl) (pa_cons (pv 0) (pa_cons (pe_callB call_len_seq (by rfl) T.n_len boot_len (pa_cons (pv 2) pa_nil)) pa_nil))) pa_nil)) pa_nil)))))
        (pss_one (ps_ret (pv 3))))), ?_⟩
    refine ⟨_, rfl, l, xs, rfl, .inl (SqL.of (rest_get hl)), fun r hr0 => ⟨by show 0 ≤ sizeLine; decide, fun m hm => ⟨_, _, rfl, ?_⟩⟩⟩
    have s1 : Same H (upd (upd H r (.lst xs)) m (.lst [])) := (Same.new hr0).trans (Same.new hm)
    have hm0 : H m = none := (Same.new hr0).free hm
    have hrm : r ≠ m := fun e => by rw [← e, upd_same] at hm; cases hm
    have er : upd (upd H r (.lst xs)) m (.lst []) r = some (.lst xs) := by rw [upd_ne hrm]; exact upd_same
    have em : upd (upd H r (.lst xs)) m (.lst []) m = some (.lst []) := upd_same
    have B1 := B.mono s1
    have er' := B.new hr0 er
    have em' := B.new hm0 em
    have s1' := rest_mono (b := b) (g := g) s1
    generalize upd (upd H r (.lst xs)) m (.lst []) = G at *
    refine seqWhile_of (fun z σ H' => ∃ us ys : List V, σ = [some (.ref b), some (.ref l), some (.ref r), some (.ref m)] ∧ Bag b g H' ∧ Same (rest b g H) (rest b g H') ∧ rest b g H' r = some (.lst us) ∧ rest b g H' m = some (.lst ys) ∧ (ys ++ us).Perm xs ∧ z = us.length)
      (fun σ H' => ∃ ys : List V, σ = [some (.ref b), some (.ref l), some (.ref r), some (.ref m)] ∧ Bag b g H' ∧ Same (rest b g H) (rest b g H') ∧ rest b g H' m = some (.lst ys) ∧ ys.Perm xs) _ ⟨xs, [], rfl, B1, s1', er', em', List.Perm.refl _, rfl⟩ ?_ ?_
    · rintro R hR z σ H' ⟨us, ys, rfl, B2, s2, er2, em2, pm, rfl⟩
      have hIu : Itm K H' us := fun x hx => (hI.mono (s2.trans rest_same)) x (pm.mem_iff.mp (List.mem_append_right _ hx))
      refine ⟨_, rfl, by show 0 ≤ sizeLine; decide, fun q hq => ?_⟩
      obtain ⟨d, e, x1, x2, x3, x4, x5⟩ := neD_itm (rest_get er2) hIu hq
      refine ⟨d, e, x1, x2, x3, x4, _, rfl, ?_⟩
      rw [x5]
      have sq : Same H' (upd H' q (.lst [])) := Same.new hq
      have sq' := rest_mono (b := b) (g := g) sq
      have B3 := B2.mono sq
      generalize upd H' q (.lst []) = G2 at sq sq' B3
      by_cases c : us = []
      · subst c
        rw [decide_eq_true rfl]
        rw [List.append_nil] at pm
        exact iteF (hR _ _ ⟨ys, rfl, B3, s2.trans sq', sq' _ _ em2, pm⟩)
      · rw [decide_eq_false c]
        have upos : 0 < us.length := List.length_pos_iff.mpr c
        have plen := pm.length_eq
        rw [List.length_append] at plen
        have er3 := sq' _ _ er2
        have em3 := sq' _ _ em2
        refine iteT ⟨fun σ' H'' => ∃ us2 ys2 : List V, σ' = [some (.ref b), some (.ref l), some (.ref r), some (.ref m)] ∧ Bag b g H'' ∧ Same (rest b g H) (rest b g H'') ∧ rest b g H'' r = some (.lst us2) ∧ rest b g H'' m = some (.lst ys2) ∧ (ys2 ++ us2).Perm xs ∧ us2.length < us.length, fun σ' H'' ⟨us2, ys2, e1, e2, e3, e4, e5, e6, e7⟩ => ⟨_, e7, us2, ys2, e1, e2, e3, e4, e5, e6, rfl⟩, ?_⟩
        refine ⟨_, rfl, .inl ⟨rfl, _, SqL.of (rest_get em3)⟩, _, rfl, .inl ⟨rfl, _, SqL.of (rest_get er3)⟩, _, rfl, _, rfl, r, us, rfl, .inl (SqL.of (rest_get er3)), b, g, _, rfl, B3, by omega, by omega, fun d H5 d0 d1 B5 s5 => ?_⟩
        obtain ⟨n, rfl⟩ := Int.eq_ofNat_of_zero_le d0
        have hn : n < us.length := by omega
        have er5 := s5 _ _ er3
        have em5 := s5 _ _ em3
        obtain ⟨rb, rg, er6⟩ := rest_at.mp er5
        obtain ⟨mb, mg', em6⟩ := rest_at.mp em5
        have em7 : upd H5 r (.lst (us.eraseIdx n)) m = some (.lst ys) := by rw [upd_ne (Ne.symm hrm)]; exact em6
        refine ⟨r, us, (n : Int), n, us[n], rfl, rfl, er6, by omega, by omega, seqIndex_of d0 (by omega), List.getElem?_eq_getElem hn, m, ys, us[n], rfl, rfl, em7, size_lt (by omega), us.eraseIdx n, ys ++ [us[n]], rfl, (B5.upd rb rg).upd mb mg', ?_, ?_, ?_, ?_, ?_⟩
        · rw [rest_upd mb mg', rest_upd rb rg]
          have hbr : rest b g H r = none := by
            cases e : rest b g H r with
            | none => rfl
            | some o => have := rest_get e; rw [hr0] at this; cases this
          have hbm : rest b g H m = none := by
            cases e : rest b g H m with
            | none => rfl
            | some o => have := rest_get e; rw [hm0] at this; cases this
          exact (((s2.trans sq').trans s5).up hbr).up hbm
        · rw [rest_upd mb mg', rest_upd rb rg, upd_ne hrm]; exact upd_same
        · rw [rest_upd mb mg']; exact upd_same
        · have := erase_perm (List.getElem?_eq_getElem hn)
          rw [List.append_assoc]
          exact (List.Perm.append_left ys this).trans pm
        · rw [List.length_eraseIdx_of_lt hn]; omega
    · rintro σ H' ⟨ys, rfl, B2, s2, em2, pm⟩
      exact ⟨_, rfl, k m ys H' pm B2 s2 hm0 em2⟩
end
end K23
namespace K23
open PySem PyProof.Rows PySem.Spec L2
theorem te_of {te : TE} {σ : L2.St} {H : Hp} {Q : VK} (P : V → Hp → Prop) (h : ∀ R : VK, (∀ v H', P v H' → R v H') → te σ H R) (k : ∀ v H', P v H' → Q v H') : te σ H Q := h Q k
theorem rgV_ints (n : Nat) : rgV 0 (n : Int) = ((List.range n).map fun i => ((i : Nat) : Int)).map V.int := by
  unfold rgV
  rw [List.map_map]
  have : ((n : Int) - 0).toNat = n := by omega
  rw [this]
  (refine List.map_congr_left fun i _ => ?_)
  simp
theorem range_nodup (n : Nat) : ((List.range n).map fun i => ((i : Nat) : Int)).Nodup := by
  refine List.Pairwise.map _ ?_ List.nodup_range
  intro a b h e
  exact h (by exact_mod_cast e)
theorem map_eraseI : ∀ (ms : List Int) (x : Nat), (ms.map V.int).eraseIdx x = (ms.eraseIdx x).map V.int
  | [], _ => rfl
  | m :: ms, 0 => rfl
  | m :: ms, x + 1 => by rw [List.map_cons, List.eraseIdx_cons_succ, List.eraseIdx_cons_succ, List.map_cons, map_eraseI ms x]
theorem rest_none {b g : Addr} {H : Hp} {c : Addr} (h : H c = none) : rest b g H c = none := by
  cases e : rest b g H c with
  | none => rfl
  | some o => have := rest_get e; rw [h] at this; cases this
theorem bag_free {b g : Addr} {H H' : Hp} {c : Addr} (B : Bag b g H') (s : Same (rest b g H) (rest b g H')) (h : H' c = none) : H c = none := by
  cases e : H c with
  | none => rfl
  | some o =>
    obtain ⟨ns, m, t, h1, h2⟩ := B
    have hb : c ≠ b := fun z => by rw [z, h1] at h; cases h
    have hg : c ≠ g := fun z => by rw [z, h2] at h; cases h
    have := rest_get (s c o (rest_at.mpr ⟨hb, hg, e⟩))
    rw [h] at this
    cases this
section
variable {w : World} {P : Program} {K : PySem.W.Frag} {base : Heap} {mg : Str → Option Value}
/-! ### _law_buttons: slots _law_bag_here 0, _law_many 1, _law_rest 2, _law_found 3, _law_turn 4 -/
def spButtons : Sp := fun vs H Q _ => ∃ (b g : Addr) (n : Nat), vs = [.ref b, .int (n : Int)] ∧ Bag b g H ∧ n ≤ 24 ∧
  ∀ (l : Addr) (ns : List Int) (H' : Hp), ns.Nodup → ns.length = n → (∀ x ∈ ns, 0 ≤ x ∧ x < 100) → Bag b g H' → Same (rest b g H) (rest b g H') → H l = none → rest b g H' l = some (.lst (ns.map V.int)) → Q (.ref l) H'
theorem sc_law_buttons : FnScope ["_law_bag_here", "_law_many", "_law_rest", "_law_found", "_law_turn"] ["_law_bag_here", "_law_many"] (defScope (topS 28)) := ⟨rfl, rfl, rfl, by decide +kernel, rfl, by decide +kernel, by decide +kernel⟩
theorem c_law_buttons (T : Txt K mg) : Cal P w K mg base 2 "_law_buttons" ["_law_bag_here", "_law_many"] spButtons := by
  refine Cal.mk' T.d_law_buttons sc_law_buttons (fun _ _ _ _ _ _ us hl => match us, hl with | [_, _], _ => rfl) (fun vs H Q E h => ?_) (fun f cdv A outer s H vs Q E hr h => ?_)
  · obtain ⟨_, _, _, rfl, _⟩ := h; rfl
  · obtain ⟨b, g, n, rfl, B, hn, k⟩ := h
    refine ⟨_, (pss_cons (ps_par (i := 2) (j := 3) rfl sc_law_buttons.nd rfl rfl (by decide) rfl rfl (pa_cons (pe_listRg rfl (by rfl) T.n_list (prg_1 (by rfl) T.n_range (pe_ifExp (pt_cmpR op_eq (pc (c_law_draw T) hr (by decide) (by rfl) (pa_cons (pv 0) (pa_cons pe_int pa_nil))) pe_int (nomark _)) pe_int (pe_op op_add (pv 1) pe_int)))) (pa_cons (pe_lst pa_nil) pa_nil)) (by rfl))
        (pss_cons (ps_for PassesOwn.never rfl (pi_range1 (by rfl) T.n_range (pa_cons (pv 1) pa_nil)) (pg_name (i := 4) sc_law_buttons.nd rfl (Or.inl rfl))
          (pss_one (ps_expr (pe_bm PySem.F.plainAttrs_list PySem.F.slot_list_append PySem.F.type_list_append mt_append (pv 3) (pa_cons (pe_bm PySem.F.plainAttrs_list PySem.F.slot_list_pop PySem.F.type_list_pop mt_popAt (pv 2) (pa_cons (pc (c_law_draw T) hr (by decide) (by rfl) (pa_cons (pv 0) (pa_cons (pe_callB call_len_seq (by rfl) T.n_len boot_len (pa_cons (pv 2) pa_nil)) pa_nil))) pa_nil)) pa_nil)))))
        (pss_one (ps_ret (pe_callB cr_sortedI (by rfl) T.n_sorted boot_sorted (pa_cons (pv 3) pa_nil)))))), ?_⟩
    dsimp only [tSeq, tPar, tCons, tLstRg, tRg1]
    refine te_of (fun v H1 => ∃ N : Nat, v = .int (N : Int) ∧ n + 2 ≤ N ∧ N ≤ 100 ∧ Bag b g H1 ∧ Same (rest b g H) (rest b g H1)) ?_ ?_
    · intro R hR
      refine ⟨_, rfl, b, g, 4, rfl, B, by decide, by decide, fun d H1 d0 d1 B1 s1 => ⟨rfl, _, rfl, ?_⟩⟩
      rw [dec_i]
      by_cases c : d = 0
      · rw [decide_eq_true c]
        exact iteT (hR _ _ ⟨100, rfl, by omega, by omega, B1, s1⟩)
      · rw [decide_eq_false c]
        exact iteF ⟨_, rfl, _, _, rfl, rfl, hR _ _ ⟨n + 2, by rw [Int.natCast_add]; rfl, by omega, by omega, B1, s1⟩⟩
    · rintro v H1 ⟨N, rfl, hN1, hN2, B1, s1⟩
      refine ⟨_, rfl, .of_le (by decide) (by omega) (by decide) (by omega), fun r hr0 => ⟨by show 0 ≤ sizeLine; decide, fun m hm => ⟨_, _, rfl, ?_⟩⟩⟩
      rw [rgV_ints] at hm ⊢
      have nd0 := range_nodup N
      have bd0 : ∀ x ∈ (List.range N).map fun i => ((i : Nat) : Int), 0 ≤ x ∧ x < 100 := fun x hx => by
        obtain ⟨i, hi, rfl⟩ := List.mem_map.mp hx
        rw [List.mem_range] at hi
        omega
      have len0 : ((List.range N).map fun i => ((i : Nat) : Int)).length = N := by rw [List.length_map, List.length_range]
      generalize ((List.range N).map fun i => ((i : Nat) : Int)) = ms0 at *
      have s2 : Same H1 (upd (upd H1 r (.lst (ms0.map V.int))) m (.lst [])) := (Same.new hr0).trans (Same.new hm)
      have hm0 : H1 m = none := (Same.new hr0).free hm
      have hrm : r ≠ m := fun e => by rw [← e, upd_same] at hm; cases hm
      have er : upd (upd H1 r (.lst (ms0.map V.int))) m (.lst []) r = some (.lst (ms0.map V.int)) := by rw [upd_ne hrm]; exact upd_same
      have em : upd (upd H1 r (.lst (ms0.map V.int))) m (.lst []) m = some (.lst []) := upd_same
      have B2 := B1.mono s2
      have er' := B1.new hr0 er
      have em' := B1.new hm0 em
      have hr1 : H r = none := bag_free B1 s1 hr0
      have hm1 : H m = none := bag_free B1 s1 hm0
      have s2' := s1.trans (rest_mono (b := b) (g := g) s2)
      generalize upd (upd H1 r (.lst (ms0.map V.int))) m (.lst []) = G at *
      refine ⟨_, rfl, _, rfl, by omega, by omega, ?_⟩
      rw [Int.toNat_natCast]
      refine for_range (lo := 0) (n := n) (fun i σ H' => ∃ (o : Option V) (ms ns : List Int), σ = [some (.ref b), some (.int (n : Int)), some (.ref r), some (.ref m), o] ∧ Bag b g H' ∧ Same (rest b g H) (rest b g H') ∧ rest b g H' r = some (.lst (ms.map V.int)) ∧ rest b g H' m = some (.lst (ns.map V.int)) ∧ (ns ++ ms).Nodup ∧ ns.length = i ∧ ns.length + ms.length = N ∧ ∀ x ∈ ns ++ ms, 0 ≤ x ∧ x < 100)
        ⟨none, ms0, [], rfl, B2, s2', er', em', nd0, rfl, by rw [len0]; exact Nat.zero_add N, bd0⟩ ?_ ?_
      · rintro i σ H' hi ⟨o, ms, ns, rfl, B3, s3, er3, em3, nd, nl, tl, bds⟩
        have mlen : (ms.map V.int).length = ms.length := List.length_map _
        refine ⟨_, rfl, .inl ⟨rfl, _, SqL.of (rest_get em3)⟩, _, rfl, .inl ⟨rfl, _, SqL.of (rest_get er3)⟩, _, rfl, _, rfl, r, _, rfl, .inl (SqL.of (rest_get er3)), b, g, _, rfl, B3, by omega, by omega, fun d H5 d0 d1 B5 s5 => ?_⟩
        obtain ⟨x, rfl⟩ := Int.eq_ofNat_of_zero_le d0
        have hx : x < ms.length := by omega
        have er5 := s5 _ _ er3
        have em5 := s5 _ _ em3
        obtain ⟨rb, rg, er6⟩ := rest_at.mp er5
        obtain ⟨mb, mg', em6⟩ := rest_at.mp em5
        have hxg : ms[x]? = some ms[x] := List.getElem?_eq_getElem hx
        have em7 : upd H5 r (.lst ((ms.map V.int).eraseIdx x)) m = some (.lst (ns.map V.int)) := by rw [upd_ne (Ne.symm hrm)]; exact em6
        have eeq : (ms.map V.int).eraseIdx x = (ms.eraseIdx x).map V.int := map_eraseI ms x
        refine ⟨r, _, (x : Int), x, .int ms[x], rfl, rfl, er6, by omega, by omega, seqIndex_of d0 (by omega), by rw [List.getElem?_map, hxg]; rfl, m, _, .int ms[x], rfl, rfl, em7, size_lt (by rw [List.length_map]; omega), some (.int (0 + (i : Nat))), ms.eraseIdx x, ns ++ [ms[x]], rfl, (B5.upd rb rg).upd mb mg', ?_, ?_, ?_, ?_, ?_, ?_, ?_⟩
        · rw [rest_upd mb mg', rest_upd rb rg]
          exact ((s3.trans s5).up (rest_none hr1)).up (rest_none hm1)
        · rw [rest_upd mb mg', rest_upd rb rg, upd_ne hrm, ← eeq]; exact upd_same
        · rw [rest_upd mb mg', List.map_append]; exact upd_same
        · have := erase_perm hxg
          rw [List.append_assoc]
          exact (List.Perm.append_left ns this).symm.nodup nd
        · rw [List.length_append, nl]; rfl
        · rw [List.length_append, List.length_eraseIdx_of_lt hx, List.length_singleton]; omega
        · intro y hy
          have := erase_perm hxg
          rw [List.append_assoc] at hy
          exact bds y ((List.Perm.append_left ns this).mem_iff.mp hy)
      · rintro σ H' ⟨o, ms, ns, rfl, B3, s3, er3, em3, nd, nl, tl, bds⟩
        refine ⟨_, rfl, m, ns, rfl, SqL.of (rest_get em3), fun ns' p hp hs np => ?_⟩
        have nd1 : ns.Nodup := (List.nodup_append.mp nd).1
        have sp : Same H' (upd H' p (.lst (ns'.map V.int))) := Same.new np
        exact k p ns' _ (hp.symm.nodup nd1) (by rw [hp.length_eq]; exact nl) (fun x hx => bds x (List.mem_append_left _ (hp.mem_iff.mp hx))) (B3.mono sp) (s3.trans (rest_mono sp)) (bag_free B3 s3 np) (B3.new np upd_same)
end
end K23
namespace K23
open PySem PyProof.Rows PySem.Spec L2
section
variable {w : World} {P : Program} {K : PySem.W.Frag} {base : Heap} {mg : Str → Option Value}
theorem merge_bag (g : Addr) (m : Int) : mergeK [] (bagD g m 0) = bagD g m 0 := rfl
/-! ### _law_bag: slots _law_script 0, _law_great 1, _law_mixed_here 2, _law_cell 3 -/
def spBag (K : PySem.W.Frag) : Sp := fun vs H Q _ => ∃ (a : Addr) (ns : List Int), vs = [.ref a] ∧ SqL K H a (ns.map V.int) ∧ ns.length ≤ 100000 ∧ ∀ (b g : Addr) (H' : Hp), Bag b g H' → Same H (rest b g H') → Q (.ref b) H'
theorem sc_law_bag : FnScope ["_law_script", "_law_great", "_law_mixed_here", "_law_cell"] ["_law_script"] (defScope (topS 24)) := ⟨rfl, rfl, rfl, by decide +kernel, rfl, by decide +kernel, by decide +kernel⟩
theorem c_law_bag (T : Txt K mg) : Cal P w K mg base 1 "_law_bag" ["_law_script"] (spBag K) := by
  refine Cal.mk' T.d_law_bag sc_law_bag (fun _ _ _ _ _ _ us hl => match us, hl with | [_], _ => rfl) (fun vs H Q E h => ?_) (fun f cdv A outer s H vs Q E hr h => ?_)
  · obtain ⟨_, _, rfl, _⟩ := h; rfl
  · obtain ⟨a, ns, rfl, ha, hz, k⟩ := h
    refine ⟨_, (pss_cons (ps_par (i := 1) (j := 2) rfl sc_law_bag.nd rfl rfl (by decide) rfl rfl (pa_cons (pe_lst pa_nil) (pa_cons (pe_op op_add pe_int (pe_callB call_len_seq (by rfl) T.n_len boot_len (pa_cons (pv 0) pa_nil))) pa_nil)) (by rfl))
        (pss_cons (ps_for PassesOwn.never rfl (pi_list (pe_slice sl_list (pv 0) po_none (po_some pe_int))) (pg_name (i := 3) sc_law_bag.nd rfl (Or.inl rfl))
          (pss_cons (ps_set (i := 2) sc_law_bag.nd rfl (Or.inl rfl) (pe_op op_mod (pe_callTy call_int1 (by rfl) T.n_int boot_int (pa_cons (pe_op op_add (pe_op op_mul (pv 2) pe_int) (pv 3)) pa_nil)) pe_int))
            (pss_one (ps_if (pt_cmpR op_gt (pe_callB call_abs (by rfl) T.n_abs boot_abs (pa_cons (pv 3) pa_nil)) (pe_op op_pow pe_int pe_int) (nomark _)) (pss_one (ps_expr (pe_bm PySem.F.plainAttrs_list PySem.F.slot_list_append PySem.F.type_list_append mt_append (pv 1) (pa_cons (pe_op op_add (pe_op op_mul pe_int (pe_callB call_abs (by rfl) T.n_abs boot_abs (pa_cons (pv 3) pa_nil))) (pe_callTy call_int1 (by rfl) T.n_int boot_int (pa_cons (pe_cmpR op_lt (pv 3) pe_int (nomark _)) pa_nil))) pa_nil)))) pss_nil))))
        (pss_one (ps_ret (pe_disp (pps_cons pe_str (pv 1) (pps_cons pe_str (pv 2) (pps_cons pe_str pe_int pps_nil))) rfl rfl (by simp) (by decide)))))), ?_⟩
    refine ⟨by show 0 ≤ sizeLine; decide, fun m hm => ?_⟩
    have s1 : Same H (upd H m (.lst [])) := Same.new hm
    refine ⟨_, rfl, a, _, rfl, .inl (Same.seq s1 ha), _, _, rfl, rfl, _, _, rfl, ?_⟩
    refine ⟨_, rfl, 60, rfl, a, ns.map V.int, rfl, Same.seq s1 ha, fun q hq => ?_⟩
    have ec : cutV (ns.map V.int) none (some (60 : Int)) = (ns.map V.int).take 60 := cutV_first _ 60
    rw [ec]
    have hqm : q ≠ m := fun e => by rw [e, upd_same] at hq; cases hq
    have cl : ((ns.map V.int).take 60).length ≤ 60 := by rw [List.length_take]; omega
    refine ⟨q, rfl, ⟨_, SqL.of upd_same⟩, for_list (K := K) (a := q) (xs := (ns.map V.int).take 60) (fun i σ H' => ∃ (o : Option V) (mx : Int) (gs : List Int), σ = [some (.ref a), some (.ref m), some (.int mx), o] ∧ Same H H' ∧ H' q = some (.lst ((ns.map V.int).take 60)) ∧ H' m = some (.lst (gs.map V.int)) ∧ gs.length ≤ i)
      ⟨none, _, [], rfl, s1.trans (Same.new hq), upd_same, by rw [upd_ne (Ne.symm hqm)]; exact upd_same, Nat.le_refl _⟩ (fun i σ H' _ ⟨_, _, _, _, _, h, _⟩ => SqL.of h) ?_ ?_⟩
    · rintro i x σ H' hx ⟨o, mx, gs, rfl, s2, eq, em, gl⟩
      have hil := (List.getElem?_eq_some_iff.mp hx).1
      obtain ⟨z, hz1, rfl⟩ : ∃ z, z ∈ ns ∧ x = .int z := by
        have := List.mem_of_mem_take (List.mem_of_getElem? hx)
        obtain ⟨z, h1, h2⟩ := List.mem_map.mp this
        exact ⟨z, h1, h2.symm⟩
      refine ⟨_, rfl, _, _, rfl, rfl, .inr ⟨by decide, by decide⟩, _, rfl, _, _, rfl, rfl, .inl ⟨_, rfl, _, _, rfl, rfl, by show (0 : Int) < 2147483647; decide, ?_⟩⟩
      refine ⟨_, rfl, _, rfl, _, _, rfl, rfl, ⟨by decide, by decide, by decide⟩, _, _, rfl, rfl, _, rfl, ?_⟩
      by_cases c : (10 : Int) ^ (12 : Int).toNat < (if z < 0 then -z else z)
      · rw [decide_eq_true c]
        refine iteT ⟨_, rfl, .inl ⟨rfl, _, SqL.of em⟩, _, rfl, _, rfl, _, _, rfl, rfl, .inl ⟨by decide, by decide⟩, _, rfl, _, _, rfl, rfl, .inr ⟨_, rfl, _, _, rfl, rfl, m, _, _, rfl, rfl, em, size_lt (by rw [List.length_map]; omega), some (.int z), _, gs ++ [2 * (if z < 0 then -z else z) + (if decide (z < 0) = true then 1 else 0)], rfl, s2.up hm, ?_, ?_, ?_⟩⟩
        · rw [upd_ne hqm]; exact eq
        · rw [upd_same, List.map_append]; rfl
        · (rw [List.length_append, List.length_singleton]; omega)
      · rw [decide_eq_false c]
        exact iteF ⟨some (.int z), _, gs, rfl, s2, eq, em, by omega⟩
    · rintro σ H' ⟨o, mx, gs, rfl, s2, eq, em, gl⟩
      refine fun p hp => ⟨_, rfl, _, rfl, upd_same, bagD m mx 0, rfl, by show 3 ≤ 15; decide, ?_⟩
      rw [merge_bag]
      have sp : Same H' (upd H' p (.dK [])) := Same.new hp
      refine k p m _ ⟨gs, mx, 0, upd_same, ?_⟩ ?_
      · rw [upd_ne (ne_of_none em hp), upd_ne (ne_of_none em hp)]; exact em
      · intro c o hc
        have h1 := s2 _ _ hc
        refine rest_at.mpr ⟨ne_of_none h1 hp, ne_of_none hc hm, ?_⟩
        rw [upd_ne (ne_of_none h1 hp), upd_ne (ne_of_none h1 hp)]
        exact h1
end
end K23
namespace K23
open PySem PyProof.Rows PySem.Spec L2
theorem btns_leaves : ∀ row : List Int, btns (row.map Tr.leaf) = row
  | [] => by rw [List.map_nil, btns]
  | a :: r => by rw [List.map_cons, btns, btn_leaf, btns_leaves r]; rfl
theorem tvs_leaves {K : PySem.W.Frag} {H : Hp} : ∀ row : List Int, TVs K H (row.map V.int) (row.map Tr.leaf)
  | [] => TVs.nil
  | a :: r => TVs.cons (tv_leaf.mpr rfl) (tvs_leaves r)
theorem leaves_ok {k : Int} {row : List Int} (h1 : 1 ≤ k) (h2 : k ≤ (row.length : Int)) : (Tr.node k (row.map Tr.leaf)).ok ∧ (Tr.node k (row.map Tr.leaf)).btn = row ∧ (Tr.node k (row.map Tr.leaf)).dep ≤ 1 := by
  refine ⟨?_, by rw [btn_node, btns_leaves], ?_⟩
  · rw [Tr.ok, okA_iff]
    refine ⟨h1, by rw [List.length_map]; exact h2, fun p hp => ?_⟩
    obtain ⟨a, _, rfl⟩ := List.mem_map.mp hp
    rw [Tr.ok]; trivial
  · rw [Tr.dep]
    have : depA (row.map Tr.leaf) ≤ 0 := depA_le.mpr fun p hp => by
      obtain ⟨a, _, rfl⟩ := List.mem_map.mp hp
      rw [Tr.dep]; exact Nat.le_refl _
    omega
theorem cutV_drop (xs : List V) (n : Nat) (h : n ≤ xs.length) : cutV xs (some (n : Int)) none = xs.drop n := by
  unfold cutV
  rw [HT.sIx_none, HT.sIx_nat, Nat.min_eq_left h, List.take_of_length_le (by rw [List.length_drop]; omega)]
theorem seqIfN_of {c : TT} {t u : TS} {D : Ends} {σ : L2.St} {H : Hp} (PT PP : Hp → Prop) (hc : ∀ R : Bool → Hp → Prop, (∀ H', PT H' → R true H') → (∀ H', PP H' → R false H') → c σ H R) (ht : ∀ H', PT H' → t { D with nx := u D } σ H') (hr : ∀ H', PP H' → u D σ H') : tSeq (tIfS c t tNext) u D σ H :=
  hc _ (fun H' p => iteT (ht H' p)) (fun H' p => iteF (hr H' p))
theorem seqAsgP_of {te : TE} {g : TG} {u : TS} {D : Ends} {σ : L2.St} {H : Hp} (P : V → Hp → Prop) (h : ∀ Q : VK, (∀ v H', P v H' → Q v H') → te σ H Q) (k : ∀ v H', P v H' → g v σ H' (u D)) : tSeq (tAsg te g) u D σ H := h _ k
theorem bag_mid {b g : Addr} {H H' : Hp} (B : Bag b g H) (s : Same H H') : Bag b g H' ∧ Same (rest b g H) (rest b g H') := ⟨B.mono s, rest_mono s⟩
theorem node_mk {k : Int} {ps : List Tr} {row : List Int} {d : Nat} (h1 : 1 ≤ k) (h2 : k ≤ (ps.length : Int)) (h3 : ∀ p ∈ ps, p.ok ∧ p.dep ≤ d + 1) (h4 : btns ps = row) : (Tr.node k ps).ok ∧ (Tr.node k ps).btn = row ∧ (Tr.node k ps).dep ≤ d + 1 + 1 := by
  refine ⟨?_, by rw [btn_node, h4], ?_⟩
  · rw [Tr.ok, okA_iff]
    exact ⟨h1, h2, fun p hp => (h3 p hp).1⟩
  · rw [Tr.dep]
    have := depA_le.mpr fun p hp => (h3 p hp).2
    omega
section
variable {w : World} {P : Program} {K : PySem.W.Frag} {base : Heap} {mg : Str → Option Value}
/-! ### _law_tree: slots _law_bag_here 0, _law_row 1, _law_deep 2, _law_many 3, _law_rest 4, _law_found 5, _law_turn 6, _law_size 7 -/
def spTree (K : PySem.W.Frag) (d : Nat) : Sp := fun vs H Q _ => ∃ (b g r : Addr) (row : List Int), vs = [.ref b, .ref r, .int (d : Int)] ∧ Bag b g H ∧ rest b g H r = some (.lst (row.map V.int)) ∧ 1 ≤ row.length ∧ row.length ≤ 24 ∧
  ∀ (v : V) (t : Tr) (H' : Hp), Bag b g H' → Same (rest b g H) (rest b g H') → TV K (rest b g H') v t → t.ok → t.btn = row → t.dep ≤ d + 1 → Q v H'
theorem sc_law_tree : FnScope ["_law_bag_here", "_law_row", "_law_deep", "_law_many", "_law_rest", "_law_found", "_law_turn", "_law_size"] ["_law_bag_here", "_law_row", "_law_deep"] (defScope (topS 29)) := ⟨rfl, rfl, rfl, by decide +kernel, rfl, by decide +kernel, by decide +kernel⟩
theorem c_law_tree (T : Txt K mg) : ∀ d : Nat, Cal P w K mg base (d + 3) "_law_tree" ["_law_bag_here", "_law_row", "_law_deep"] (spTree K d) := by
  intro d
  induction d with
  | zero =>
    refine Cal.mk' T.d_law_tree sc_law_tree (fun _ _ _ _ _ _ us hl => match us, hl with | [_, _, _], _ => rfl) (fun vs H Q E h => ?_) (fun f cdv A outer s H vs Q E hr h => ?_)
    · obtain ⟨_, _, _, _, rfl, _⟩ := h; rfl
    · obtain ⟨b, g, r, row, rfl, B, er, h1, h24, k⟩ := h
      refine ⟨_, (pss_cons (ps_if (PW.pt (pw_or (pt_cmpR op_eq (pv 2) pe_int (nomark _)) (pw_or1 (PW.pt (pw_and (pt_cmpR op_eq (pe_callB call_len_seq (by rfl) T.n_len boot_len (pa_cons (pv 1) pa_nil)) pe_int (nomark _)) (pw_and1 (pt_cmpR op_gt (pc (c_law_draw T) hr (by decide) (by rfl) (pa_cons (pv 0) (pa_cons pe_int pa_nil))) pe_int (nomark _)))))))) (pss_one (ps_ret (pe_ifExp (pt_cmpR op_eq (pe_callB call_len_seq (by rfl) T.n_len boot_len (pa_cons (pv 1) pa_nil)) pe_int (nomark _)) (pe_ix ix_list (pv 1) pe_int (fun _ _ => rfl)) (pe_tup (pa_cons (pe_op op_add pe_int (pc (c_law_draw T) hr (by decide) (by rfl) (pa_cons (pv 0) (pa_cons (pe_callB call_len_seq (by rfl) T.n_len boot_len (pa_cons (pv 1) pa_nil)) pa_nil)))) (pa_cons (pe_tupleOf (by rfl) T.n_tuple (pv 1)) pa_nil)))))) pss_nil) pss_never), ?_⟩
      (refine ⟨_, rfl, rfl, _, rfl, ?_⟩)
      rw [dec_i, decide_eq_true (by rfl)]
      refine iteT (iteT ?_)
      have el := rest_get er
      refine ⟨_, rfl, r, _, rfl, .inl (SqL.of el), rfl, _, rfl, ?_⟩
      rw [dec_i, List.length_map]
      by_cases c : row.length = 1
      · rw [decide_eq_true (by omega)]
        obtain ⟨a, rfl⟩ := List.length_eq_one_iff.mp c
        exact iteT ⟨_, rfl, r, _, 0, .int a, rfl, rfl, SqL.of el, atI_nat (j := 0) rfl, k (.int a) (.leaf a) H B (Same.refl _) (tv_leaf.mpr rfl) (by rw [Tr.ok]; trivial) btn_leaf (by rw [Tr.dep]; omega)⟩
      · rw [decide_eq_false (by omega)]
        refine iteF ⟨_, rfl, _, rfl, r, _, rfl, .inl (SqL.of el), b, g, _, rfl, B, by rw [List.length_map]; omega, by rw [List.length_map]; omega, fun x H1 d0 d1 B1 s1 => ?_⟩
        rw [List.length_map] at d1
        have el1 := rest_get (s1 _ _ er)
        refine ⟨_, _, rfl, rfl, _, rfl, .inl ⟨r, _, rfl, SqL.of el1, fun q hq => ⟨by show 2 ≤ sizeLine; decide, fun p hp => ?_⟩⟩⟩
        have sq := (Same.new (o := .tup (row.map V.int)) hq).trans (Same.new (o := .tup [V.int (1 + x), .ref q]) hp)
        obtain ⟨o1, o2, o3⟩ := leaves_ok (k := 1 + x) (row := row) (by omega) (by omega)
        refine k _ (.node (1 + x) (row.map Tr.leaf)) _ (B1.mono sq) (s1.trans (rest_mono sq)) ((B1.mono sq).tv _ _ ?_) o1 o2 o3
        refine tv_node.mpr ⟨p, q, _, rfl, SqT.of upd_same, SqT.of ?_, tvs_leaves row⟩
        rw [upd_ne (ne_of_none upd_same hp)]
        exact upd_same
  | succ d ih =>
    refine Cal.mk' T.d_law_tree sc_law_tree (fun _ _ _ _ _ _ us hl => match us, hl with | [_, _, _], _ => rfl) (fun vs H Q E h => ?_) (fun f cdv A outer s H vs Q E hr h => ?_)
    · obtain ⟨_, _, _, _, rfl, _⟩ := h; rfl
    · obtain ⟨b, g, r, row, rfl, B, er, h1, h24, k⟩ := h
      refine ⟨_, (pss_cons (ps_if (PW.pt (pw_or (pt_cmpR op_eq (pv 2) pe_int (nomark _)) (pw_or1 (PW.pt (pw_and (pt_cmpR op_eq (pe_callB call_len_seq (by rfl) T.n_len boot_len (pa_cons (pv 1) pa_nil)) pe_int (nomark _)) (pw_and1 (pt_cmpR op_gt (pc (c_law_draw T) hr (by omega) (by rfl) (pa_cons (pv 0) (pa_cons pe_int pa_nil))) pe_int (nomark _)))))))) (pss_one (ps_ret (pe_ifExp (pt_cmpR op_eq (pe_callB call_len_seq (by rfl) T.n_len boot_len (pa_cons (pv 1) pa_nil)) pe_int (nomark _)) (pe_ix ix_list (pv 1) pe_int (fun _ _ => rfl)) (pe_tup (pa_cons (pe_op op_add pe_int (pc (c_law_draw T) hr (by omega) (by rfl) (pa_cons (pv 0) (pa_cons (pe_callB call_len_seq (by rfl) T.n_len boot_len (pa_cons (pv 1) pa_nil)) pa_nil)))) (pa_cons (pe_tupleOf (by rfl) T.n_tuple (pv 1)) pa_nil)))))) pss_nil)
        (pss_cons (ps_par3 (i := 3) (j := 4) (l := 5) rfl sc_law_tree.nd rfl rfl rfl (by decide) (by decide) (by decide) rfl rfl rfl (pa_cons (pe_callB (call_min2 rfl) (by rfl) T.n_min boot_min (pa_cons (pe_callB call_len_seq (by rfl) T.n_len boot_len (pa_cons (pv 1) pa_nil)) (pa_cons (pc (c_law_pick T) hr (by omega) (by rfl) (pa_cons (pv 0) (pa_cons (pe_lst (pa_cons pe_int (pa_cons pe_int (pa_cons pe_int (pa_cons pe_int (pa_cons pe_int (pa_cons pe_int (pa_cons pe_int pa_nil)))))))) pa_nil))) pa_nil))) (pa_cons (pe_callTy call_list_of (by rfl) T.n_list boot_list (pa_cons (pv 1) pa_nil)) (pa_cons (pe_lst pa_nil) pa_nil))) (by rfl))
        (pss_cons (ps_for PassesOwn.never rfl (pi_range1 (by rfl) T.n_range (pa_cons (pv 3) pa_nil)) (pg_name (i := 6) sc_law_tree.nd rfl (Or.inl rfl))
          (pss_cons (ps_set (i := 7) sc_law_tree.nd rfl (Or.inl rfl) (pe_ifExp (pt_cmpR op_eq (pv 6) (pe_op op_sub (pv 3) pe_int) (nomark _)) (pe_callB call_len_seq (by rfl) T.n_len boot_len (pa_cons (pv 4) pa_nil)) (pe_op op_add pe_int (pc (c_law_draw T) hr (by omega) (by rfl) (pa_cons (pv 0) (pa_cons (pe_op op_add (pe_op op_add (pe_op op_sub (pe_callB call_len_seq (by rfl) T.n_len boot_len (pa_cons (pv 4) pa_nil)) (pv 3)) (pv 6)) pe_int) pa_nil))))))
            (pss_cons (ps_expr (pe_bm PySem.F.plainAttrs_list PySem.F.slot_list_append PySem.F.type_list_append mt_append (pv 5) (pa_cons (pc ih hr (by omega) (by rfl) (pa_cons (pv 0) (pa_cons (pe_slice sl_list (pv 4) po_none (po_some (pv 7))) (pa_cons (pe_op op_sub (pv 2) pe_int) pa_nil)))) pa_nil)))
            (pss_one (ps_set (i := 4) sc_law_tree.nd rfl (Or.inl rfl) (pe_slice sl_list (pv 4) (po_some (pv 7)) po_none))))))
        (pss_one (ps_ret (pe_tup (pa_cons (pe_op op_add pe_int (pc (c_law_draw T) hr (by omega) (by rfl) (pa_cons (pv 0) (pa_cons (pv 3) pa_nil)))) (pa_cons (pe_tupleOf (by rfl) T.n_tuple (pv 5)) pa_nil)))))))), ?_⟩
      refine seqIfN_of (fun H' => Bag b g H' ∧ Same (rest b g H) (rest b g H') ∧ row.length = 1) (fun H' => Bag b g H' ∧ Same (rest b g H) (rest b g H')) ?_ ?_ ?_
      · intro R hT hF
        (refine ⟨_, rfl, rfl, _, rfl, ?_⟩)
        rw [dec_i, decide_eq_false (by omega)]
        refine iteF ⟨_, rfl, r, _, rfl, .inl (SqL.of (rest_get er)), rfl, _, rfl, ?_⟩
        rw [dec_i, List.length_map]
        by_cases c : row.length = 1
        · rw [decide_eq_true (by omega)]
          refine iteT ⟨_, rfl, b, g, 5, rfl, B, by decide, by decide, fun x H1 d0 d1 B1 s1 => ⟨_, _, rfl, rfl, _, rfl, ?_⟩⟩
          by_cases hx : (0 : Int) < x
          · rw [decide_eq_true hx]; exact hT _ ⟨B1, s1, c⟩
          · rw [decide_eq_false hx]; exact hF _ ⟨B1, s1⟩
        · rw [decide_eq_false (by omega)]
          exact iteF (hF _ ⟨B, Same.refl _⟩)
      · rintro H1 ⟨B1, s1, c⟩
        have el := rest_get (s1 _ _ er)
        refine ⟨_, rfl, r, _, rfl, .inl (SqL.of el), rfl, _, rfl, ?_⟩
        rw [dec_i, List.length_map, decide_eq_true (by omega)]
        obtain ⟨a, rfl⟩ := List.length_eq_one_iff.mp c
        exact iteT ⟨_, rfl, r, _, 0, .int a, rfl, rfl, SqL.of el, atI_nat (j := 0) rfl, k (.int a) (.leaf a) H1 B1 s1 (tv_leaf.mpr rfl) (by rw [Tr.ok]; trivial) btn_leaf (by rw [Tr.dep]; omega)⟩
      · rintro H1 ⟨B1, s1⟩
        have er1 := s1 _ _ er
        refine ⟨_, rfl, r, _, rfl, .inl (SqL.of (rest_get er1)), _, rfl, by show 7 ≤ sizeLine; decide, fun p hp => ?_⟩
        obtain ⟨B2, s2⟩ := bag_mid B1 (Same.new (o := .lst [V.int 1, .int 2, .int 2, .int 3, .int 3, .int 4, .int 5]) hp)
        refine ⟨b, g, p, _, rfl, B2, B1.new hp upd_same, by show 1 ≤ 7; decide, by show 7 ≤ 100000; decide, fun ix v H2 hv B3 s3 => ?_⟩
        obtain ⟨c, rfl, c1, c5⟩ : ∃ c : Int, v = .int c ∧ 1 ≤ c ∧ c ≤ 5 := by
          have := List.mem_of_getElem? hv
          simp only [List.mem_cons, List.not_mem_nil, or_false] at this
          rcases this with h | h | h | h | h | h | h <;> exact ⟨_, h, by decide, by decide⟩
        refine ⟨_, _, rfl, ?_⟩
        rw [List.length_map]
        have s13 := (s1.trans s2).trans s3
        have er3 := s13 _ _ er
        obtain ⟨M, hM, M1, M2⟩ : ∃ M : Nat, (if c < ((row.length : Nat) : Int) then c else ((row.length : Nat) : Int)) = (M : Int) ∧ 1 ≤ M ∧ M ≤ row.length := by
          by_cases h : c < ((row.length : Nat) : Int)
          · rw [if_pos h]
            exact ⟨c.toNat, by omega, by omega, by omega⟩
          · rw [if_neg h]
            exact ⟨row.length, rfl, h1, Nat.le_refl _⟩
        rw [hM]
        refine ⟨_, rfl, r, _, rfl, .inl (SqL.of (rest_get er3)), fun l2 hl2 => ⟨by show 0 ≤ sizeLine; decide, fun m hm => ⟨_, _, _, rfl, ?_⟩⟩⟩
        have s4 : Same H2 (upd (upd H2 l2 (.lst (row.map V.int))) m (.lst [])) := (Same.new hl2).trans (Same.new hm)
        have hm0 : H2 m = none := (Same.new hl2).free hm
        have hlm : l2 ≠ m := fun e => by rw [← e, upd_same] at hm; cases hm
        have el2 : upd (upd H2 l2 (.lst (row.map V.int))) m (.lst []) l2 = some (.lst (row.map V.int)) := by rw [upd_ne hlm]; exact upd_same
        have em : upd (upd H2 l2 (.lst (row.map V.int))) m (.lst []) m = some (.lst []) := upd_same
        obtain ⟨B4, s4'⟩ := bag_mid B3 s4
        have el2' := B3.new hl2 el2
        have em' := B3.new hm0 em
        have hmH : H m = none := bag_free B3 s13 hm0
        have s14 := s13.trans s4'
        generalize upd (upd H2 l2 (.lst (row.map V.int))) m (.lst []) = G at *
        refine ⟨_, rfl, _, rfl, by omega, by omega, ?_⟩
        rw [Int.toNat_natCast]
        refine for_range (lo := 0) (n := M) (fun i σ H' => ∃ (o6 o7 : Option V) (lr : Addr) (rem : List Int) (xs : List V) (ps : List Tr), σ = [some (.ref b), some (.ref r), some (.int ((d + 1 : Nat) : Int)), some (.int (M : Int)), some (.ref lr), some (.ref m), o6, o7] ∧
            Bag b g H' ∧ Same (rest b g H) (rest b g H') ∧ rest b g H' lr = some (.lst (rem.map V.int)) ∧ rest b g H' m = some (.lst xs) ∧ lr ≠ m ∧ TVs K (rest b g H') xs ps ∧ btns ps ++ rem = row ∧ ps.length = i ∧ M ≤ i + rem.length ∧ (i = M → rem = []) ∧ (∀ p ∈ ps, p.ok ∧ p.dep ≤ d + 1))
          ⟨none, none, l2, row, [], [], rfl, B4, s14, el2', em', hlm, TVs.nil, by rw [btns]; rfl, rfl, by omega, fun h => by omega, fun p hp => by cases hp⟩ ?_ ?_
        · rintro i σ H' hi ⟨o6, o7, lr, rem, xs, ps, rfl, B5, s5, elr, em5, hne, hxs, hrow, hpl, hMr, _, hps⟩
          have hz : (0 : Int) + (i : Int) = (i : Int) := Int.zero_add _
          rw [hz]
          have rpos : 1 ≤ rem.length := by omega
          have rl : rem.length ≤ row.length := by rw [← hrow, List.length_append]; omega
          refine seqAsgP_of (fun v H6 => ∃ sz : Nat, v = .int (sz : Int) ∧ 1 ≤ sz ∧ sz ≤ rem.length ∧ (i + 1 = M → sz = rem.length) ∧ M ≤ i + 1 + (rem.length - sz) ∧ Bag b g H6 ∧ Same (rest b g H') (rest b g H6)) ?_ ?_
          · intro R hR
            refine ⟨_, rfl, _, rfl, _, _, rfl, rfl, rfl, _, rfl, ?_⟩
            rw [dec_i]
            by_cases ce : i + 1 = M
            · rw [decide_eq_true (by omega)]
              refine iteT ⟨_, rfl, lr, _, rfl, .inl (SqL.of (rest_get elr)), ?_⟩
              rw [List.length_map]
              exact hR _ _ ⟨rem.length, rfl, rpos, Nat.le_refl _, fun _ => rfl, by omega, B5, Same.refl _⟩
            · rw [decide_eq_false (by omega)]
              refine iteF ⟨_, rfl, _, rfl, lr, _, rfl, .inl (SqL.of (rest_get elr)), _, rfl, _, _, rfl, rfl, _, rfl, _, _, rfl, rfl, _, _, rfl, rfl, b, g, _, rfl, B5, by rw [List.length_map]; omega, by rw [List.length_map]; omega, fun x H6 d0 d1 B6 s6 => ⟨_, _, rfl, rfl, ?_⟩⟩
              rw [List.length_map] at d1
              obtain ⟨x, rfl⟩ := Int.eq_ofNat_of_zero_le d0
              exact hR _ _ ⟨1 + x, by rw [Int.natCast_add]; rfl, by omega, by omega, fun h => by omega, by omega, B6, s6⟩
          · rintro v H6 ⟨sz, rfl, z1, z2, z3, z4, B6, s6⟩
            have elr6 := s6 _ _ elr
            have em6 := s6 _ _ em5
            refine ⟨_, rfl, .inl ⟨rfl, _, SqL.of (rest_get em6)⟩, _, rfl, _, rfl, _, rfl, _, rfl, lr, _, rfl, SqL.of (rest_get elr6), fun q hq => ?_⟩
            rw [cutV_first, ← List.map_take] at *
            obtain ⟨B7, s7⟩ := bag_mid B6 (Same.new (o := .lst ((rem.take sz).map V.int)) hq)
            refine ⟨_, rfl, _, _, rfl, rfl, b, g, q, rem.take sz, ?_, B7, B6.new hq upd_same, by rw [List.length_take]; omega, ?_, fun v t H8 B8 s8 tv ok bt dp => ?_⟩
            · have : (((d + 1 : Nat) : Int)) - 1 = (d : Int) := by omega
              show [V.ref b, .ref q, .int (((d + 1 : Nat) : Int) - 1)] = _
              rw [this]
            · have : rem.length ≤ row.length := by rw [← hrow, List.length_append]; omega
              rw [List.length_take]; omega
            have s68 := s7.trans s8
            have elr8 := s68 _ _ elr6
            obtain ⟨mb, mg', em8⟩ := rest_at.mp (s68 _ _ em6)
            have xlen := hxs.len
            refine ⟨m, xs, v, rfl, rfl, em8, size_lt (by omega), ?_⟩
            have elr9 : upd H8 m (.lst (xs ++ [v])) lr = some (.lst (rem.map V.int)) := by rw [upd_ne hne]; exact rest_get elr8
            refine ⟨_, rfl, _, rfl, _, rfl, lr, _, rfl, SqL.of elr9, fun q2 hq2 => ?_⟩
            rw [cutV_drop _ _ (by rw [List.length_map]; omega), ← List.map_drop] at *
            have B9 := B8.upd (o := .lst (xs ++ [v])) mb mg'
            have em9 : rest b g (upd H8 m (.lst (xs ++ [v]))) m = some (.lst (xs ++ [v])) := by rw [rest_upd mb mg']; exact upd_same
            have s9 : Same (rest b g H) (rest b g (upd H8 m (.lst (xs ++ [v])))) := by
              rw [rest_upd mb mg']
              exact (((s5.trans s6).trans s68)).up (rest_none hmH)
            have t9 : TVs K (rest b g (upd H8 m (.lst (xs ++ [v])))) (xs ++ [v]) (ps ++ [t]) := by
              rw [rest_upd mb mg']
              exact tvs_upd (s68 _ _ em6) (((hxs.mono s6).mono s68).append (TVs.cons tv TVs.nil))
            generalize upd H8 m (.lst (xs ++ [v])) = G9 at *
            obtain ⟨B10, s10⟩ := bag_mid B9 (Same.new (o := .lst ((rem.drop sz).map V.int)) hq2)
            refine ⟨some (.int (i : Int)), some (.int (sz : Int)), q2, rem.drop sz, xs ++ [v], ps ++ [t], rfl, B10, s9.trans s10, B9.new hq2 upd_same, s10 _ _ em9, ?_, t9.mono s10, ?_, by rw [List.length_append, hpl]; rfl, by rw [List.length_drop]; omega, ?_, ?_⟩
            · intro e
              have := rest_get em9
              rw [← e, hq2] at this
              cases this
            · rw [btns_append, btns, btns, List.append_nil, bt, ← hrow, List.append_assoc, List.take_append_drop]
            · intro e
              rw [z3 e]
              exact List.drop_of_length_le (Nat.le_refl _)
            · intro p hp
              (rcases List.mem_append.mp hp with hp | hp)
              · exact hps p hp
              · rw [List.mem_singleton] at hp
                rw [hp]; exact ⟨ok, dp⟩
        · rintro σ H' ⟨o6, o7, lr, rem, xs, ps, rfl, B5, s5, elr, em5, hne, hxs, hrow, hpl, hMr, hend, hps⟩
          rw [hend rfl, List.append_nil] at hrow
          refine ⟨_, rfl, _, rfl, b, g, _, rfl, B5, by omega, by omega, fun x H6 d0 d1 B6 s6 => ?_⟩
          have em6 := s6 _ _ em5
          refine ⟨_, _, rfl, rfl, _, rfl, .inl ⟨m, xs, rfl, SqL.of (rest_get em6), fun q hq => ⟨by show 2 ≤ sizeLine; decide, fun p hp => ?_⟩⟩⟩
          have sq := (Same.new (o := .tup xs) hq).trans (Same.new (o := .tup [V.int (1 + x), .ref q]) hp)
          obtain ⟨B7, s7⟩ := bag_mid B6 sq
          obtain ⟨o1, o2, o3⟩ := node_mk (k := 1 + x) (by omega) (by omega) hps hrow
          refine k _ (.node (1 + x) ps) _ B7 ((s5.trans s6).trans s7) (B7.tv _ _ ?_) o1 o2 o3
          refine tv_node.mpr ⟨p, q, xs, rfl, SqT.of upd_same, SqT.of ?_, (hxs.mono s6).mono (s7.trans rest_same)⟩
          rw [upd_ne (ne_of_none upd_same hp)]
          exact upd_same
end
end K23
namespace K23
open PySem PyProof.Rows PySem.Spec L2
theorem tvs_perm {K : PySem.W.Frag} {H : Hp} {ys xs : List V} (h : ys.Perm xs) : ∀ {ps : List Tr}, TVs K H xs ps → ∃ qs : List Tr, qs.Perm ps ∧ TVs K H ys qs := by
  induction h with
  | nil => intro ps t; exact ⟨ps, List.Perm.refl _, t⟩
  | cons x _ ih =>
    intro ps t
    cases ps with
    | nil => have := t.of_nil; cases this
    | cons p ps =>
      obtain ⟨v, r, e, t1, t2⟩ := t.uncons
      injection e with e1 e2
      subst e1 e2
      obtain ⟨qs, q1, q2⟩ := ih t2
      exact ⟨p :: qs, q1.cons p, TVs.cons t1 q2⟩
  | swap x y l =>
    intro ps t
    cases ps with
    | nil => have := t.of_nil; cases this
    | cons p ps =>
      cases ps with
      | nil =>
        obtain ⟨v, r, e, t1, t2⟩ := t.uncons
        have := t2.of_nil
        subst this
        cases e
      | cons p2 ps =>
        obtain ⟨v, r, e, t1, t2⟩ := t.uncons
        obtain ⟨v2, r2, e2, t3, t4⟩ := t2.uncons
        subst e2
        injection e with e1 e3
        injection e3 with e4 e5
        subst e1 e4 e5
        exact ⟨p2 :: p :: ps, List.Perm.swap _ _ _, TVs.cons t3 (TVs.cons t1 t4)⟩
  | trans _ _ ih1 ih2 =>
    intro ps t
    obtain ⟨qs, q1, q2⟩ := ih2 t
    obtain ⟨rs, r1, r2⟩ := ih1 q2
    exact ⟨rs, r1.trans q1, r2⟩
/-- a part of the bounds -/
theorem cutV_mid (xs : List V) (s e : Nat) (hs : s ≤ 1) (he : e ≤ 1) (h : s + e < xs.length) : (∀ x ∈ cutV xs (some (s : Int)) (some ((xs.length : Int) - (e : Int))), x ∈ xs) ∧ 1 ≤ (cutV xs (some (s : Int)) (some ((xs.length : Int) - (e : Int)))).length := by
  have e1 : (xs.length : Int) - (e : Int) = ((xs.length - e : Nat) : Int) := by omega
  rw [e1]
  unfold cutV
  rw [HT.sIx_nat, HT.sIx_nat]
  refine ⟨fun x hx => List.mem_of_mem_drop (List.mem_of_mem_take hx), ?_⟩
  (rw [List.length_take, List.length_drop])
  omega
theorem b2n (c : Prop) [Decidable c] : (if decide c = true then (1 : Int) else 0) = (((if c then 1 else 0) : Nat) : Int) := by
  by_cases h : c
  · rw [decide_eq_true h, if_pos rfl, if_pos h]; rfl
  · rw [decide_eq_false h, if_neg Bool.false_ne_true, if_neg h]; rfl
theorem rgV_mem {a b : Int} {v : V} (h : v ∈ rgV a b) : ∃ x : Int, v = .int x ∧ a ≤ x ∧ x < b := by
  unfold rgV at h
  (obtain ⟨i, hi, rfl⟩ := List.mem_map.mp h)
  rw [List.mem_range] at hi
  exact ⟨_, rfl, by omega, by omega⟩
section
variable {w : World} {P : Program} {K : PySem.W.Frag} {base : Heap} {mg : Str → Option Value}
/-! ### _law_long: slots _law_bag_here 0, _law_row 1, _law_rest 2, _law_found 3, _law_left 4, _law_least 5, _law_size 6, _law_parts 7, _law_bounds 8 -/
def Fnd (K : PySem.W.Frag) (G : Hp) (row : List Int) (L : Nat) (fv : V) (rem : List Int) : Prop :=
  (fv = .non ∧ rem = row ∧ L = 12) ∨ (fv ≠ .non ∧ ∃ (k : Int) (ps : List Tr), TV K G fv (.node k ps) ∧ (Tr.node k ps).ok ∧ 2 ≤ ps.length ∧ (Tr.node k ps).dep + L ≤ 12 ∧ (btns ps ++ rem).Perm row)
def spLong (K : PySem.W.Frag) : Sp := fun vs H Q _ => ∃ (b g r : Addr) (row : List Int), vs = [.ref b, .ref r] ∧ Bag b g H ∧ rest b g H r = some (.lst (row.map V.int)) ∧ 2 ≤ row.length ∧ row.length ≤ 24 ∧
  ∀ (v : V) (t : Tr) (H' : Hp), Bag b g H' → Same (rest b g H) (rest b g H') → TV K (rest b g H') v t → t.ok → t.btn.Perm row → t.dep ≤ 12 → Q v H'
theorem sc_law_long : FnScope ["_law_bag_here", "_law_row", "_law_rest", "_law_found", "_law_left", "_law_least", "_law_size", "_law_parts", "_law_bounds"] ["_law_bag_here", "_law_row"] (defScope (topS 43)) := ⟨rfl, rfl, rfl, by decide +kernel, rfl, by decide +kernel, by decide +kernel⟩
theorem c_law_long (T : Txt K mg) : Cal P w K mg base 3 "_law_long" ["_law_bag_here", "_law_row"] (spLong K) := by
  refine Cal.mk' T.d_law_long sc_law_long (fun _ _ _ _ _ _ us hl => match us, hl with | [_, _], _ => rfl) (fun vs H Q E h => ?_) (fun f cdv A outer s H vs Q E hr h => ?_)
  · obtain ⟨_, _, _, _, rfl, _⟩ := h; rfl
  · obtain ⟨b, g, r, row, rfl, B, er, h2, h24, k⟩ := h
    refine ⟨_, (pss_cons (ps_par3 (i := 2) (j := 3) (l := 4) rfl sc_law_long.nd rfl rfl rfl (by decide) (by decide) (by decide) rfl rfl rfl (pa_cons (pe_callTy call_list_of (by rfl) T.n_list boot_list (pa_cons (pv 1) pa_nil)) (pa_cons pe_non (pa_cons pe_int pa_nil))) (by rfl))
        (pss_cons (ps_while PassesOwn.never (pt_cmpR (op_neD hr.units) (pv 2) (pe_lst pa_nil) (nomark _))
          (pss_cons (ps_set (i := 5) sc_law_long.nd rfl (Or.inl rfl) (pe_callB (call_max2 rfl) (by rfl) T.n_max boot_max (pa_cons (pe_ifExp (pt_cmpR op_isN (pv 3) pe_non (nomark _)) pe_int pe_int) (pa_cons (pe_op op_fdiv (pe_op op_sub (pe_op op_add (pe_callB call_len_seq (by rfl) T.n_len boot_len (pa_cons (pv 2) pa_nil)) (pv 4)) pe_int) (pv 4)) pa_nil))))
            (pss_cons (ps_set (i := 6) sc_law_long.nd rfl (Or.inl rfl) (pe_callB (call_min2 rfl) (by rfl) T.n_min boot_min (pa_cons (pe_callB call_len_seq (by rfl) T.n_len boot_len (pa_cons (pv 2) pa_nil)) (pa_cons (pe_op op_add (pv 5) (pc (c_law_draw T) hr (by decide) (by rfl) (pa_cons (pv 0) (pa_cons pe_int pa_nil)))) pa_nil))))
            (pss_cons (ps_set (i := 7) sc_law_long.nd rfl (Or.inl rfl) (pe_op op_cat (pe_slice sl_list (pv 2) po_none (po_some (pv 6))) (pe_ifExp (pt_cmpR op_isN (pv 3) pe_non (nomark _)) (pe_lst pa_nil) (pe_lst (pa_cons (pv 3) pa_nil)))))
            (pss_cons (ps_set (i := 8) sc_law_long.nd rfl (Or.inl rfl) (pe_listRg rfl (by rfl) T.n_list (prg_2 (by rfl) T.n_range pe_int (pe_op op_add (pe_callB call_len_seq (by rfl) T.n_len boot_len (pa_cons (pv 7) pa_nil)) pe_int))))
            (pss_cons (ps_if (pt_cmpR op_notN (pv 3) pe_non (nomark _)) (pss_one (ps_set (i := 8) sc_law_long.nd rfl (Or.inl rfl) (pe_slice sl_list (pv 8) (po_some (pe_callTy call_int1 (by rfl) T.n_int boot_int (pa_cons (pe_cmpR op_eq (pe_ix ix_tup (pv 3) pe_int (fun _ _ => rfl)) pe_int (nomark _)) pa_nil))) (po_some (pe_op op_sub (pe_callB call_len_seq (by rfl) T.n_len boot_len (pa_cons (pv 8) pa_nil)) (pe_callTy call_int1 (by rfl) T.n_int boot_int (pa_cons (pe_cmpR op_eq (pe_ix ix_tup (pv 3) pe_int (fun _ _ => rfl)) (pe_callB call_len_seq (by rfl) T.n_len boot_len (pa_cons (pe_ix ix_tup (pv 3) pe_int (fun _ _ => rfl)) pa_nil)) (nomark _)) pa_nil))))))) pss_nil)
            (pss_cons (ps_set (i := 3) sc_law_long.nd rfl (Or.inl rfl) (pe_tup (pa_cons (pc (c_law_pick T) hr (by decide) (by rfl) (pa_cons (pv 0) (pa_cons (pv 8) pa_nil))) (pa_cons (pe_tupleOf (by rfl) T.n_tuple (pc (c_law_mixed T) hr (by decide) (by rfl) (pa_cons (pv 0) (pa_cons (pv 7) pa_nil)))) pa_nil))))
            (pss_one (ps_par (i := 2) (j := 4) rfl sc_law_long.nd rfl rfl (by decide) rfl rfl (pa_cons (pe_slice sl_list (pv 2) (po_some (pv 6)) po_none) (pa_cons (pe_op op_sub (pv 4) pe_int) pa_nil)) (by rfl))))))))))
        (pss_one (ps_ret (pv 3))))), ?_⟩
    refine ⟨_, rfl, r, _, rfl, .inl (SqL.of (rest_get er)), fun l0 hl0 => ⟨_, _, _, rfl, ?_⟩⟩
    obtain ⟨B1, s1⟩ := bag_mid B (Same.new (o := .lst (row.map V.int)) hl0)
    refine seqWhile_of (fun z σ H' => ∃ (lr : Addr) (rem : List Int) (fv : V) (L : Nat) (o5 o6 o7 o8 : Option V), σ = [some (.ref b), some (.ref r), some (.ref lr), some fv, some (.int (L : Int)), o5, o6, o7, o8] ∧ Bag b g H' ∧ Same (rest b g H) (rest b g H') ∧ rest b g H' lr = some (.lst (rem.map V.int)) ∧ Fnd K (rest b g H') row L fv rem ∧ (1 ≤ L ∨ rem = []) ∧ L ≤ 12 ∧ rem.length ≤ row.length ∧ z = rem.length)
      (fun σ H' => ∃ (lr : Addr) (fv : V) (L : Nat) (o5 o6 o7 o8 : Option V), σ = [some (.ref b), some (.ref r), some (.ref lr), some fv, some (.int (L : Int)), o5, o6, o7, o8] ∧ Bag b g H' ∧ Same (rest b g H) (rest b g H') ∧ Fnd K (rest b g H') row L fv []) _
      ⟨l0, row, .non, 12, none, none, none, none, rfl, B1, s1, B.new hl0 upd_same, .inl ⟨rfl, rfl, rfl⟩, .inl (by decide), by decide, Nat.le_refl _, rfl⟩ ?_ ?_
    · rintro R hR z σ H' ⟨lr, rem, fv, L, o5, o6, o7, o8, rfl, B2, s2, elr, hF, hL, hL12, hrl, rfl⟩
      refine ⟨_, rfl, by show 0 ≤ sizeLine; decide, fun q hq => ?_⟩
      obtain ⟨d, e, x1, x2, x3, x4, x5⟩ := op_neD_ints (rest_get elr) hq
      refine ⟨d, e, x1, x2, x3, x4, _, rfl, ?_⟩
      rw [x5]
      obtain ⟨B3, s3⟩ := bag_mid B2 (Same.new (o := .lst []) hq)
      generalize upd H' q (.lst []) = G at B3 s3
      by_cases c : rem = []
      · subst c
        rw [decide_eq_true rfl]
        refine iteF (hR _ _ ⟨lr, fv, L, o5, o6, o7, o8, rfl, B3, s2.trans s3, ?_⟩)
        rcases hF with h | ⟨h0, kk, ps, h1, h⟩
        · exact .inl h
        · exact .inr ⟨h0, kk, ps, h1.mono s3, h⟩
      · rw [decide_eq_false c]
        have rpos : 1 ≤ rem.length := List.length_pos_iff.mpr c
        have L1 : 1 ≤ L := hL.resolve_right c
        have elr3 := s3 _ _ elr
        have s23 := s2.trans s3
        refine iteT ⟨fun σ' H'' => ∃ (lr : Addr) (rem2 : List Int) (fv : V) (L : Nat) (o5 o6 o7 o8 : Option V), σ' = [some (.ref b), some (.ref r), some (.ref lr), some fv, some (.int (L : Int)), o5, o6, o7, o8] ∧ Bag b g H'' ∧ Same (rest b g H) (rest b g H'') ∧ rest b g H'' lr = some (.lst (rem2.map V.int)) ∧ Fnd K (rest b g H'') row L fv rem2 ∧ (1 ≤ L ∨ rem2 = []) ∧ L ≤ 12 ∧ rem2.length ≤ row.length ∧ rem2.length < rem.length,
          fun σ' H'' ⟨lr, rem2, fv, L, o5, o6, o7, o8, e1, e2, e3, e4, e5, e6, e7, e8, e9⟩ => ⟨_, e9, lr, rem2, fv, L, o5, o6, o7, o8, e1, e2, e3, e4, e5, e6, e7, e8, rfl⟩, ?_⟩
        -- least
        refine seqAsgP_of (fun v H5 => H5 = G ∧ ∃ ls : Nat, v = .int (ls : Int) ∧ 1 ≤ ls ∧ (fv = .non → 2 ≤ ls) ∧ (L = 1 → rem.length ≤ ls) ∧ ls ≤ 1000) ?_ ?_
        · intro R2 hR2
          have hj : ∀ i : Int, i = 1 ∨ i = 2 → (fv = .non → i = 2) → R2 (.int (if ((rem.length : Int) + (L : Int) - 1) / (L : Int) > i then ((rem.length : Int) + (L : Int) - 1) / (L : Int) else i)) G := by
            intro i hi hn
            have hd0 : 0 ≤ ((rem.length : Int) + (L : Int) - 1) / (L : Int) := Int.ediv_nonneg (by omega) (by omega)
            have hd1 : L = 1 → ((rem.length : Int) + (L : Int) - 1) / (L : Int) = (rem.length : Int) := fun e => by rw [e]; simp
            have hd2 : ((rem.length : Int) + (L : Int) - 1) / (L : Int) ≤ 100 := Int.le_trans (Int.ediv_le_self _ (by omega)) (by omega)
            generalize ((rem.length : Int) + (L : Int) - 1) / (L : Int) = j at hd0 hd1 hd2
            by_cases h : j > i
            · rw [if_pos h]
              obtain ⟨jn, rfl⟩ := Int.eq_ofNat_of_zero_le hd0
              exact hR2 _ _ ⟨rfl, jn, rfl, by omega, fun e => by have := hn e; omega, fun e => by have := hd1 e; omega, by omega⟩
            · rw [if_neg h]
              rcases hi with rfl | rfl
              · exact hR2 _ _ ⟨rfl, 1, rfl, by decide, fun e => by have := hn e; omega, fun e => by have := hd1 e; omega, by decide⟩
              · exact hR2 _ _ ⟨rfl, 2, rfl, by decide, fun e => Nat.le_refl _, fun e => by have := hd1 e; omega, by decide⟩
          (refine ⟨_, rfl, rfl, _, rfl, ?_⟩)
          have more : ∀ i : Int, i = 1 ∨ i = 2 → (fv = .non → i = 2) → (tCons (tOp (rI CDiv fun i j => .int (i / j)) (tOp (rI0 fun i j => .int (i - j)) (tOp (rI0 fun i j => .int (i + j)) (tCB (fun xs H Q => ∃ p ys, xs = [V.ref p] ∧ (SqL K H p ys ∨ SqT K H p ys) ∧ Q (V.int ys.length) H) (tCons (tVar 2) tNil)) (tVar 4)) (tC (.int 1))) (tVar 4)) tNil) [some (.ref b), some (.ref r), some (.ref lr), some fv, some (.int (L : Int)), o5, o6, o7, o8] G (fun ws H2 => ∃ i' j, [V.int i] ++ ws = [.int i', .int j] ∧ R2 (.int (if j > i' then j else i')) H2) := by
            intro i hi hn
            refine ⟨_, rfl, lr, _, rfl, .inl (SqL.of (rest_get elr3)), _, rfl, _, _, rfl, rfl, _, _, rfl, rfl, _, rfl, _, _, rfl, rfl, ⟨by omega, by omega⟩, i, _, rfl, ?_⟩
            rw [List.length_map]
            exact hj i hi hn
          by_cases hf : fv = .non
          · rw [decide_eq_true hf]
            exact iteT (more 2 (.inr rfl) fun _ => rfl)
          · rw [decide_eq_false hf]
            exact iteF (more 1 (.inl rfl) fun e => absurd e hf)
        · rintro v H5 ⟨rfl, ls, rfl, l1, l2, l3, l4⟩
          -- size
          refine seqAsgP_of (fun v H6 => ∃ sz : Nat, v = .int (sz : Int) ∧ 1 ≤ sz ∧ sz ≤ rem.length ∧ (fv = .non → 2 ≤ rem.length → 2 ≤ sz) ∧ (L = 1 → sz = rem.length) ∧ Bag b g H6 ∧ Same (rest b g H5) (rest b g H6)) ?_ ?_
          · intro R2 hR2
            refine ⟨_, rfl, lr, _, rfl, .inl (SqL.of (rest_get elr3)), _, rfl, _, rfl, b, g, 2, rfl, B3, by decide, by decide, fun x H6 d0 d1 B6 s6 => ⟨_, _, rfl, rfl, _, _, rfl, ?_⟩⟩
            rw [List.length_map]
            obtain ⟨x, rfl⟩ := Int.eq_ofNat_of_zero_le d0
            by_cases h : (ls : Int) + (x : Int) < (rem.length : Int)
            · rw [if_pos h]
              exact hR2 _ _ ⟨ls + x, by rw [Int.natCast_add], by omega, by omega, fun e _ => by have := l2 e; omega, fun e => by have := l3 e; omega, B6, s6⟩
            · rw [if_neg h]
              exact hR2 _ _ ⟨rem.length, rfl, rpos, Nat.le_refl _, fun _ h => h, fun _ => rfl, B6, s6⟩
          · rintro v H6 ⟨sz, rfl, z1, z2, z3, z4, B6, s6⟩
            have elr6 := s6 _ _ elr3
            have s26 := s23.trans s6
            have hF6 : Fnd K (rest b g H6) row L fv rem := by
              rcases hF with h | ⟨h0, kk, ps, h1, h⟩
              · exact .inl h
              · exact .inr ⟨h0, kk, ps, (h1.mono s3).mono s6, h⟩
            -- parts
            refine seqAsgP_of (fun v H8 => ∃ (q : Addr) (ex : List V) (exT : List Tr), v = .ref q ∧ Bag b g H8 ∧ Same (rest b g H6) (rest b g H8) ∧ rest b g H8 q = some (.lst ((rem.take sz).map V.int ++ ex)) ∧ TVs K (rest b g H8) ex exT ∧ (∀ p ∈ exT, p.ok ∧ p.dep + L ≤ 12) ∧ 2 ≤ sz + ex.length ∧ ex.length ≤ 1 ∧ (btns exT ++ rem).Perm row) ?_ ?_
            · intro R2 hR2
              refine ⟨_, rfl, _, rfl, _, rfl, lr, _, rfl, SqL.of (rest_get elr6), fun q1 hq1 => ?_⟩
              rw [cutV_first, ← List.map_take] at *
              obtain ⟨B7, s7⟩ := bag_mid B6 (Same.new (o := .lst ((rem.take sz).map V.int)) hq1)
              have eq1 : upd H6 q1 (.lst ((rem.take sz).map V.int)) q1 = some (.lst ((rem.take sz).map V.int)) := upd_same
              generalize upd H6 q1 (.lst ((rem.take sz).map V.int)) = H7 at B7 s7 eq1
              (refine ⟨_, rfl, rfl, _, rfl, ?_⟩)
              have cat : ∀ (ex : List V) (exT : List Tr), TVs K (rest b g H7) ex exT → (∀ p ∈ exT, p.ok ∧ p.dep + L ≤ 12) → 2 ≤ sz + ex.length → ex.length ≤ 1 → (btns exT ++ rem).Perm row → ∀ q2, H7 q2 = none → ∃ l bb xs zs, V.ref q1 = .ref l ∧ V.ref q2 = .ref bb ∧ upd H7 q2 (.lst ex) l = some (.lst xs) ∧ upd H7 q2 (.lst ex) bb = some (.lst zs) ∧ xs.length + zs.length ≤ sizeLine ∧ ∀ p, upd H7 q2 (.lst ex) p = none → R2 (.ref p) (upd (upd H7 q2 (.lst ex)) p (.lst (xs ++ zs))) := by
                intro ex exT t1 t2 t3 t4 t5 q2 hq2
                obtain ⟨B8, s8⟩ := bag_mid B7 (Same.new (o := .lst ex) hq2)
                refine ⟨q1, q2, (rem.take sz).map V.int, ex, rfl, rfl, Same.new hq2 _ _ eq1, upd_same, size_ok (by rw [List.length_map, List.length_take]; omega), fun p hp => ?_⟩
                obtain ⟨B9, s9⟩ := bag_mid B8 (Same.new (o := .lst ((rem.take sz).map V.int ++ ex)) hp)
                exact hR2 _ _ ⟨p, ex, exT, rfl, B9, (s7.trans s8).trans s9, B8.new hp upd_same, (t1.mono s8).mono s9, t2, t3, t4, t5⟩
              by_cases hf : fv = .non
              · rw [decide_eq_true hf]
                rcases hF6 with ⟨_, e1, _⟩ | ⟨h0, _⟩
                · refine iteT ⟨by show 0 ≤ sizeLine; decide, cat [] [] TVs.nil (fun p hp => by cases hp) ?_ (by decide) ?_⟩
                  · have := z3 hf (by rw [e1]; exact h2)
                    rw [List.length_nil]; omega
                  · rw [btns, e1]; exact List.Perm.refl _
                · exact absurd hf h0
              · rw [decide_eq_false hf]
                rcases hF6 with ⟨e0, _⟩ | ⟨_, kk, ps, tv, ok, hp, hd, pm⟩
                · exact absurd e0 hf
                · refine iteF ⟨_, rfl, by show 1 ≤ sizeLine; decide, cat [fv] [.node kk ps] (TVs.cons (tv.mono s7) TVs.nil) (fun p hp => by rw [List.mem_singleton] at hp; rw [hp]; exact ⟨ok, hd⟩) (by rw [List.length_singleton]; omega) (Nat.le_refl _) ?_⟩
                  rw [btns, btns, List.append_nil, btn_node]; exact pm
            · rintro v H8 ⟨q, ex, exT, rfl, B8, s8, eq8, tex, hex, n2, n1, pm⟩
              have plen : ((rem.take sz).map V.int ++ ex).length = sz + ex.length := by rw [List.length_append, List.length_map, List.length_take]; omega
              have hF8 : Fnd K (rest b g H8) row L fv rem := by
                rcases hF6 with h | ⟨h0, kk, ps, h1, h⟩
                · exact .inl h
                · exact .inr ⟨h0, kk, ps, h1.mono s8, h⟩
              have elr8 := s8 _ _ elr6
              -- bounds
              refine ⟨_, rfl, q, _, rfl, .inl (SqL.of (rest_get eq8)), _, _, rfl, rfl, 1, _, rfl, rfl, .of_le (by decide) (by rw [plen]; omega) (by decide) (by omega), fun qb hqb => ?_⟩
              rw [plen]
              obtain ⟨B9, s9⟩ := bag_mid B8 (Same.new (o := .lst (rgV 1 (((sz + ex.length : Nat) : Int) + 1))) hqb)
              have eb9 := B8.new hqb (upd_same (H := H8) (o := .lst (rgV 1 (((sz + ex.length : Nat) : Int) + 1))))
              have bmem : ∀ x ∈ rgV 1 (((sz + ex.length : Nat) : Int) + 1), ∃ z : Int, x = .int z ∧ 1 ≤ z ∧ z ≤ ((sz + ex.length : Nat) : Int) := fun x hx => by
                obtain ⟨z, e1, e2, e3⟩ := rgV_mem hx
                exact ⟨z, e1, e2, by omega⟩
              have blen : (rgV 1 (((sz + ex.length : Nat) : Int) + 1)).length = sz + ex.length := by rw [rgV_length]; omega
              generalize rgV 1 (((sz + ex.length : Nat) : Int) + 1) = bs at *
              generalize upd H8 qb (.lst bs) = H9 at B9 s9 eb9
              -- the bounds' cut, then the tail
              dsimp only [gName]
              refine seqIf_of (!decide (fv = .non)) (fun H' => H' = H9) (fun σ9 H9' => ∃ (qb : Addr) (bs : List V), σ9 = [some (.ref b), some (.ref r), some (.ref lr), some fv, some (.int (L : Int)), some (.int (ls : Int)), some (.int (sz : Int)), some (.ref q), some (.ref qb)] ∧ Bag b g H9' ∧ Same (rest b g H8) (rest b g H9') ∧ rest b g H9' qb = some (.lst bs) ∧ 1 ≤ bs.length ∧ bs.length ≤ 1000 ∧ ∀ x ∈ bs, ∃ z : Int, x = .int z ∧ 1 ≤ z ∧ z ≤ ((sz + ex.length : Nat) : Int)) ?_ ?_ ?_ ?_
              · intro R2 hR2
                exact ⟨_, rfl, rfl, _, rfl, hR2 _ rfl⟩
              · rintro hne R2 hR2 H9' rfl
                have hf : fv ≠ .non := by simpa using hne
                rcases hF8 with ⟨e0, _⟩ | ⟨_, kk, ps, tv, ok, hp2, hd, pm2⟩
                · exact absurd e0 hf
                · obtain ⟨ta, tb, us, rfl, t1, t2, t3⟩ := tv_node.mp ((tv.mono s9).mono rest_same)
                  refine ⟨_, rfl, _, rfl, ta, _, 0, .int kk, rfl, rfl, t1, rfl, rfl, .inr ⟨_, rfl, _, rfl, _, rfl, qb, bs, rfl, .inl (SqL.of (rest_get eb9)), _, rfl, ta, _, 0, .int kk, rfl, rfl, t1, rfl, _, rfl, ta, _, 1, .ref tb, rfl, rfl, t1, rfl, tb, us, rfl, .inr t2, rfl, .inr ⟨_, rfl, _, _, rfl, rfl, _, rfl, qb, bs, rfl, SqL.of (rest_get eb9), fun q2 hq2 => ?_⟩⟩⟩
                  rw [dec_i, dec_i, b2n, b2n, t3.len] at *
                  have mid := cutV_mid bs (if kk = 1 then 1 else 0) (if kk = (ps.length : Int) then 1 else 0) (by split <;> omega) (by split <;> omega) (by
                    rw [blen]
                    by_cases h1 : kk = 1
                    · by_cases h2 : kk = (ps.length : Int)
                      · omega
                      · rw [if_pos h1, if_neg h2]; omega
                    · rw [if_neg h1]; split <;> omega)
                  have cl := cutV_length bs (some (((if kk = 1 then 1 else 0) : Nat) : Int)) (some ((bs.length : Int) - (((if kk = (ps.length : Int) then 1 else 0) : Nat) : Int)))
                  generalize cutV bs (some (((if kk = 1 then 1 else 0) : Nat) : Int)) (some ((bs.length : Int) - (((if kk = (ps.length : Int) then 1 else 0) : Nat) : Int))) = cs at *
                  obtain ⟨B10, s10⟩ := bag_mid B9 (Same.new (o := .lst cs) hq2)
                  exact hR2 _ _ ⟨q2, cs, rfl, B10, s9.trans s10, B9.new hq2 upd_same, mid.2, by omega, fun x hx => bmem x (mid.1 x hx)⟩
              · rintro hne R2 hR2 H9' rfl
                exact hR2 _ _ ⟨qb, bs, rfl, B9, s9, eb9, by omega, by omega, bmem⟩
              · rintro σ9 G9 ⟨qb, bs, rfl, B9, s9, eb9, bl1, bl2, bmem⟩
                have eq9 := s9 _ _ eq8
                have elr9 := s9 _ _ elr8
                refine ⟨_, rfl, _, rfl, b, g, qb, bs, rfl, B9, eb9, bl1, by omega, fun ix v H10 hv B10 s10 => ?_⟩
                obtain ⟨z, rfl, zz1, zz2⟩ := bmem _ (List.mem_of_getElem? hv)
                have eq10 := s10 _ _ eq9
                have tall : TVs K (rest b g H10) ((rem.take sz).map V.int ++ ex) ((rem.take sz).map Tr.leaf ++ exT) := (tvs_leaves _).append ((tex.mono s9).mono s10)
                have pdep : ∀ p ∈ (rem.take sz).map Tr.leaf ++ exT, p.ok ∧ p.dep + L ≤ 12 := fun p hp => by
                  (rcases List.mem_append.mp hp with hp | hp)
                  · obtain ⟨a, _, rfl⟩ := List.mem_map.mp hp
                    exact ⟨by rw [Tr.ok]; trivial, by rw [Tr.dep]; omega⟩
                  · exact hex p hp
                refine ⟨_, rfl, _, rfl, b, g, q, _, rfl, B10, eq10, by rw [plen]; omega, itm_tvs tall fun p hp => by have := (pdep p hp).2; omega, fun m ys H11 pys B11 s11 hm em => ?_⟩
                obtain ⟨qs, pq, tqs⟩ := tvs_perm pys (tall.mono s11)
                have qlen : qs.length = sz + ex.length := by
                  have h1 := tqs.len
                  have h2 := pys.length_eq
                  rw [plen] at h2
                  omega
                refine .inl ⟨m, ys, rfl, SqL.of (rest_get em), fun qt hqt => ⟨by show 2 ≤ sizeLine; decide, fun p hp => ?_⟩⟩
                have sq := (Same.new (o := .tup ys) hqt).trans (Same.new (o := .tup [V.int z, .ref qt]) hp)
                obtain ⟨B12, s12⟩ := bag_mid B11 sq
                have tv12 : TV K (upd (upd H11 qt (.tup ys)) p (.tup [V.int z, .ref qt])) (.ref p) (.node z qs) := by
                  refine tv_node.mpr ⟨p, qt, ys, rfl, SqT.of upd_same, SqT.of ?_, (tqs.mono s12).mono rest_same⟩
                  rw [upd_ne (ne_of_none upd_same hp)]
                  exact upd_same
                have s812 := ((s9.trans s10).trans s11).trans s12
                have elr12 := s812 _ _ elr8
                generalize upd (upd H11 qt (.tup ys)) p (.tup [V.int z, .ref qt]) = H12 at *
                refine ⟨_, rfl, _, rfl, _, rfl, lr, _, rfl, SqL.of (rest_get elr12), fun q2 hq2 => ?_⟩
                rw [cutV_drop _ _ (by rw [List.length_map]; omega), ← List.map_drop] at *
                obtain ⟨B13, s13⟩ := bag_mid B12 (Same.new (o := .lst ((rem.drop sz).map V.int)) hq2)
                refine ⟨_, rfl, _, _, rfl, rfl, _, _, rfl, q2, rem.drop sz, .ref p, L - 1, some (.int (ls : Int)), some (.int (sz : Int)), some (.ref q), some (.ref qb), ?_, B13, ((s26.trans s8).trans s812).trans s13, B12.new hq2 upd_same, .inr ⟨(fun h => by cases h), z, qs, (B12.tv _ _ tv12).mono s13, ?_, by omega, ?_, ?_⟩, ?_, by omega, by rw [List.length_drop]; omega, by rw [List.length_drop]; omega⟩
                · have : (L : Int) - 1 = ((L - 1 : Nat) : Int) := by omega
                  show [some (V.ref b), some (.ref r), some (.ref q2), some (.ref p), some (.int ((L : Int) - 1)), _, _, _, _] = _
                  rw [this]
                · rw [Tr.ok, okA_iff]
                  exact ⟨zz1, by rw [qlen]; exact zz2, fun p hp => (pdep p (pq.mem_iff.mp hp)).1⟩
                · have : depA qs ≤ 12 - L := depA_le.mpr fun p hp => by have := (pdep p (pq.mem_iff.mp hp)).2; omega
                  rw [Tr.dep]; omega
                · have h1 := btns_perm pq
                  rw [btns_append, btns_leaves] at h1
                  have h2 : (btns qs ++ rem.drop sz).Perm ((rem.take sz ++ btns exT) ++ rem.drop sz) := h1.append_right _
                  have h3 : ((rem.take sz ++ btns exT) ++ rem.drop sz).Perm (btns exT ++ rem) := by
                    have : btns exT ++ rem = btns exT ++ (rem.take sz ++ rem.drop sz) := by rw [List.take_append_drop]
                    rw [this, ← List.append_assoc]
                    exact List.perm_append_comm.append_right _
                  exact (h2.trans h3).trans pm
                · by_cases hL1 : L = 1
                  · rw [z4 hL1]
                    exact .inr (List.drop_of_length_le (Nat.le_refl _))
                  · exact .inl (by omega)
    · rintro σ H' ⟨lr, fv, L, o5, o6, o7, o8, rfl, B2, s2, hF⟩
      refine ⟨_, rfl, ?_⟩
      rcases hF with ⟨_, e, _⟩ | ⟨_, kk, ps, tv, ok, hp, hd, pm⟩
      · rw [← e] at h2; simp at h2
      · rw [List.append_nil] at pm
        exact k fv (.node kk ps) H' B2 s2 tv ok (by rw [btn_node]; exact pm) (by omega)
end
end K23
namespace K23
open PySem PyProof.Rows PySem.Spec L2
theorem walk_zipT {K : PySem.W.Frag} {a b : Addr} {xs ys : List V} {n : Nat} (hn : n = min xs.length ys.length) : Walk (RZ.ItzT K a b) n (fun H => SqT K H a xs ∧ SqT K H b ys) (YPair (fun i => xs[i]?) (fun i => ys[i]?)) := by
  subst hn
  constructor
  · intro i _ hi q
    have l1 : i < xs.length := by omega
    have l2 : i < ys.length := by omega
    exact ⟨xs, ys, xs[i], ys[i], q.1, q.2, by simp [l1], by simp [l2]⟩
  · intro _ q
    exact ⟨xs, ys, q.1, q.2, by omega⟩
  · intro i H v H' _ q y
    obtain ⟨T, x, z, e1, e2, e3, e4, e5⟩ := y
    exact ⟨T, x, z, e1, e2, e3, e4 xs q.1, e5 ys q.2⟩
theorem asc_next {ns : List Int} (h : ns.Pairwise (· < ·)) {i : Nat} {x y : Int} (h1 : ns[i]? = some x) (h2 : ns[i + 1]? = some y) : x < y := by
  obtain ⟨l1, e1⟩ := List.getElem?_eq_some_iff.mp h1
  obtain ⟨l2, e2⟩ := List.getElem?_eq_some_iff.mp h2
  rw [← e1, ← e2]
  exact List.pairwise_iff_getElem.mp h i (i + 1) l1 l2 (by omega)
theorem lcAsc {K : PySem.W.Frag} {a q D : Addr} {ns : List Int} {σ : L2.St} {G : Hp} {tt : TT} {te : TE} {ws : List Nat} {Qd : Hp → Prop} (hD : G D = none) (h1 : SqT K G a (ns.map V.int)) (h2 : SqT K G q ((ns.map V.int).drop 1)) (hasc : ns.Pairwise (· < ·))
    (hw : ∀ x y, wipe (((wipe σ ws).set 6 x).set 7 y) ws = wipe σ ws) (ht : ∀ (x y : Int) (G' : Hp) (R : Bool → Hp → Prop), x < y → R false G' → tt (((wipe σ ws).set 6 (some (.int x))).set 7 (some (.int y))) G' R)
    (hq : ∀ G', Same G G' → G' D = some (.lst []) → Qd G') :
    ∃ W : Nat → Nat → Hp → Prop, (∃ m, W 0 m (upd G D (.lst []))) ∧ ∀ i m H, W i m H → ((RZ.ItzT K a q).stop i H ∧ Qd H) ∨ ((RZ.ItzT K a q).go i H ∧ ∃ Nx : Hp → Prop, (∀ H', Nx H' → ∃ m', m' < m ∧ W (i + 1) m' H') ∧ ∀ x H', (RZ.ItzT K a q).yld i H x H' → gTup K 2 (gCons (gName 6) (gCons (gName 7) gNil)) x (wipe σ ws) H' fun σ2 H2 => wipe σ2 ws = wipe σ ws ∧ tt σ2 H2 fun b H3 =>
      if b = true then te σ2 H3 fun z G4 => ∃ got, G4 D = some (.lst got) ∧ got.length < sizeLine ∧ Nx (upd G4 D (.lst (got ++ [z]))) else Nx H3) := by
  refine lc_it (walk_zipT rfl) (fun i G' => Same G G' ∧ G' D = some (.lst [])) ⟨Same.new hD, upd_same⟩ (fun i G' _ h => ⟨h.1.seqT h1, h.1.seqT h2⟩) ?_ (fun G' h => hq G' h.1 h.2)
  rintro i v G' G'' hi ⟨s1, eD⟩ ⟨Tp, x, y, rfl, hT, rfl, g1, g2⟩
  dsimp only at g1 g2
  rw [List.getElem?_map] at g1
  rw [List.getElem?_drop, List.getElem?_map, Nat.add_comm] at g2
  obtain ⟨n, hn, rfl⟩ := Option.map_eq_some_iff.mp g1
  obtain ⟨m, hm, rfl⟩ := Option.map_eq_some_iff.mp g2
  have sT : Same G' (upd G' Tp (.tup [V.int n, V.int m])) := Same.new hT
  exact ⟨Tp, _, rfl, SqT.of upd_same, rfl, _, _, rfl, _, _, rfl, rfl, hw _ _, ht n m _ _ (asc_next hasc hn hm) (iteF ⟨s1.trans sT, sT _ _ eD⟩)⟩
section
variable {w : World} {P : Program} {K : PySem.W.Frag} {base : Heap} {mg : Str → Option Value}
/-! ### _law_shows: slots _law_tree_here 0, _law_row 1, _law_one 2, _law_other 3, _law_thing 4, _law_own 5, _law_low 6, _law_high 7 -/
def spShows (K : PySem.W.Frag) : Sp := fun vs H Q _ => ∃ (v : V) (t : Tr) (r a : Addr) (row ns : List Int) (one other : Int), vs = [v, .ref r, .int one, .int other, .ref a] ∧ TV K H v t ∧ Sm t ∧ t.dep ≤ 12 ∧ H r = some (.lst (row.map V.int)) ∧ H a = some (.tup (ns.map V.int)) ∧
  (∀ x ∈ ns, x ∈ row ∧ x ≠ one ∧ x ≠ other) ∧ ns.Pairwise (· < ·) ∧ ns.length ≤ 1000 ∧ t.go (inL (ns ++ [other])) = true ∧ t.go (inL (ns ++ [one])) = false ∧ ∀ H', Same H H' → Q (.bl true) H'
theorem sc_law_shows : FnScope ["_law_tree_here", "_law_row", "_law_one", "_law_other", "_law_thing", "_law_own", "_law_low", "_law_high"] ["_law_tree_here", "_law_row", "_law_one", "_law_other", "_law_thing"] (defScope (topS 41)) := ⟨rfl, rfl, rfl, by decide +kernel, rfl, by decide +kernel, by decide +kernel⟩
theorem c_law_shows (T : Txt K mg) : Cal P w K mg base 15 "_law_shows" ["_law_tree_here", "_law_row", "_law_one", "_law_other", "_law_thing"] (spShows K) := by
  refine Cal.mk' T.d_law_shows sc_law_shows (fun _ _ _ _ _ _ us hl => match us, hl with | [_, _, _, _, _], _ => rfl) (fun vs H Q E h => ?_) (fun f cdv A outer s H vs Q E hr h => ?_)
  · obtain ⟨_, _, _, _, _, _, _, _, rfl, _⟩ := h; rfl
  · obtain ⟨v, t, r, a, row, ns, one, other, rfl, ht, sm, hd, er, ea, hns, hasc, hz, g1, g2, k⟩ := h
    refine ⟨_, (pss_cons (ps_if (pt_not (pt_val (pe_callB call_isi (by rfl) T.n_isinstance boot_isinstance (pa_cons (pv 4) (pa_cons (pe_bltn (v := .ty "tuple") (by rfl) T.n_tuple boot_tuple rfl) pa_nil))))) (pss_one (ps_ret pe_bl)) pss_nil)
        (pss_cons (ps_for PassesOwn.never rfl (pi_tup (pv 4)) (pg_name (i := 5) sc_law_shows.nd rfl (Or.inl rfl))
          (pss_one (ps_if (PW.pt (pw_or (pt_val (pe_callB call_isi (by rfl) T.n_isinstance boot_isinstance (pa_cons (pv 5) (pa_cons (pe_bltn (v := .ty "bool") (by rfl) T.n_bool boot_bool rfl) pa_nil)))) (pw_or (pt_not (pt_val (pe_callB call_isi (by rfl) T.n_isinstance boot_isinstance (pa_cons (pv 5) (pa_cons (pe_bltn (v := .ty "int") (by rfl) T.n_int boot_int rfl) pa_nil))))) (pw_or (pt_cmpR op_notIn_seq (pv 5) (pv 1) (by rfl)) (pw_or1 (pt_cmpR op_in_seq (pv 5) (pe_tup (pa_cons (pv 2) (pa_cons (pv 3) pa_nil))) (by rfl))))))) (pss_one (ps_ret pe_bl)) pss_nil)))
        (pss_cons (ps_if (pt_cmpR (op_neD hr.units) (pe_lc (own := [("_law_low", 6), ("_law_high", 7)]) rfl sc_law_shows.nd (RZ.pi_zipA (by rfl) T.n_zip (pa_cons (pv 4) (pa_cons (pe_slice sl_tupA (pv 4) (po_some pe_int) po_none) pa_nil))) (blkOk_by (N := ["_law_tree_here", "_law_row", "_law_one", "_law_other", "_law_thing", "_law_own", "_law_low", "_law_high"]) (sc := defScope (topS 41)) (by decide +kernel)) (fun _ _ _ _ _ => (pg_tupK (K := K) (n := 2) rfl (by rfl) (pgs_cons (pg_name (i := 6) sc_law_shows.nd rfl (Or.inl rfl)) (pgs_cons (pg_name (i := 7) sc_law_shows.nd rfl (Or.inl rfl)) pgs_nil)))) (fun _ _ _ _ _ => pts_one (pt_cmpR op_ge (pv 6) (pv 7) (nomark _))) (fun _ _ _ _ _ => pe_int)) (pe_lst pa_nil) (nomark _)) (pss_one (ps_ret pe_bl)) pss_nil)
        (pss_one (ps_ret (pe_and (pc (c_law_goes T 12) hr (by decide) (by rfl) (pa_cons (pv 0) (pa_cons (pe_op op_catA (pv 4) (pe_tup (pa_cons (pv 3) pa_nil))) pa_nil))) (pe_one (pe_not (pc (c_law_goes T 12) hr (by decide) (by rfl) (pa_cons (pv 0) (pa_cons (pe_op op_catA (pv 4) (pe_tup (pa_cons (pv 2) pa_nil))) pa_nil))))))))))), ?_⟩
    refine ⟨_, rfl, _, .ty "tuple", _, _, _, rfl, .ty _, ty_tup (SqT.of ea), kit_tup, _, rfl, iteF ?_⟩
    refine ⟨_, rfl, a, rfl, ⟨_, SqT.of ea⟩, for_tup (K := K) (a := a) (xs := ns.map V.int) (fun i σ H' => ∃ o : Option V, σ = [some v, some (.ref r), some (.int one), some (.int other), some (.ref a), o, none, none] ∧ Same H H') ⟨none, rfl, Same.refl H⟩ (fun i σ H' _ ⟨_, _, s1⟩ => SqT.of (s1 _ _ ea)) ?_ ?_⟩
    · rintro i x σ H' hx ⟨o, rfl, s1⟩
      rw [List.getElem?_map] at hx
      obtain ⟨n, hn, rfl⟩ := Option.map_eq_some_iff.mp hx
      obtain ⟨m1, m2, m3⟩ := hns n (List.mem_of_getElem? hn)
      refine ⟨_, rfl, .int n, .ty "bool", .type "int", _, _, rfl, .ty _, .base (.int n), kit_int_bool, _, rfl, iteF ⟨_, rfl, .int n, .ty "int", .type "int", _, _, rfl, .ty _, .base (.int n), kit_int, _, rfl, iteF ⟨_, rfl, _, rfl, r, _, rfl, .inl (SqL.of (s1 _ _ er)), rfl, flat_ints row, _, rfl, ?_⟩⟩⟩
      show if (!inV (V.int n) (row.map V.int)) = true then _ else _
      rw [inV_ints, decide_eq_true m1]
      refine iteF ⟨_, rfl, _, rfl, _, rfl, by show 2 ≤ sizeLine; decide, fun q hq => ⟨q, [one, other].map V.int, rfl, .inr (SqT.of upd_same), rfl, flat_ints [one, other], _, rfl, ?_⟩⟩
      show if inV (V.int n) ([one, other].map V.int) = true then _ else _
      rw [inV_ints, decide_eq_false (by simp [m2, m3])]
      exact iteF ⟨some (.int n), rfl, s1.trans (Same.new hq)⟩
    · rintro σ H' ⟨o, rfl, s1⟩
      have ea1 := s1 _ _ ea
      dsimp only [tSeq, tIfS, tTest, tOp]
      refine te_of (fun v G => ∃ D, v = .ref D ∧ Same H' G ∧ G D = some (.lst [])) ?_ ?_
      · intro R hR
        refine ⟨_, rfl, _, rfl, 1, rfl, a, ns.map V.int, rfl, SqT.of ea1, fun whole => ?_, fun _ q hq => ?_⟩
        · have e0 : ns = [] := by
            have h1 : HT.sIx (ns.map V.int).length 0 (some (1 : Int)) = min 1 (ns.map V.int).length := HT.sIx_nat _ 0 1
            rw [h1, List.length_map] at whole
            have := whole.1
            (exact List.length_eq_zero_iff.mp (by omega))
          subst e0
          exact ⟨a, a, _, _, rfl, .inr ⟨SqT.of ea1, SqT.of ea1, fun D hD => lcAsc (ns := []) hD (SqT.of ea1) (SqT.of ea1) hasc (fun _ _ => rfl) (fun x y G' R' hlt hR' => ⟨_, rfl, _, rfl, _, _, rfl, rfl, _, rfl, by rw [decide_eq_false (by omega)]; exact hR'⟩) fun G' s2 e2 => hR _ _ ⟨D, rfl, s2, e2⟩⟩⟩
        · rw [cutV_rest]
          have sq : Same H' (upd H' q (.tup ((ns.map V.int).drop 1))) := Same.new hq
          exact ⟨a, q, _, _, rfl, .inr ⟨SqT.of (sq _ _ ea1), SqT.of upd_same, fun D hD => lcAsc hD (SqT.of (sq _ _ ea1)) (SqT.of upd_same) hasc (fun _ _ => rfl) (fun x y G' R' hlt hR' => ⟨_, rfl, _, rfl, _, _, rfl, rfl, _, rfl, by rw [decide_eq_false (by omega)]; exact hR'⟩) fun G' s2 e2 => hR _ _ ⟨D, rfl, sq.trans s2, e2⟩⟩⟩
      · rintro v2 G ⟨D, rfl, s2, eD⟩
        refine ⟨by show 0 ≤ sizeLine; decide, fun q hq => ?_⟩
        obtain ⟨d, e, x1, x2, x3, x4, x5⟩ := op_neD_ints (ns := []) eD hq
        refine ⟨d, e, x1, x2, x3, x4, _, rfl, ?_⟩
        rw [x5]
        have s3 := (s1.trans s2).trans (Same.new (o := .lst []) hq)
        generalize upd G q (.lst []) = G3 at s3
        refine iteF ?_
        have ea3 := s3 _ _ ea
        -- goes with other, not with one
        have cat : ∀ (G4 : Hp) (z : Int) (R : VK), Same H G4 → (∀ (p : Addr) (G5 : Hp), Same G4 G5 → SqT K G5 p ((ns ++ [z]).map V.int) → R (.ref p) G5) → ∀ q, G4 q = none → rCatA K (.ref a) (.ref q) (upd G4 q (.tup [.int z])) R := by
          intro G4 z R s4 hR q hq
          have sq : Same G4 (upd G4 q (.tup [.int z])) := Same.new hq
          refine ⟨a, q, ns.map V.int, [.int z], rfl, rfl, SqT.of (sq _ _ (s4 _ _ ea)), SqT.of upd_same, size_ok (by rw [List.length_map, List.length_singleton]; omega), fun h0 => ?_, (fun _ h => nomatch h), fun _ _ p hp => ?_⟩
          · have e0 : ns = [] := by
              cases ns with
              | nil => rfl
              | cons x r => cases h0
            subst e0
            exact hR q _ sq (SqT.of upd_same)
          · refine hR p _ (sq.trans (Same.new hp)) (SqT.of ?_)
            rw [upd_same, List.map_append]; rfl
        refine ⟨_, rfl, _, rfl, _, rfl, by show 1 ≤ sizeLine; decide, cat G3 other _ s3 fun p G5 s5 hp => ?_⟩
        have s35 := s3.trans s5
        refine ⟨v, t, p, ns ++ [other], rfl, ht.mono s35, sm, hd, hp, fun G6 s6 => ?_⟩
        have g1' : (t.go fun x => decide (x ∈ ns ++ [other])) = true := g1
        have g2' : (t.go fun x => decide (x ∈ ns ++ [one])) = false := g2
        rw [g1']
        have s36 := s35.trans s6
        refine ⟨_, rfl, iteT ⟨_, rfl, _, rfl, _, rfl, by show 1 ≤ sizeLine; decide, cat G6 one _ s36 fun p G7 s7 hp => ?_⟩⟩
        refine ⟨v, t, p, ns ++ [one], rfl, ht.mono (s36.trans s7), sm, hd, hp, fun G8 s8 => ⟨_, rfl, ?_⟩⟩
        rw [g2']
        exact k _ ((s36.trans s7).trans s8)
end
end K23
namespace K23
open PySem PyProof.Rows PySem.Spec L2
/-! ### repr of data in which empty dicts may stand -/
mutual
inductive RdS (h : Heap) : Value → PyData → Prop
  | none : RdS h .none .none
  | bool (b : Bool) : RdS h (.bool b) (.bool b)
  | int (i : Int) (t : Tok) : RdS h (.int i t) (.int i)
  | str (x : Str) (t : Tok) : RdS h (.str x t) (.str x)
  | list {a : Addr} {o : Obj} {vs : Array Value} {n : Nat} {xs : List PyData} : h.get? a = some o → o.cls = .type "list" → o.data = .seq vs n → RdSs h vs.toList xs → RdS h (.ref a) (.list xs)
  | tuple {a : Addr} {o : Obj} {vs : Array Value} {n : Nat} {xs : List PyData} : h.get? a = some o → o.cls = .type "tuple" → o.data = .seq vs n → RdSs h vs.toList xs → RdS h (.ref a) (.tuple xs)
  | dict {a : Addr} {o : Obj} {n : Nat} : h.get? a = some o → o.cls = .type "dict" → o.data = .dict #[] n → (a == sysModules) = false → RdS h (.ref a) (.dict [])
inductive RdSs (h : Heap) : List Value → List PyData → Prop
  | nil : RdSs h [] []
  | cons {v : Value} {vs : List Value} {d : PyData} {ds : List PyData} : RdS h v d → RdSs h vs ds → RdSs h (v :: vs) (d :: ds)
end
mutual
theorem RdS.reads {h : Heap} : ∀ {v : Value} {d : PyData}, RdS h v d → ∃ as, Reads h v d as
  | _, _, .none => ⟨_, .none⟩
  | _, _, .bool b => ⟨_, .bool b⟩
  | _, _, .int i t => ⟨_, .int i t⟩
  | _, _, .str x t => ⟨_, .str x t⟩
  | _, _, .list e1 e2 e3 r => let ⟨_, q⟩ := RdSs.reads r; ⟨_, .list e1 e2 e3 q⟩
  | _, _, .tuple e1 e2 e3 r => let ⟨_, q⟩ := RdSs.reads r; ⟨_, .tuple e1 e2 e3 q⟩
  | _, _, .dict e1 e2 e3 _ => ⟨_, .dict e1 e2 e3 .nil .nil⟩
theorem RdSs.reads {h : Heap} : ∀ {vs : List Value} {ds : List PyData}, RdSs h vs ds → ∃ as, ReadsAll h vs ds as
  | _, _, .nil => ⟨_, .nil⟩
  | _, _, .cons r rs => let ⟨_, p⟩ := RdS.reads r; let ⟨_, q⟩ := RdSs.reads rs; ⟨_, .cons p q⟩
end
section
variable {prog : Program} {w : World} {h : Heap}
mutual
theorem RdS.repr : ∀ {v : Value} {d : PyData}, RdS h v d → d.showable = true → d.shown.length ≤ sizeLine → ∃ bs, ReadAtMost h d.depth bs ∧ ReprK prog w bs h d.depth v d.shown
  | _, _, .none, _, _ => ⟨[], (fun _ z => nomatch z), ReprK.of_is ReprIs.none _ _ _⟩
  | _, _, .bool b, _, _ => ⟨[], (fun _ z => nomatch z), ReprK.of_is (ReprIs.bool b) _ _ _⟩
  | _, _, .int i t, s, _ => ⟨[], (fun _ z => nomatch z), ReprK.of_is (ReprIs.int t (by simpa [PyData.showable] using s)) _ _ _⟩
  | _, _, .str x t, _, z => ⟨[], (fun _ z => nomatch z), ReprK.of_is (ReprIs.str x t (by simpa only [PyData.shown] using z)) _ _ _⟩
  | _, _, .list (a := a) (vs := vs) (xs := xs) e1 e2 e3 r, s, z => by
    have zl : (listText (PyData.shownAll xs)).length ≤ sizeLine := by simpa only [PyData.shown] using z
    obtain ⟨bs, q1, q2⟩ := RdSs.repr r (by simpa [PyData.showable] using s) fun t ht => Nat.le_trans (listText_mem_le ht) zl
    obtain ⟨as, ra⟩ := RdSs.reads r
    have rd := Reads.list e1 e2 e3 ra
    have out : a ∉ bs := not_mem_of_deeper rd (by simp only [PyData.depth]; omega) q1
    refine ⟨a :: bs, ReadAtMost.cons rd (by simp only [PyData.depth]; omega) q1, ?_⟩
    (simp only [PyData.depth, PyData.shown])
    obtain ⟨l⟩ := vs
    cases l with
    | nil =>
      have r' : RdSs h [] xs := r
      cases r'
      (simp only [PyData.shownAll, listText_nil])
      exact ReprK.listEmpty e1 e2 e3
    | cons x l => exact ReprK.list e1 e2 e3 out (by simpa using q2.length_eq) fun i y e => q2.item i y (by simpa using e)
  | _, _, .tuple (a := a) (xs := xs) e1 e2 e3 r, s, z => by
    have zl : (tupleText (PyData.shownAll xs)).length ≤ sizeLine := by simpa only [PyData.shown] using z
    obtain ⟨bs, q1, q2⟩ := RdSs.repr r (by simpa [PyData.showable] using s) fun t ht => Nat.le_trans (tupleText_mem_le ht) zl
    obtain ⟨as, ra⟩ := RdSs.reads r
    have rd := Reads.tuple e1 e2 e3 ra
    have out : a ∉ bs := not_mem_of_deeper rd (by simp only [PyData.depth]; omega) q1
    refine ⟨a :: bs, ReadAtMost.cons rd (by simp only [PyData.depth]; omega) q1, ?_⟩
    (simp only [PyData.depth, PyData.shown])
    exact ReprK.tuple e1 e2 e3 out q2
  | _, _, .dict (a := a) e1 e2 e3 e4, s, z => by
    have rd : Reads h (.ref a) (.dict []) _ := Reads.dict e1 e2 e3 .nil .nil
    refine ⟨[a], ReadAtMost.cons (bs := []) (n := 0) rd (Nat.zero_le _) (fun _ z => nomatch z), ?_⟩
    (simp only [PyData.depth, PyData.shown])
    exact ReprK.dict (d := 0) (as := []) e1 e2 e3 e4 (by simp) .nil
theorem RdSs.repr : ∀ {vs : List Value} {ds : List PyData}, RdSs h vs ds → PyData.showableAll ds = true → (∀ t ∈ PyData.shownAll ds, t.length ≤ sizeLine) → ∃ bs, ReadAtMost h (PyData.depthAll ds) bs ∧ ReprAllK prog w bs h (PyData.depthAll ds) vs (PyData.shownAll ds)
  | _, _, .nil, _, _ => ⟨[], (fun _ z => nomatch z), .nil⟩
  | _, _, .cons (d := d) (ds := ds) r rs, s, z => by
    rw [PyData.showableAll, Bool.and_eq_true] at s
    obtain ⟨b1, p1, k1⟩ := RdS.repr r s.1 (z _ (by simp only [PyData.shownAll]; exact List.mem_cons_self ..))
    obtain ⟨b2, p2, k2⟩ := RdSs.repr rs s.2 fun t ht => z t (by simp only [PyData.shownAll]; exact List.mem_cons_of_mem _ ht)
    simp only [PyData.depthAll, PyData.shownAll]
    exact ⟨b1 ++ b2, (p1.mono (Nat.le_max_left _ _)).append (p2.mono (Nat.le_max_right _ _)),
      .cons ((k1.more fun b hb => List.mem_append_left _ hb).level_le (Nat.le_max_left _ _)) (k2.more_le (fun b hb => List.mem_append_right _ hb) (Nat.le_max_right _ _))⟩
end
end
/-! ### tracked data in which empty dicts may stand -/
mutual
inductive Dx (K : PySem.W.Frag) (H : Hp) : V → PyData → Prop
  | of {v : V} {d : PyData} (h : Dp K H v d) : Dx K H v d
  | dict {a : Addr} (h : H a = some (.dK [])) : Dx K H (.ref a) (.dict [])
  | list {a : Addr} {xs : List V} {ds : List PyData} (h : H a = some (.lst xs)) (g : Dxs K H xs ds) : Dx K H (.ref a) (.list ds)
inductive Dxs (K : PySem.W.Frag) (H : Hp) : List V → List PyData → Prop
  | nil : Dxs K H [] []
  | cons {v : V} {vs : List V} {d : PyData} {ds : List PyData} (h : Dx K H v d) (g : Dxs K H vs ds) : Dxs K H (v :: vs) (d :: ds)
end
mutual
theorem Dx.mono {K : PySem.W.Frag} {H H' : Hp} (s : Same H H') : ∀ {v : V} {d : PyData}, Dx K H v d → Dx K H' v d
  | _, _, .of h => .of (dp_mono s _ _ h)
  | _, _, .dict h => .dict (s _ _ h)
  | _, _, .list h g => .list (s _ _ h) (Dxs.mono s g)
theorem Dxs.mono {K : PySem.W.Frag} {H H' : Hp} (s : Same H H') : ∀ {vs : List V} {ds : List PyData}, Dxs K H vs ds → Dxs K H' vs ds
  | _, _, .nil => .nil
  | _, _, .cons h g => .cons (Dx.mono s h) (Dxs.mono s g)
end
section
variable {X : Cx} {s : Shared} {pins : List (Addr × Obj)} {H : Hp} {σ : L2.St}
mutual
theorem dp_rds (I : Inv X pins σ H s) : ∀ (d : PyData) (v : V) (u : Value), Dp X.K H v d → RelV v u → RdS s.heap u d
  | .none, _, _, h, r => by cases h; cases r; exact .none
  | .bool b, _, _, h, r => by cases h; cases r; exact .bool b
  | .int i, _, _, h, r => by cases h; obtain ⟨t, rfl⟩ := r; exact .int i t
  | .str x, _, _, h, r => by cases h; obtain ⟨t, rfl⟩ := r; exact .str x t
  | .list ds, _, _, h, r => by
    cases h with
    | lst hs ha =>
      cases r
      obtain ⟨its, rv, ⟨o, n, q1, q2, _, q3⟩, _⟩ := I.list hs
      exact .list q1 q2 q3 (dps_rds I ds _ its ha rv)
  | .tuple ds, _, _, h, r => by
    cases h with
    | tup hs ha =>
      cases r
      obtain ⟨its, rv, ⟨o, q1, q2, n, q3⟩, _⟩ := I.tuple hs
      exact .tuple q1 q2 q3 (dps_rds I ds _ its ha rv)
  | .dict _, _, _, h, _ => by (cases h)
theorem dps_rds (I : Inv X pins σ H s) : ∀ (ds : List PyData) (vs : List V) (us : List Value), DpAll X.K H vs ds → Vals vs us → RdSs s.heap us ds
  | [], _, _, h, r => by cases h; cases r; exact .nil
  | d :: ds, _, _, h, r => by
    cases h with
    | cons h1 h2 =>
      cases r with
      | cons r1 r2 => exact .cons (dp_rds I d _ _ h1 r1) (dps_rds I ds _ _ h2 r2)
end
mutual
theorem Dx.rds (I : Inv X pins σ H s) : ∀ {v : V} {d : PyData} {u : Value}, Dx X.K H v d → RelV v u → RdS s.heap u d
  | _, _, _, .of h, r => dp_rds I _ _ _ h r
  | _, _, _, .dict (a := a) h, r => by
    cases r
    obtain ⟨_, hs, vs, rel, ob, es, ep, q1, q2, q3, _, q4, _⟩ := dk_of I.hok h
    cases rel
    have e0 : es = #[] := by
      obtain ⟨l⟩ := es
      cases l with
      | nil => rfl
      | cons x l => cases q4
    subst e0
    exact .dict q1 q2.1 q3 hs
  | _, _, _, .list h g, r => by
    cases r
    obtain ⟨z, its, n, rv, _, e⟩ := I.lstM h
    exact .list e rfl rfl (Dxs.rds I g (by simpa using rv))
theorem Dxs.rds (I : Inv X pins σ H s) : ∀ {vs : List V} {ds : List PyData} {us : List Value}, Dxs X.K H vs ds → Vals vs us → RdSs s.heap us ds
  | _, _, _, .nil, r => by cases r; exact .nil
  | _, _, _, .cons h g, r => by
    cases r with
    | cons r1 r2 => exact .cons (Dx.rds I h r1) (Dxs.rds I g r2)
end
end
end K23
namespace K23
open PySem PyProof.Rows PySem.Spec L2
/-- repr of a list, not empty -/
def rRepr (K : PySem.W.Frag) : List V → Hp → VK → Prop := fun vs H Q => ∃ (a : Addr) (x : V) (xs : List V) (ds : List PyData), vs = [.ref a] ∧ H a = some (.lst (x :: xs)) ∧ Dxs K H (x :: xs) ds ∧ PyData.showableAll ds = true ∧ (PyData.shown (.list ds)).length ≤ sizeLine ∧ PyData.depthAll ds ≤ 60 ∧ Q (.str (PyData.shown (.list ds))) H
theorem call_reprG {X : Cx} (hg : X.A.guards = some []) (hu : X.A.units + 64 < cLine) : CallR X (.builtin "repr") (rRepr X.K) := by
  (intro pins s σ H vs us Q I r h)
  obtain ⟨a, x, xs, ds, rfl, ha, hx, hs, hz, hd, q⟩ := h
  (obtain ⟨u, rfl, ru⟩ := vals1 r)
  cases ru
  obtain ⟨zz, its, n, rv, _, e⟩ := I.lstM ha
  have rd := Dxs.rds I hx rv
  simp only [PyData.shown] at hz q
  obtain ⟨bs, p1, p2⟩ := RdSs.repr (prog := X.prog) (w := X.w) rd hs fun t ht => Nat.le_trans (listText_mem_le ht) hz
  obtain ⟨as, ra⟩ := RdSs.reads rd
  have rl : Reads s.heap (.ref a) (.list ds) _ := Reads.list e rfl rfl (by simpa using ra)
  have out : a ∉ bs := not_mem_of_deeper rl (by simp only [PyData.depth]; omega) p1
  cases rv with
  | @cons _ y _ ys r1 r2 =>
    refine call_repr_slot (T := "list") (by omega) ⟨_, e, rfl⟩ F.slot_list_repr.toG ?_
    refine call_list_reprK (x := y) (l := ys) e rfl rfl out (by simpa using p2.length_eq) (fun i z ez => p2.item i z (by simpa using ez)) (g := []) hg (fun b _ => Clear.nil b) (by show X.A.units + 1 + (PyData.depthAll ds + 1) < cLine; omega) (fun _ _ q => q) (fun h' t tk hk => ⟨_, _, rfl, ?_⟩) hz
    exact ⟨.str (listText (PyData.shownAll ds)), H, I.kept (t' := tk) hk, ⟨_, rfl⟩, q⟩
/-! ### defs whose caller guards nothing -/
structure FnOkG (P : Program) (w : World) (K : PySem.W.Frag) (mg : Str → Option Value) (base : Heap) (k : Nat) (f : Addr) (fd : FuncData) (ps : List Str) (sp : Sp) : Prop where
  len : ∀ us G R E, sp us G R E → us.length = ps.length
  run : ∀ (A : Around) (outer : List Env) (s : Shared) (H : Hp) (args : Args) (us : List Value) (vs : List V) (Q : VK) (E : XK), A.guards = some [] → Room k A → Env0 P w K mg base A outer s H → BindsTo s fd args (ps.zip us) → Vals vs us → sp vs H Q E →
    codeAny (model P w) A (.call (.ref f) args) (CR CX0 outer P w H s Q E) s
section
variable {w : World} {P : Program} {K : PySem.W.Frag} {base : Heap} {mg : Str → Option Value}
theorem okG {x qual : Str} {st : Stmt} {f : Addr} {fd : FuncData} {N ps : List Str} {k : Nat} {sp : Sp} (F : L2.Fun K x qual st f fd) (S : FnScope N ps (defScope st)) (len : ∀ vs H Q E, sp vs H Q E → vs.length = ps.length)
    (hbody : ∀ (cdv : Value) (A : Around) (outer : List Env) (s : Shared) (H : Hp) (vs : List V) (Q : VK) (E : XK), A.guards = some [] → Room k (A.deeper (envOfC qual (defScope st) s.heap.objs.size f cdv)) → sp vs H Q E →
      ∃ t, PSs (cxOf CX0 P w K mg base N qual (defScope st) f cdv A outer s H E).nox (defBody st) t ∧ t { nx := fun _ H' => Q .non H', rt := Q } (start N vs) H) : FnOkG P w K mg base (k + 1) f fd ps sp := by
  obtain ⟨oc, od, kV, doc, pm, an, cdv, ct, osl, rfl, lk, code⟩ := F.ex
  refine ⟨len, fun A outer s H args us vs Q E gd room ev0 bnd rel want => ?_⟩
  have nums := len _ _ _ _ want
  have inK : K.In s.heap := ev0.mod.kin.keeps fun b o e => (ev0.bs b o e).1
  have noLim : s.heap.NoLimit := ev0.mod.nolimit.keeps fun b o e => (ev0.bs b o e).1
  have places : ∀ y ∈ ps.zip us, (defScope st).names.lookup y.1 = some .local ∨ ((defScope st).names.lookup y.1 = some .cell ∧ ((cellsFrom (s.heap.objs.size + 1) (defScope st).names []).lookup y.1).isSome = true) := by
    rintro ⟨n, v⟩ hy
    (rcases S.par n (List.of_mem_zip hy).1 with q | q)
    · exact .inl q
    · exact (.inr ⟨q, PySem.W.cellsFrom_some _ _ _ (.inl q)⟩)
  refine codeAny_call_function room.depth (inK _ _ lk) rfl S.co S.gen rfl (PySem.W.codeRec_of inK code) (bnd _ _ _ _ ?_)
  refine wpAny_newFunctionEnv_cells S.kind places fun env he s1 inn => ?_
  subst he
  refine ⟨noLim.keeps inn.toInCall.keep, codeAny_func ?_⟩
  obtain ⟨t, ht, hq⟩ := hbody cdv A outer s H vs Q E gd (room.deeper _) want
  have I : Inv (cxOf CX0 P w K mg base N qual (defScope st) f cdv A outer s H E) [] (start N vs) H s1 := inv_start S room.hd ev0 nums rel inn
  refine wpAny_mono (ht.nox.run [] s1 (start N vs) H _ I hq) (fun fl s2 hs => ?_) fun e s2 hs => hs
  have done : ∀ {σ2 : L2.St} {H2 : Hp} {v : V} {u : Value}, Inv (cxOf CX0 P w K mg base N qual (defScope st) f cdv A outer s H E) [] σ2 H2 s2 → RelV v u → Q v H2 → CE outer P w H s Q u s2 := by
    intro σ2 H2 v u J rv q
    exact ⟨v, H2, J.os, J.bare, J.base, J.hok, rv, q⟩
  cases fl with
  | ret u => exact let ⟨v, σ2, H2, J, rv, q⟩ := hs; done J rv q
  | next => exact let ⟨σ2, H2, J, q⟩ := hs; done (v := V.non) (u := Value.none) J rfl q
  | brk => exact let ⟨_, _, _, q⟩ := hs; False.elim q
  | cont => exact let ⟨_, _, _, q⟩ := hs; False.elim q
structure CalG (P : Program) (w : World) (K : PySem.W.Frag) (mg : Str → Option Value) (base : Heap) (k : Nat) (x : Str) (ps : List Str) (sp : Sp) : Prop where
  ex : ∃ (f : Addr) (fd : FuncData), FnOkG P w K mg base k f fd ps sp ∧ mg x = some (.ref f) ∧ PySem.W.keepIn K (.ref f) = true ∧ Binds K fd ps []
theorem CalG.mk' {x : Str} {i : Nat} {k : Nat} {N ps : List Str} {sp : Sp} (D : Df K mg x i) (S : FnScope N ps (defScope (topS i)))
    (hb : ∀ (kV doc pm : Value) (an : Option Addr) (cdv ct : Value) (us : List Value), us.length = ps.length → bindArgs (PySem.W.fnOf x x (defArgs (topS i)) (defBody (topS i)) (defScope (topS i)) .none kV doc pm an cdv ct) ⟨us, []⟩ = pure (ps.zip us))
    (len : ∀ us G R E, sp us G R E → us.length = ps.length)
    (hbody : ∀ (f : Addr) (cdv : Value) (A : Around) (outer : List Env) (s : Shared) (H : Hp) (vs : List V) (Q : VK) (E : XK), A.guards = some [] → Room k (A.deeper (envOfC x (defScope (topS i)) s.heap.objs.size f cdv)) → sp vs H Q E →
      ∃ t, PSs (cxOf CX0 P w K mg base N x (defScope (topS i)) f cdv A outer s H E).nox (defBody (topS i)) t ∧ t { nx := fun _ H' => Q .non H', rt := Q } (start N vs) H) : CalG P w K mg base (k + 1) x ps sp := by
  obtain ⟨f, fd, F, hm⟩ := D.ex
  exact ⟨f, fd, okG F S len (hbody f), hm, F.kp, F.binds hb⟩
end
section
variable {X : Cx} {k j : Nat} {x : Str} {ps : List Str} {sp : Sp} {p pos : Pos} {e : Expr} {es : List Expr} {t : TA}
theorem pcG (c : CalG X.prog X.w X.K X.mg X.base k x ps sp) (gd : X.A.guards = some []) (hr : Room j X.A) (hk : k ≤ j) (hg : Gl X x) (ha : PA X (e :: es) t)
    (hdb : (x == ("__debug__" : Str)) = false := by decide) (he : starEach (e :: es) X.env = (false, eval e X.env) :: starEach es X.env := by rfl) (hpl : (backTo pos (starEach es X.env)).any (·.1) = false := by rfl) : PE X (.Call (.Name x p) (e :: es) [] pos) (tCall sp [] E0 t) := by
  obtain ⟨f, fd, F, hm, kp, b⟩ := c.ex
  refine ⟨fun pins s σ H Q I want => ?_⟩
  (refine wpAny_Call_Name_kw (ld_glob I hg hm ?_ hdb))
  refine PySem.W.callWith_K (h₀ := X.base) I.ok.mod.kin kp (thn (ha.run pos pins s σ H _ I want) fun us s1 ⟨vs, H1, I1, r, q⟩ => ⟨I1.kIn, ?_⟩) he hpl
  have q : sp vs H1 Q E0 := by
    have q' : sp (vs ++ []) H1 Q E0 := q
    rwa [List.append_nil] at q'
  have nums : us.length = ps.length := by rw [← r.length]; exact F.len _ _ _ _ q
  have bnd := b s1 us I1.kIn (by rw [List.append_nil]; exact nums)
  rw [List.append_nil] at bnd
  refine wpAny_call (codeAny_mono (F.run X.A X.stack s1 H1 ⟨us, []⟩ us vs Q E0 gd (hr.mono hk) I1.env0 bnd r q) fun res s2 got => ?_)
  cases res with
  | error er => exact pass0 pins σ H1 s1 er s2 I1 got
  | ok fl =>
    cases fl with
    | ret u => exact I1.after got
    | next => exact False.elim got
    | brk => exact False.elim got
    | cont => exact False.elim got
end
end K23
namespace K23
open PySem PyProof.Rows PySem.Spec L2
/-! ### what a told list shows -/
theorem log2_small {x : Int} (h : 0 ≤ x) (h2 : x < 1000) : x.natAbs.log2 < 1920 := by
  have h3 : x.natAbs.log2 ≤ x.natAbs := Nat.log2_le_self _
  omega
theorem showable_ints : ∀ {ns : List Int}, (∀ x ∈ ns, 0 ≤ x ∧ x < 1000) → PyData.showableAll (ns.map PyData.int) = true
  | [], _ => rfl
  | n :: ns, h => by
    rw [List.map_cons, PyData.showableAll, PyData.showable, showable_ints fun x hx => h x (by simp [hx]), decide_eq_true (log2_small (h n (by simp)).1 (h n (by simp)).2)]
    rfl
theorem short_ints : ∀ {ns : List Int}, (∀ x ∈ ns, 0 ≤ x ∧ x < 1000) → PyData.leavesShortAll 100 (ns.map PyData.int) = true
  | [], _ => rfl
  | n :: ns, h => by
    have h1 := h n (by simp)
    have h2 := PyData.shown_int_le2 (i := n) (by omega) (by omega)
    rw [List.map_cons, PyData.leavesShortAll, PyData.leavesShort, short_ints fun x hx => h x (by simp [hx]), decide_eq_true (by omega)]
    rfl
theorem bulk_ints : ∀ ns : List Int, PyData.bulkAll (ns.map PyData.int) = ns.length
  | [] => rfl
  | n :: ns => by rw [List.map_cons, PyData.bulkAll, PyData.bulk, bulk_ints ns, List.length_cons]; omega
theorem depth_ints : ∀ ns : List Int, PyData.depthAll (ns.map PyData.int) = 0
  | [] => rfl
  | n :: ns => by rw [List.map_cons, PyData.depthAll, PyData.depth, depth_ints ns]; rfl
abbrev toldN : List PyData := [.str "told", .none]
abbrev toldT (ns : List Int) : List PyData := [.str "told", .tuple (ns.map PyData.int)]
theorem toldN_len : (PyData.shown (.list toldN)).length ≤ sizeLine := by
  have h := PyData.shown_le_bulk 100 (by decide) (.list toldN) (by decide +kernel)
  have e : PyData.bulk (.list toldN) = 6 := by decide +kernel
  rw [e] at h
  rw [sizeLine_eq]; omega
theorem toldT_len {ns : List Int} (h : ∀ x ∈ ns, 0 ≤ x ∧ x < 1000) (hl : ns.length ≤ 1000) : (PyData.shown (.list (toldT ns))).length ≤ sizeLine := by
  have h1 : PyData.leavesShort 100 (.list (toldT ns)) = true := by
    rw [PyData.leavesShort, PyData.leavesShortAll, PyData.leavesShortAll, PyData.leavesShortAll, PyData.leavesShort, PyData.leavesShort, short_ints h]
    decide +kernel
  have h2 := PyData.shown_le_bulk 100 (by decide) _ h1
  have e : PyData.bulk (.list (toldT ns)) = 6 + ns.length := by
    rw [PyData.bulk, PyData.bulkAll, PyData.bulkAll, PyData.bulkAll, PyData.bulk, PyData.bulk, bulk_ints]
    have : (Str.ofString "told").cps.size = 4 := by decide +kernel
    rw [this]; omega
  rw [e] at h2
  rw [sizeLine_eq]; omega
theorem dxs_N {K : PySem.W.Frag} {H : Hp} : Dxs K H [.str "told", .non] toldN := .cons (.of (.str _)) (.cons (.of .non) .nil)
theorem dxs_T {K : PySem.W.Frag} {H : Hp} {a : Addr} {ns : List Int} (h : SqT K H a (ns.map V.int)) : Dxs K H [.str "told", .ref a] (toldT ns) := .cons (.of (.str _)) (.cons (.of (.tup h (dps_ints ns))) .nil)
theorem sorted_uniq {ns ms ws : List Int} (h1 : ns.Perm ws) (h2 : ms.Perm ws) (s1 : ns.Pairwise (· ≤ ·)) (s2 : ms.Pairwise (· ≤ ·)) : ns = ms :=
  List.Perm.eq_of_pairwise (le := fun a b : Int => a ≤ b) (fun a b _ _ x y => Int.le_antisymm x y) s1 s2 (h1.trans h2.symm)
theorem asc_of {ns : List Int} (h : ns.Pairwise (· ≤ ·)) (nd : ns.Nodup) : ns.Pairwise (· < ·) := by
  have := h.and nd
  exact this.imp fun {a b} ⟨x, y⟩ => by
    have : a ≠ b := y
    omega
/-- a lot that is told shows -/
theorem lot_shows {t : Tr} {one other : Int} {ns : List Int} (sm : Sm t) (nd : t.btn.Nodup) (h1 : one ∈ t.btn) (h2 : other ∈ t.btn) (hne : one ≠ other) (hov : (t.norm srt).over one other = false) (hp : ns.Perm ((t.norm srt).wl one other)) :
    (∀ x ∈ ns, x ∈ t.btn ∧ x ≠ one ∧ x ≠ other) ∧ ns.Nodup ∧ ns.length ≤ 24 ∧ t.go (inL (ns ++ [other])) = true ∧ t.go (inL (ns ++ [one])) = false := by
  have N := norm_ok srt_perm t sm.ok
  have W := wl_ok hne (t.norm srt) N.ok N.red (N.btn.symm.nodup nd) (N.btn.mem_iff.mpr h1) (N.btn.mem_iff.mpr h2) hov
  have mem : ∀ x, x ∈ ns ↔ x ∈ (t.norm srt).wl one other := fun x => hp.mem_iff
  have sub : ∀ x ∈ ns, x ∈ t.btn ∧ x ≠ one ∧ x ≠ other := fun x hx => by
    obtain ⟨q1, q2, q3⟩ := W.sub x ((mem x).mp hx)
    exact ⟨N.btn.mem_iff.mp q1, q2, q3⟩
  have nn : ns.Nodup := hp.symm.nodup W.nd
  refine ⟨sub, nn, Nat.le_trans (nd_len ns t.btn nn fun x hx => (sub x hx).1) sm.len, ?_, ?_⟩
  · rw [← N.go]
    refine W.yes _ (fun x hx e1 e2 => decide_eq_decide.mpr ?_) (decide_eq_false ?_) (decide_eq_true (by simp))
    · rw [List.mem_append, List.mem_singleton, mem]
      exact ⟨fun z => z.resolve_right e2, .inl⟩
    · rw [List.mem_append, List.mem_singleton]
      rintro (z | z)
      · exact (sub _ z).2.1 rfl
      · exact hne z
  · rw [← N.go]
    refine W.no _ (fun x hx e1 e2 => decide_eq_decide.mpr ?_) (decide_eq_true (by simp)) (decide_eq_false ?_)
    · rw [List.mem_append, List.mem_singleton, mem]
      exact ⟨fun z => z.resolve_right e1, .inl⟩
    · rw [List.mem_append, List.mem_singleton]
      rintro (z | z)
      · exact (sub _ z).2.2 rfl
      · exact hne z.symm
theorem ne_self (x : V) : (!decide (x = x)) = false := by rw [decide_eq_true rfl]; rfl
section
variable {P : Program} {w : World} {K : PySem.W.Frag} {mg : Str → Option Value} {base : Heap} {C D fI : Addr} {mc : Value}
/-! ### _law_is_right: slots _law_tree_here 0, _law_row 1, _law_one 2, _law_other 3, _law_is_no_worse_here 4, _law_is_named 5, _law_found 6 -/
def spRight (K : PySem.W.Frag) : Sp := fun vs H Q _ => ∃ (v : V) (t : Tr) (r : Addr) (row : List Int) (one other : Int) (nw nm : Bool), vs = [v, .ref r, .int one, .int other, .bl nw, .bl nm] ∧ TV K H v t ∧ Sm t ∧ t.btn.Nodup ∧ t.dep ≤ 12 ∧ H r = some (.lst (row.map V.int)) ∧
  (∀ x ∈ t.btn, x ∈ row) ∧ (∀ x ∈ row, 0 ≤ x ∧ x < 100) ∧ one ∈ t.btn ∧ other ∈ t.btn ∧ (nw = true ↔ (one = other ∨ (t.norm srt).over one other = true)) ∧ ∀ H', Same H H' → Q (.bl true) H'
theorem sc_law_is_right : FnScope ["_law_tree_here", "_law_row", "_law_one", "_law_other", "_law_is_no_worse_here", "_law_is_named", "_law_found"] ["_law_tree_here", "_law_row", "_law_one", "_law_other", "_law_is_no_worse_here", "_law_is_named"] (defScope (topS 42)) := ⟨rfl, rfl, rfl, by decide +kernel, rfl, by decide +kernel, by decide +kernel⟩
theorem c_law_is_right (T : Txt K mg) (N : Nb K mg C D fI mc) : CalG P w K mg base 21 "_law_is_right" ["_law_tree_here", "_law_row", "_law_one", "_law_other", "_law_is_no_worse_here", "_law_is_named"] (spRight K) := by
  refine CalG.mk' T.d_law_is_right sc_law_is_right (fun _ _ _ _ _ _ us hl => match us, hl with | [_, _, _, _, _, _], _ => rfl) (fun vs H Q E h => ?_) (fun f cdv A outer s H vs Q E gd hr h => ?_)
  · obtain ⟨_, _, _, _, _, _, _, _, rfl, _⟩ := h; rfl
  · obtain ⟨v, t, r, row, one, other, nw, nm, rfl, ht, sm, nd, hd, er, hrow, hbd, h1, h2, hnw, k⟩ := h
    refine ⟨_, (pss_cons (ps_set (i := 6) sc_law_is_right.nd rfl (Or.inl rfl) (pc (c_law_told T N) hr (by decide) (by rfl) (pa_cons (pv 0) (pa_cons (pv 2) (pa_cons (pv 3) (pa_cons (pv 5) pa_nil))))))
        (pss_cons (ps_if (PW.pt (pw_or (pt_cmpR op_ne (pe_ix ix_list (pv 6) pe_int (fun _ _ => rfl)) pe_str (nomark _)) (pw_or1 (pt_cmpR op_ne (pe_callB (call_reprG gd hr.units) (by rfl) T.n_repr boot_repr (pa_cons (pc (c_law_told T N) hr (by decide) (by rfl) (pa_cons (pv 0) (pa_cons (pv 2) (pa_cons (pv 3) (pa_cons (pe_not (pv 5)) pa_nil))))) pa_nil)) (pe_callB (call_reprG gd hr.units) (by rfl) T.n_repr boot_repr (pa_cons (pv 6) pa_nil)) (nomark _))))) (pss_one (ps_ret pe_bl)) pss_nil)
        (pss_one (ps_ret (pe_ifExp (pt_val (pv 4)) (pe_cmpR op_isN (pe_ix ix_list (pv 6) pe_int (fun _ _ => rfl)) pe_non (nomark _)) (pc (c_law_shows T) hr (by decide) (by rfl) (pa_cons (pv 0) (pa_cons (pv 1) (pa_cons (pv 2) (pa_cons (pv 3) (pa_cons (pe_ix ix_list (pv 6) pe_int (fun _ _ => rfl)) pa_nil))))))))))), ?_⟩
    by_cases c : one = other ∨ (t.norm srt).over one other = true
    · have enw : nw = true := hnw.mpr c
      subst enw
      have no : one ≠ other → (t.norm srt).over one other = false → False := fun e1 e2 => by
        rcases c with c | c
        · exact e1 c
        · rw [e2] at c; cases c
      refine ⟨_, rfl, _, rfl, _, rfl, _, rfl, v, t, _, _, nm, rfl, ht, sm, nd, hd, .inl ⟨one, other, rfl, rfl, h1, h2, fun _ H1 s1 l hl => ?_, fun e1 e2 => (no e1 e2).elim⟩⟩
      have s2 := s1.trans (Same.new (o := .lst [.str "told", .non]) hl)
      have el : upd H1 l (.lst [.str "told", .non]) l = some (.lst [.str "told", .non]) := upd_same
      generalize upd H1 l (.lst [.str "told", .non]) = G at s2 el
      refine ⟨_, rfl, l, _, 0, .str "told", rfl, rfl, SqL.of el, rfl, rfl, _, rfl, ?_⟩
      rw [ne_self]
      refine iteF ⟨_, rfl, _, rfl, _, rfl, _, rfl, _, rfl, v, t, _, _, !nm, rfl, ht.mono s2, sm, nd, hd, .inl ⟨one, other, rfl, rfl, h1, h2, fun _ H3 s3 l2 hl2 => ?_, fun e1 e2 => (no e1 e2).elim⟩⟩
      have s4 := s3.trans (Same.new (o := .lst [.str "told", .non]) hl2)
      refine ⟨l2, _, _, toldN, rfl, upd_same, dxs_N, rfl, toldN_len, by decide, _, rfl, l, _, _, toldN, rfl, s4 _ _ el, dxs_N, rfl, toldN_len, by decide, rfl, _, rfl, ?_⟩
      rw [ne_self]
      exact iteF ⟨_, rfl, _, rfl, iteT ⟨_, rfl, l, _, 1, .non, rfl, rfl, SqL.of (s4 _ _ el), rfl, rfl, k _ (s2.trans s4)⟩⟩
    · have hne : one ≠ other := fun e => c (.inl e)
      have hov : (t.norm srt).over one other = false := by
        cases e : (t.norm srt).over one other with
        | true => exact absurd (.inr e) c
        | false => rfl
      have enw : nw = false := by
        cases nw with
        | true => exact absurd (hnw.mp rfl) c
        | false => rfl
      subst enw
      refine ⟨_, rfl, _, rfl, _, rfl, _, rfl, v, t, _, _, nm, rfl, ht, sm, nd, hd, .inl ⟨one, other, rfl, rfl, h1, h2, fun e => absurd e c, fun _ _ a H1 ns s1 ea pa sa l hl => ?_⟩⟩
      obtain ⟨sub, nn, nl, g1, g2⟩ := lot_shows sm nd h1 h2 hne hov pa
      have bds : ∀ x ∈ ns, 0 ≤ x ∧ x < 1000 := fun x hx => by have := hbd x (hrow x (sub x hx).1); omega
      have sl := Same.new (o := .lst [.str "told", .ref a]) hl
      have s2 := s1.trans sl
      have el : upd H1 l (.lst [.str "told", .ref a]) l = some (.lst [.str "told", .ref a]) := upd_same
      have ea2 := sl _ _ ea
      generalize upd H1 l (.lst [.str "told", .ref a]) = G at s2 el ea2
      refine ⟨_, rfl, l, _, 0, .str "told", rfl, rfl, SqL.of el, rfl, rfl, _, rfl, ?_⟩
      rw [ne_self]
      refine iteF ⟨_, rfl, _, rfl, _, rfl, _, rfl, _, rfl, v, t, _, _, !nm, rfl, ht.mono s2, sm, nd, hd, .inl ⟨one, other, rfl, rfl, h1, h2, fun e => absurd e c, fun _ _ a2 H3 ms s3 eb pb sb l2 hl2 => ?_⟩⟩
      have e := sorted_uniq pb pa sb sa
      subst e
      have sl2 := Same.new (o := .lst [.str "told", .ref a2]) hl2
      have s4 := s3.trans sl2
      have sh : PyData.showableAll (toldT ms) = true := by
        rw [PyData.showableAll, PyData.showableAll, PyData.showableAll, PyData.showable, PyData.showable, showable_ints bds]; rfl
      have dp : PyData.depthAll (toldT ms) ≤ 60 := by
        rw [PyData.depthAll, PyData.depthAll, PyData.depthAll, PyData.depth, PyData.depth, depth_ints]; decide
      have tl := toldT_len bds (by omega)
      refine ⟨l2, _, _, toldT ms, rfl, upd_same, dxs_T (SqT.of (sl2 _ _ eb)), sh, tl, dp, _, rfl, l, _, _, toldT ms, rfl, s4 _ _ el, dxs_T (SqT.of (s4 _ _ ea2)), sh, tl, dp, rfl, _, rfl, ?_⟩
      rw [ne_self]
      refine iteF ⟨_, rfl, _, rfl, iteF ⟨_, rfl, _, rfl, _, rfl, _, rfl, _, rfl, l, _, 1, .ref a, rfl, rfl, SqL.of (s4 _ _ el), rfl, v, t, r, a, row, ms, one, other, rfl, ht.mono (s2.trans s4), sm, hd, (s2.trans s4) _ _ er, s4 _ _ ea2, fun x hx => ?_, asc_of sa nn, by omega, g1, g2, fun H5 s5 => k _ ((s2.trans s4).trans s5)⟩⟩
      obtain ⟨q1, q2, q3⟩ := sub x hx
      exact ⟨hrow x q1, q2, q3⟩
end
end K23
namespace K23
open PySem PyProof.Rows PySem.Spec L2
section
open PySem.SeqAt AutoSeq1 MeetsSeq
theorem int_no_dict (b : Int) (u : Tok) (l : Addr) (es : Array DictEntry) (n : Nat) (dd : Option Addr) (sl : Array (Option Value)) :
    Meets (Builtin.«int.__eq__» ⟨[.int b u, .ref l], []⟩) (fun _ R s => s.heap.get? l = some { cls := .type "dict", dict := dd, data := .dict es n, slots := sl } ∧ R (.ok (.ret .notImplemented)) s) :=
  .of_wp fun pg w A R s h => by
    (obtain ⟨hp, g, d, tk, os⟩ := s)
    obtain ⟨hl, h⟩ := h
    wp_walk using wpAny_loadPart' hl, wpAny_load hl
    exact ⟨_, rfl, h⟩
theorem dict_no_int (b : Int) (u : Tok) (l : Addr) (es : Array DictEntry) (n : Nat) (dd : Option Addr) (sl : Array (Option Value)) :
    Meets (Builtin.«dict.__eq__» ⟨[.ref l, .int b u], []⟩) (fun _ R s => s.heap.get? l = some { cls := .type "dict", dict := dd, data := .dict es n, slots := sl } ∧ R (.ok (.ret .notImplemented)) s) :=
  .of_wp fun pg w A R s h => by
    (obtain ⟨hp, g, d, tk, os⟩ := s)
    obtain ⟨hl, h⟩ := h
    have f1 := F.sub_int_dict
    wp_walk using wpAny_loadPart' hl, wpAny_load hl
    exact ⟨_, rfl, h⟩
end
end K23
namespace K23
open PySem PyProof.Rows PySem.Spec L2
section
open PySem.SeqAt
theorem eq_int_dict {A : Around} {s : Shared} {l : Addr} {o : Obj} {es : Array DictEntry} {n : Nat} (b : Int) (u : Tok) (ho : s.heap.get? l = some o) (hc : o.cls = .type "dict") (hd : o.data = .dict es n) (hu : A.units < cLine) : EqAt A s (.int b u) (.ref l) false := fun prog w E Q h => by
  obtain ⟨cls, dd, data, sl⟩ := o
  simp only at hc hd
  subst hc hd
  unfold eqBool
  refine wpAny_holding ?_
  refine wpAny_ite_split (fun same => absurd (eq_of_beq same) nofun) (fun _ => ?_)
  refine wpAny_bind (rc_eq_decline_or (k := false) (typeIs_int s b u) ⟨_, ho, rfl⟩ (by decide) F.sub_dict_int F.slot_int_eq F.slot_dict_eq_refl
    (fun _ hq => call_meets F.slot_int_eq (typeIs_int s b u) F.entry_int_eq (F.args_int_eq_2 _ _) (int_no_dict b u l es n dd sl) ⟨ho, hq⟩)
    (fun _ hq => call_meets F.slot_dict_eq_refl ⟨_, ho, rfl⟩ F.entry_dict_eq (F.args_dict_eq_2 _ _) (dict_no_int b u l es n dd sl) ⟨ho, hq⟩)
    (fun _ hq => wpAny_of_eq (rfl : isSame (.int b u) (.ref l) = pure false) hq) (.inr hu) (wpAny_truthy_bool h))
end
/-- an object that is no int -/
def NoInt (K : PySem.W.Frag) (H : Hp) (a : Addr) : Prop := (∃ xs, SqT K H a xs) ∨ (∃ xs, H a = some (.lst xs)) ∨ H a = some (.dK [])
/-- a value not in a list of ints -/
def rNotOdd (K : PySem.W.Frag) : R2 := fun x y H Q => ∃ (p : Addr) (ns : List Int), y = .ref p ∧ H p = some (.lst (ns.map V.int)) ∧ ((∃ a, x = .ref a ∧ NoInt K H a ∧ Q (.bl true) H) ∨ (flatV x = true ∧ Q (.bl (!inV x (ns.map V.int))) H))
theorem op_notOdd {X : Cx} {K : PySem.W.Frag} (hK : X.K = K) (hu : X.A.units + 64 < cLine) : OpR X (compareOp .NotIn) (rNotOdd K) := by
  subst hK
  intro pins s σ H x y v u Q I rx ry want
  obtain ⟨p, ns, rfl, hp, ⟨a, rfl, no, q⟩ | ⟨fl, q⟩⟩ := want
  · cases ry
    cases rx
    obtain ⟨its, rv, pl, _⟩ := I.list (SqL.of hp)
    have hin : X.A.in1.units < cLine := by show X.A.units + 1 < cLine; omega
    refine SeqAt.notIn_listAt (fun _ => false) pl.isList (fun w hw => ?_) ⟨.bl _, H, I, rfl, ?_⟩
    · obtain ⟨i, hi⟩ := List.getElem?_of_mem (show w ∈ its by simpa using hw)
      have hlt : i < (ns.map V.int).length := by rw [rv.length]; exact (List.getElem?_eq_some_iff.mp hi).1
      obtain ⟨u', hu', ru⟩ := rv.get (List.getElem?_eq_getElem hlt)
      rw [hi] at hu'
      cases hu'
      rw [List.getElem_map] at ru
      obtain ⟨t, rfl⟩ := ru
      rcases no with ⟨xs, h⟩ | ⟨xs, h⟩ | h
      · obtain ⟨its2, _, pl2, _⟩ := I.tuple h
        exact SeqAt.EqAt.int_tuple _ t pl2 hin
      · obtain ⟨its2, _, pl2, _⟩ := I.list (SqL.of h)
        exact SeqAt.EqAt.int_list _ t pl2.isList hin
      · obtain ⟨_, _, vs, _, ob, es, ep, q1, q2, q3, _⟩ := dk_of I.hok h
        exact eq_int_dict _ t q1 q2.1 q3 hin
    · have : its.toArray.any (fun _ => false) = false := by simp
      rw [this]
      exact q
  · exact op_notIn_seq pins s σ H x (.ref p) v u Q I rx ry ⟨p, _, rfl, .inl (SqL.of hp), fl, flat_ints ns, q⟩
end K23
namespace K23
open PySem PyProof.Rows PySem.Spec L2
/-! ### odd values -/
def Shn (d : PyData) : Prop := d.showable = true ∧ d.leavesShort 100 = true ∧ d.bulk ≤ 100 ∧ d.depth ≤ 10
/-- a value that the law may hand in -/
structure Cand (K : PySem.W.Frag) (H : Hp) (z : V) : Prop where
  kind : (∃ k, z = .bl k) ∨ (∃ a, z = .ref a ∧ NoInt K H a) ∨ z = .non ∨ (∃ s, z = .str s) ∨ ∃ b, z = .int b
  data : ∃ d, Dx K H z d ∧ Shn d
theorem NoInt.mono {K : PySem.W.Frag} {H H' : Hp} {a : Addr} (h : NoInt K H a) (s : Same H H') : NoInt K H' a := by
  rcases h with ⟨xs, h⟩ | ⟨xs, h⟩ | h
  · exact .inl ⟨xs, s.seqT h⟩
  · exact .inr (.inl ⟨xs, s _ _ h⟩)
  · exact .inr (.inr (s _ _ h))
theorem Cand.mono {K : PySem.W.Frag} {H H' : Hp} {z : V} (h : Cand K H z) (s : Same H H') : Cand K H' z := by
  refine ⟨?_, let ⟨d, h1, h2⟩ := h.data; ⟨d, h1.mono s, h2⟩⟩
  rcases h.kind with h | ⟨a, h1, h2⟩ | h | h | h
  · exact .inl h
  · exact .inr (.inl ⟨a, h1, h2.mono s⟩)
  · exact .inr (.inr (.inl h))
  · exact .inr (.inr (.inr (.inl h)))
  · exact .inr (.inr (.inr (.inr h)))
/-- not in the row -/
def offRow (row : List Int) : V → Bool
  | .int b => decide (b ∉ row)
  | _ => true
structure Odd (K : PySem.W.Frag) (H : Hp) (row : List Int) (z : V) : Prop where
  cand : Cand K H z
  off : offRow row z = true
theorem Odd.mono {K : PySem.W.Frag} {H H' : Hp} {row : List Int} {z : V} (h : Odd K H row z) (s : Same H H') : Odd K H' row z := ⟨h.cand.mono s, h.off⟩
theorem kit_b {K : PySem.W.Frag} : PySem.W.kitOne K (.type "bool") (.type "bool") = some true := kit_ty (by decide +kernel)
theorem kit_n {K : PySem.W.Frag} : PySem.W.kitOne K (.type "NoneType") (.type "bool") = some false ∧ PySem.W.kitOne K (.type "NoneType") (.type "int") = some false := ⟨kit_ty (by decide +kernel), kit_ty (by decide +kernel)⟩
theorem kit_s {K : PySem.W.Frag} : PySem.W.kitOne K (.type "str") (.type "bool") = some false ∧ PySem.W.kitOne K (.type "str") (.type "int") = some false := ⟨kit_ty (by decide +kernel), kit_ty (by decide +kernel)⟩
theorem kit_l {K : PySem.W.Frag} : PySem.W.kitOne K (.type "list") (.type "bool") = some false ∧ PySem.W.kitOne K (.type "list") (.type "int") = some false := ⟨kit_ty (by decide +kernel), kit_ty (by decide +kernel)⟩
theorem kit_t {K : PySem.W.Frag} : PySem.W.kitOne K (.type "tuple") (.type "bool") = some false ∧ PySem.W.kitOne K (.type "tuple") (.type "int") = some false := ⟨kit_ty (by decide +kernel), kit_ty (by decide +kernel)⟩
theorem kit_d {K : PySem.W.Frag} : PySem.W.kitOne K (.type "dict") (.type "bool") = some false ∧ PySem.W.kitOne K (.type "dict") (.type "int") = some false := ⟨kit_ty (by decide +kernel), kit_ty (by decide +kernel)⟩
theorem Odd.bad {K : PySem.W.Frag} {H : Hp} {row : List Int} {z : V} {t : Tr} (h : Odd K H row z) (ht : ∀ x ∈ t.btn, x ∈ row) : Bd K t z H := by
  intro H' s
  have c := h.cand.mono s
  rcases c.kind with ⟨k, rfl⟩ | ⟨a, rfl, ⟨xs, n⟩ | ⟨xs, n⟩ | n⟩ | rfl | ⟨x, rfl⟩ | ⟨b, rfl⟩
  · exact ⟨_, .base (.bl k), .inl kit_b⟩
  · exact ⟨_, ty_tup n, .inr ⟨kit_t.1, .inl kit_t.2⟩⟩
  · exact ⟨_, .base (.lst n), .inr ⟨kit_l.1, .inl kit_l.2⟩⟩
  · exact ⟨_, .base (.dK n), .inr ⟨kit_d.1, .inl kit_d.2⟩⟩
  · exact ⟨_, .base .non, .inr ⟨kit_n.1, .inl kit_n.2⟩⟩
  · exact ⟨_, .base (.str x), .inr ⟨kit_s.1, .inl kit_s.2⟩⟩
  · have ho := h.off
    have hb : b ∉ row := by simpa [offRow] using ho
    exact ⟨_, .base (.int b), .inr ⟨kit_int_bool, .inr ⟨kit_int, b, rfl, fun hx => hb (ht b hx)⟩⟩⟩
theorem inV_str (x : Str) : ∀ ns : List Int, inV (V.str x) (ns.map V.int) = false
  | [] => rfl
  | n :: ns => by have := inV_str x ns; unfold inV at this ⊢; rw [List.map_cons, List.any_cons, this]; rfl
theorem inV_non : ∀ ns : List Int, inV V.non (ns.map V.int) = false
  | [] => rfl
  | n :: ns => by have := inV_non ns; unfold inV at this ⊢; rw [List.map_cons, List.any_cons, this]; rfl
/-- a comprehension over a list with a test of the value -/
theorem lcF {K : PySem.W.Frag} {b : Addr} {xs : List V} {σ : L2.St} {H : Hp} {j : Nat} {tt : TT} {te : TE} {ws : List Nat} {Qd : Addr → Hp → Prop} (f : V → Bool)
    (hS : SqL K H b xs) (hz : xs.length ≤ 100000) (hw : ∀ x, wipe ((wipe σ ws).set j (some x)) ws = wipe σ ws)
    (ht : ∀ x H' (R : Bool → Hp → Prop), x ∈ xs → Same H H' → (∀ H'', Same H' H'' → R (f x) H'') → tt ((wipe σ ws).set j (some x)) H' R)
    (he : ∀ x H' (R : VK), x ∈ xs → f x = true → Same H H' → R x H' → te ((wipe σ ws).set j (some x)) H' R)
    (hq : ∀ D H', Same H H' → H D = none → H' D = some (.lst (xs.filter f)) → Qd D H') :
    ∃ a, V.ref b = .ref a ∧ (∃ xs, SqL K H a xs) ∧ ∀ D, H D = none → ∃ W : Nat → Nat → Hp → Prop, (∃ m, W 0 m (upd H D (.lst []))) ∧ ∀ i m H, W i m H →
      ((Itl K a).stop i H ∧ Qd D H) ∨ ((Itl K a).go i H ∧ ∃ Nx : Hp → Prop, (∀ H', Nx H' → ∃ m', m' < m ∧ W (i + 1) m' H') ∧ ∀ x H', (Itl K a).yld i H x H' → gName j x (wipe σ ws) H' fun σ2 H2 => wipe σ2 ws = wipe σ ws ∧ tt σ2 H2 fun b H3 =>
        if b = true then te σ2 H3 fun z G4 => ∃ got, G4 D = some (.lst got) ∧ got.length < sizeLine ∧ Nx (upd G4 D (.lst (got ++ [z]))) else Nx H3) := by
  refine ⟨b, rfl, ⟨_, hS⟩, fun D hD => ?_⟩
  refine lc_list (K := K) (a := b) (xs := xs) (Qd := fun H' => Qd D H') (fun i H' => Same H H' ∧ H' D = some (.lst ((xs.take i).filter f))) ⟨Same.new hD, upd_same⟩ (fun i H' _ h => Same.seq h.1 hS) (fun i x H' hx h => ?_) (fun H' h => ?_)
  · have hxm := List.mem_of_getElem? hx
    refine ⟨hw _, ht x H' _ hxm h.1 fun H3 s3 => ?_⟩
    have hD3 := s3 _ _ h.2
    have s03 := h.1.trans s3
    have et : xs.take (i + 1) = xs.take i ++ [x] := by rw [List.take_add_one, hx]; rfl
    have hl : ((xs.take i).filter f).length ≤ xs.length := Nat.le_trans (List.length_filter_le _ _) (by rw [List.length_take]; omega)
    cases hf : f x with
    | true =>
      refine iteT (he x H3 _ hxm hf s03 ⟨_, hD3, by rw [sizeLine_eq]; omega, s03.up hD, ?_⟩)
      rw [et, List.filter_append, upd_same]
      simp [hf]
    | false =>
      refine iteF ⟨s03, ?_⟩
      rw [et, List.filter_append]
      simp [hf, hD3]
  · refine hq D H' h.1 hD ?_
    rw [h.2, List.take_length]
/-! ### the odd values' data -/
theorem shn_int {b : Int} (h : (-1 : Int) ≤ b) (h2 : b ≤ 1000) : Shn (.int b) := by
  refine ⟨?_, ?_, by show 0 ≤ 100; decide, by show 0 ≤ 10; decide⟩
  · rw [PyData.showable]
    have : b.natAbs.log2 ≤ b.natAbs := Nat.log2_le_self _
    (exact decide_eq_true (by omega))
  · rw [PyData.leavesShort]
    have := PyData.shown_int_le2 (i := b) (by omega) (by omega)
    (exact decide_eq_true (by omega))
theorem str_small : ∀ n : Fin 100, ((toString (n.val : Int) : Str).cps.toList.all fun c => decide (c < 16 ^ 8)) = true ∧ (toString (n.val : Int) : Str).cps.size ≤ 100 := by decide +kernel
theorem shn_str {a : Int} (h : 0 ≤ a) (h2 : a < 100) : Shn (.str (toString a)) := by
  obtain ⟨n, rfl⟩ := Int.eq_ofNat_of_zero_le h
  obtain ⟨q1, q2⟩ := str_small ⟨n, by omega⟩
  exact ⟨rfl, by rw [PyData.leavesShort]; exact q1, by rw [PyData.bulk]; exact q2, by show 0 ≤ 10; decide⟩
theorem shn_one {a : Int} (h : (-1 : Int) ≤ a) (h2 : a ≤ 1000) : Shn (.list [.int a]) ∧ Shn (.tuple [.int a]) := by
  obtain ⟨q1, q2, q3, q4⟩ := shn_int h h2
  refine ⟨⟨?_, ?_, ?_, ?_⟩, ⟨?_, ?_, ?_, ?_⟩⟩
  · rw [PyData.showable, PyData.showableAll, PyData.showableAll, q1]; rfl
  · rw [PyData.leavesShort, PyData.leavesShortAll, PyData.leavesShortAll, q2]; rfl
  · show 0 + 1 + 0 ≤ 100; decide
  · show max 0 0 + 1 ≤ 10; decide
  · rw [PyData.showable, PyData.showableAll, PyData.showableAll, q1]; rfl
  · rw [PyData.leavesShort, PyData.leavesShortAll, PyData.leavesShortAll, q2]; rfl
  · show 0 + 1 + 0 ≤ 100; decide
  · show max 0 0 + 1 ≤ 10; decide
theorem shn_const : Shn .none ∧ Shn (.bool true) ∧ Shn (.bool false) ∧ Shn (.str "0") ∧ Shn (.tuple []) ∧ Shn (.list []) ∧ Shn (.dict []) ∧ Shn (.int (10 ^ 20)) := by
  refine ⟨?_, ?_, ?_, ?_, ?_, ?_, ?_, ?_⟩ <;> exact ⟨by decide +kernel, by decide +kernel, by decide +kernel, by decide +kernel⟩
end K23
namespace K23
open PySem PyProof.Rows PySem.Spec L2
section
variable {w : World} {P : Program} {K : PySem.W.Frag} {base : Heap} {mg : Str → Option Value}
/-! ### _law_strange: slots _law_bag_here 0, _law_row 1, _law_odd 2, _law_own 3, _law_button 4; cells ['_law_row'] -/
def spStrange (K : PySem.W.Frag) : Sp := fun vs H Q _ => ∃ (b g r : Addr) (row : List Int), vs = [.ref b, .ref r] ∧ Bag b g H ∧ rest b g H r = some (.lst (row.map V.int)) ∧ 1 ≤ row.length ∧ row.length ≤ 24 ∧ (∀ x ∈ row, 0 ≤ x ∧ x < 100) ∧
  ∀ (z : V) (H' : Hp), Bag b g H' → Same (rest b g H) (rest b g H') → Odd K (rest b g H') row z → Q z H'
theorem sc_law_strange : FnScope ["_law_bag_here", "_law_row", "_law_odd", "_law_own", "_law_button"] ["_law_bag_here", "_law_row"] (defScope (topS 39)) := ⟨rfl, rfl, rfl, by decide +kernel, rfl, by decide +kernel, by decide +kernel⟩
theorem c_law_strange (T : Txt K mg) : Cal P w K mg base 3 "_law_strange" ["_law_bag_here", "_law_row"] (spStrange K) := by
  refine Cal.mk' T.d_law_strange sc_law_strange (fun _ _ _ _ _ _ us hl => match us, hl with | [_, _], _ => rfl) (fun vs H Q E h => ?_) (fun f cdv A outer s H vs Q E hr h => ?_)
  · obtain ⟨_, _, _, _, rfl, _⟩ := h; rfl
  · obtain ⟨b, g, r, row, rfl, B, er, h1, h24, hbd, k⟩ := h
    refine ⟨_, (pss_cons (ps_set (i := 2) sc_law_strange.nd rfl (Or.inl rfl) (pe_lst (pa_cons pe_non (pa_cons pe_bl (pa_cons pe_bl (pa_cons pe_str (pa_cons (pe_tup pa_nil) (pa_cons (pe_lst pa_nil) (pa_cons pe_dnewK (pa_cons (pe_tup (pa_cons pe_int pa_nil)) (pa_cons (pe_un un_neg pe_int) (pa_cons pe_int (pa_cons (pe_op op_pow pe_int pe_int) (pa_cons (pe_callTy call_str_int (by rfl) T.n_str boot_str (pa_cons (pe_ix ix_list (pv 1) pe_int (fun _ _ => rfl)) pa_nil)) (pa_cons (pe_lst (pa_cons (pe_ix ix_list (pv 1) pe_int (fun _ _ => rfl)) pa_nil)) (pa_cons (pe_tup (pa_cons (pe_ix ix_list (pv 1) pe_int (fun _ _ => rfl)) pa_nil)) pa_nil))))))))))))))))
        (pss_cons (ps_setLc (i := 2) (own := [("_law_own", 3)]) rfl sc_law_strange.nd rfl rfl (sw_true rfl rfl rfl (by decide +kernel)) (pi_list (pv 2)) (blkOk_by (N := ["_law_bag_here", "_law_row", "_law_odd", "_law_own", "_law_button"]) (sc := defScope (topS 39)) (by decide +kernel)) (fun _ _ _ _ _ => (pg_name (i := 3) sc_law_strange.nd rfl (Or.inl rfl))) (fun _ _ _ _ _ => pts_one (PW.pt (pw_or (pt_val (pe_callB (call_isiK' (K := K) rfl) (by rfl) T.n_isinstance boot_isinstance (pa_cons (pv 3) (pa_cons (pe_bltn (v := .ty "bool") (by rfl) T.n_bool boot_bool rfl) pa_nil)))) (pw_or1 (pt_cmpR (op_notOdd (K := K) rfl hr.units) (pv 3) (pv 1) (by rfl)))))) (fun _ _ _ _ _ => (pv 3)))
        (pss_one (ps_ret (pc (c_law_pick T) hr (by decide) (by rfl) (pa_cons (pv 0) (pa_cons (pe_op op_cat (pv 2) (pe_slice sl_list (pe_lc (own := [("_law_button", 4)]) rfl sc_law_strange.nd (pi_range1 (by rfl) T.n_range (pa_cons pe_int pa_nil)) (blkOk_by (N := ["_law_bag_here", "_law_row", "_law_odd", "_law_own", "_law_button"]) (sc := defScope (topS 39)) (by decide +kernel)) (fun _ _ _ _ _ => (pg_name (i := 4) sc_law_strange.nd rfl (Or.inl rfl))) (fun _ _ _ _ _ => pts_one (pt_cmpR (op_notInK (K := K) rfl) (pv 4) (pv 1) (by rfl))) (fun _ _ _ _ _ => (pv 4))) po_none (po_some pe_int))) pa_nil))))))), ?_⟩
    obtain ⟨a, ra, rfl⟩ : ∃ a ra, row = a :: ra := by
      cases row with
      | nil => simp at h1
      | cons a ra => exact ⟨a, ra, rfl⟩
    have ha := hbd a (by simp)
    have el := rest_get er
    have ix : ∀ {G : Hp}, Same H G → SqL K G r ((a :: ra).map V.int) := fun s => SqL.of (s _ _ el)
    refine ⟨by show 0 ≤ sizeLine; decide, fun p1 n1 => ⟨by show 0 ≤ sizeLine; decide, fun p2 n2 => fun p3 n3 => ⟨by show 1 ≤ sizeLine; decide, fun p4 n4 => ⟨1, rfl, _, _, rfl, rfl, ⟨by decide, by decide, by decide⟩, ?_⟩⟩⟩⟩
    have s1 := Same.new (o := .tup []) n1
    have s2 := Same.new (o := .lst []) n2
    have s3 := Same.new (o := .dK []) n3
    have s4 := Same.new (o := .tup [V.int 0]) n4
    have s14 := ((s1.trans s2).trans s3).trans s4
    have s24 := (s2.trans s3).trans s4
    have s34 := s3.trans s4
    have h2 : H p2 = none := s1.free n2
    have h3 : H p3 = none := (s1.trans s2).free n3
    have h4 : H p4 = none := ((s1.trans s2).trans s3).free n4
    have e1 := s24 _ _ (upd_same (H := H) (a := p1) (o := .tup []))
    have e2 := s34 _ _ (upd_same (H := upd H p1 (.tup [])) (a := p2) (o := .lst []))
    have e3 := s4 _ _ (upd_same (H := upd (upd H p1 (.tup [])) p2 (.lst [])) (a := p3) (o := .dK []))
    have e4 := upd_same (H := upd (upd (upd H p1 (.tup [])) p2 (.lst [])) p3 (.dK [])) (a := p4) (o := .tup [V.int 0])
    generalize upd (upd (upd (upd H p1 (.tup [])) p2 (.lst [])) p3 (.dK [])) p4 (.tup [V.int 0]) = G at s14 e1 e2 e3 e4
    have at0 : atI ((a :: ra).map V.int) (0 : Int) = some (.int a) := atI_nat (j := 0) rfl
    refine ⟨_, rfl, r, _, 0, .int a, rfl, rfl, ix s14, at0, a, rfl, log2_small ha.1 (by omega), _, rfl, r, _, 0, .int a, rfl, rfl, ix s14, at0, by show 1 ≤ sizeLine; decide, fun p5 n5 => ?_⟩
    have s5 := Same.new (o := .lst [V.int a]) n5
    refine ⟨_, rfl, r, _, 0, .int a, rfl, rfl, ix (s14.trans s5), at0, by show 1 ≤ sizeLine; decide, fun p6 n6 => ?_⟩
    have s6 := Same.new (o := .tup [V.int a]) n6
    have s56 := s5.trans s6
    have h5 : H p5 = none := s14.free n5
    have h6 : H p6 = none := (s14.trans s5).free n6
    have e5 := s6 _ _ (upd_same (H := G) (a := p5) (o := .lst [V.int a]))
    have e6 := upd_same (H := upd G p5 (.lst [V.int a])) (a := p6) (o := .tup [V.int a])
    have s16 := s14.trans s56
    have f1 := s56 _ _ e1
    have f2 := s56 _ _ e2
    have f3 := s56 _ _ e3
    have f4 := s56 _ _ e4
    generalize upd (upd G p5 (.lst [V.int a])) p6 (.tup [V.int a]) = G6 at s16 f1 f2 f3 f4 e5 e6
    have f1 := B.new n1 f1
    have f2 := B.new h2 f2
    have f3 := B.new h3 f3
    have f4 := B.new h4 f4
    have e5 := B.new h5 e5
    have e6 := B.new h6 e6
    obtain ⟨c1, c2, c3, c4, c5, c6, c7, c8⟩ := shn_const
    have cand : ∀ z ∈ [V.non, .bl true, .bl false, .str "0", .ref p1, .ref p2, .ref p3, .ref p4, .int (-1), .int 100, .int ((10 : Int) ^ (20 : Int).toNat), .str (toString a), .ref p5, .ref p6], Cand K (rest b g G6) z := by
      intro z hz
      simp only [List.mem_cons, List.not_mem_nil, or_false] at hz
      rcases hz with rfl | rfl | rfl | rfl | rfl | rfl | rfl | rfl | rfl | rfl | rfl | rfl | rfl | rfl
      · exact ⟨.inr (.inr (.inl rfl)), _, .of .non, c1⟩
      · exact ⟨.inl ⟨_, rfl⟩, _, .of (.bl _), c2⟩
      · exact ⟨.inl ⟨_, rfl⟩, _, .of (.bl _), c3⟩
      · exact ⟨.inr (.inr (.inr (.inl ⟨_, rfl⟩))), _, .of (.str _), c4⟩
      · exact ⟨.inr (.inl ⟨_, rfl, .inl ⟨_, SqT.of f1⟩⟩), _, .of (.tup (SqT.of f1) .nil), c5⟩
      · exact ⟨.inr (.inl ⟨_, rfl, .inr (.inl ⟨_, f2⟩)⟩), _, .of (.lst (SqL.of f2) .nil), c6⟩
      · exact ⟨.inr (.inl ⟨_, rfl, .inr (.inr f3)⟩), _, .dict f3, c7⟩
      · exact ⟨.inr (.inl ⟨_, rfl, .inl ⟨_, SqT.of f4⟩⟩), _, .of (.tup (SqT.of f4) (.cons (.int 0) .nil)), (shn_one (by decide) (by decide)).2⟩
      · exact ⟨.inr (.inr (.inr (.inr ⟨_, rfl⟩))), _, .of (.int _), shn_int (by decide) (by decide)⟩
      · exact ⟨.inr (.inr (.inr (.inr ⟨_, rfl⟩))), _, .of (.int _), shn_int (by decide) (by decide)⟩
      · exact ⟨.inr (.inr (.inr (.inr ⟨_, rfl⟩))), _, .of (.int _), c8⟩
      · exact ⟨.inr (.inr (.inr (.inl ⟨_, rfl⟩))), _, .of (.str _), shn_str ha.1 ha.2⟩
      · exact ⟨.inr (.inl ⟨_, rfl, .inr (.inl ⟨_, e5⟩)⟩), _, .of (.lst (SqL.of e5) (.cons (.int a) .nil)), (shn_one (by omega) (by omega)).1⟩
      · exact ⟨.inr (.inl ⟨_, rfl, .inl ⟨_, SqT.of e6⟩⟩), _, .of (.tup (SqT.of e6) (.cons (.int a) .nil)), (shn_one (by omega) (by omega)).2⟩
    have pos : 1 ≤ ([V.non, .bl true, .bl false, .str "0", .ref p1, .ref p2, .ref p3, .ref p4, .int (-1), .int 100, .int ((10 : Int) ^ (20 : Int).toNat), .str (toString a), .ref p5, .ref p6].filter (offRow (a :: ra))).length := by
      rw [List.filter_cons_of_pos rfl, List.length_cons]; omega
    have few : [V.non, .bl true, .bl false, .str "0", .ref p1, .ref p2, .ref p3, .ref p4, .int (-1), .int 100, .int ((10 : Int) ^ (20 : Int).toNat), .str (toString a), .ref p5, .ref p6].length ≤ 100 := by show 14 ≤ 100; decide
    refine ⟨by show 14 ≤ sizeLine; decide, fun p7 n7 => ?_⟩
    show tSeq _ _ _ (([some (V.ref b), some (.ref r), none, none, none] : L2.St).set 2 (some (.ref p7))) (upd G6 p7 (.lst [V.non, .bl true, .bl false, .str "0", .ref p1, .ref p2, .ref p3, .ref p4, .int (-1), .int 100, .int ((10 : Int) ^ (20 : Int).toNat), .str (toString a), .ref p5, .ref p6]))
    generalize [V.non, .bl true, .bl false, .str "0", .ref p1, .ref p2, .ref p3, .ref p4, .int (-1), .int 100, .int ((10 : Int) ^ (20 : Int).toNat), .str (toString a), .ref p5, .ref p6] = xs at *
    have s7 := Same.new (o := .lst xs) n7
    have s17 := s16.trans s7
    have e7 : upd G6 p7 (.lst xs) p7 = some (.lst xs) := upd_same
    have r7 := rest_mono (b := b) (g := g) s7
    have cand7 : ∀ z ∈ xs, Cand K (upd G6 p7 (.lst xs)) z := fun z hz => (cand z hz).mono (rest_same.trans s7)
    generalize upd G6 p7 (.lst xs) = G7 at s17 e7 cand7 r7
    refine ⟨_, rfl, lcF (offRow (a :: ra)) (SqL.of e7) (by omega) (fun _ => rfl) ?_ ?_ ?_⟩
    · intro z H' R hz sH hR
      have cz := (cand7 z hz).mono sH
      have el' := (s17.trans sH) _ _ el
      rcases cz.kind with ⟨kb, rfl⟩ | ⟨c, rfl, no⟩ | rfl | ⟨x, rfl⟩ | ⟨n, rfl⟩
      · exact ⟨_, rfl, _, .ty "bool", _, _, _, rfl, .ty _, .base (.bl kb), kit_b, _, rfl, iteT (hR _ (Same.refl _))⟩
      · have ty : ∃ u, TyX K H' (.ref c) u ∧ PySem.W.kitOne K u (.type "bool") = some false := by
          rcases no with ⟨ys, n⟩ | ⟨ys, n⟩ | n
          · exact ⟨_, ty_tup n, kit_t.1⟩
          · exact ⟨_, .base (.lst n), kit_l.1⟩
          · exact ⟨_, .base (.dK n), kit_d.1⟩
        obtain ⟨u, t1, t2⟩ := ty
        exact ⟨_, rfl, _, .ty "bool", _, _, _, rfl, .ty _, t1, t2, _, rfl, iteF ⟨_, rfl, _, rfl, r, a :: ra, rfl, el', .inl ⟨c, rfl, no, _, rfl, hR _ (Same.refl _)⟩⟩⟩
      · refine ⟨_, rfl, _, .ty "bool", _, _, _, rfl, .ty _, .base .non, kit_n.1, _, rfl, iteF ⟨_, rfl, _, rfl, r, a :: ra, rfl, el', .inr ⟨rfl, _, rfl, ?_⟩⟩⟩
        rw [inV_non]; exact hR _ (Same.refl _)
      · refine ⟨_, rfl, _, .ty "bool", _, _, _, rfl, .ty _, .base (.str x), kit_s.1, _, rfl, iteF ⟨_, rfl, _, rfl, r, a :: ra, rfl, el', .inr ⟨rfl, _, rfl, ?_⟩⟩⟩
        rw [inV_str]; exact hR _ (Same.refl _)
      · refine ⟨_, rfl, _, .ty "bool", _, _, _, rfl, .ty _, .base (.int n), kit_int_bool, _, rfl, iteF ⟨_, rfl, _, rfl, r, a :: ra, rfl, el', .inr ⟨rfl, _, rfl, ?_⟩⟩⟩
        rw [inV_ints, ← decide_not]; exact hR _ (Same.refl _)
    · intro z H' R hz hf sH hR
      exact ⟨_, rfl, hR⟩
    · intro D H' sH hD eD
      have el' := (s17.trans sH) _ _ el
      refine ⟨_, rfl, _, rfl, 100, rfl, by decide, by decide, fun D2 hD2 => ?_⟩
      refine lc_range (lo := 0) (n := 100) (fun i G => Same H' G ∧ ∃ ns : List Int, G D2 = some (.lst (ns.map V.int)) ∧ (∀ x ∈ ns, x ∉ a :: ra ∧ 0 ≤ x ∧ x < 100) ∧ ns.length ≤ i) ⟨Same.new hD2, [], upd_same, (fun x hx => by cases hx), Nat.le_refl _⟩ ?_ ?_
      · rintro i G hi ⟨sG, ns, eG, hns, nl⟩
        refine ⟨rfl, _, rfl, _, rfl, r, _, rfl, .inl (SqL.of (sG _ _ el')), rfl, flat_ints (a :: ra), _, rfl, ?_⟩
        show if (!inV (V.int (0 + (i : Int))) ((a :: ra).map V.int)) = true then _ else _
        rw [inV_ints, ← decide_not]
        by_cases c : (0 + (i : Int)) ∉ a :: ra
        · rw [decide_eq_true c]
          refine iteT ⟨_, rfl, _, eG, size_lt (by rw [List.length_map]; omega), sG.up hD2, ns ++ [0 + (i : Int)], by rw [upd_same, List.map_append]; rfl, fun x hx => ?_, by rw [List.length_append, List.length_singleton]; omega⟩
          (rcases List.mem_append.mp hx with hx | hx)
          · exact hns x hx
          · rw [List.mem_singleton] at hx
            rw [hx]
            exact ⟨c, by omega, by omega⟩
        · rw [decide_eq_false c]
          exact iteF ⟨sG, ns, eG, hns, by omega⟩
      · rintro G ⟨sG, ns, eG, hns, nl⟩
        refine ⟨4, rfl, D2, _, rfl, SqL.of eG, fun q hq => ?_⟩
        have e4' : cutV (ns.map V.int) none (some (4 : Int)) = (ns.take 4).map V.int := by
          have := cutV_first (ns.map V.int) 4
          rw [List.map_take]
          exact this
        rw [e4']
        have sq := Same.new (o := .lst ((ns.take 4).map V.int)) hq
        have sHq := sG.trans sq
        refine ⟨D, q, _, _, rfl, rfl, sHq _ _ eD, upd_same, size_ok ?_, fun p hp => ?_⟩
        · have := List.length_filter_le (offRow (a :: ra)) xs
          rw [List.length_map, List.length_take]; omega
        have sAll := ((s17.trans sH).trans sHq).trans (Same.new (o := .lst (xs.filter (offRow (a :: ra)) ++ (ns.take 4).map V.int)) hp)
        obtain ⟨B9, s9⟩ := bag_mid B sAll
        have hpH : H p = none := ((s17.trans sH).trans sHq).free hp
        refine ⟨b, g, p, _, rfl, B9, B.new hpH upd_same, ?_, ?_, fun ix v H9 hv B10 s10 => ?_⟩
        · rw [List.length_append]; omega
        · have := List.length_filter_le (offRow (a :: ra)) xs
          rw [List.length_append, List.length_map, List.length_take]; omega
        · refine k v H9 B10 (s9.trans s10) ?_
          have hm := List.mem_of_getElem? hv
          (rcases List.mem_append.mp hm with hm | hm)
          · obtain ⟨m1, m2⟩ := List.mem_filter.mp hm
            refine ⟨(cand v m1).mono (((r7.trans (rest_mono (sH.trans sHq))).trans (rest_mono (Same.new hp))).trans s10), m2⟩
          · obtain ⟨x, hx, rfl⟩ := List.mem_map.mp hm
            obtain ⟨q1, q2, q3⟩ := hns x (List.mem_of_mem_take hx)
            exact ⟨⟨.inr (.inr (.inr (.inr ⟨_, rfl⟩))), _, .of (.int _), shn_int (by omega) (by omega)⟩, by simpa [offRow] using q1⟩
end
end K23
namespace K23
open PySem PyProof.Rows PySem.Spec L2
def wordsL (t : Tr) (row : List Int) : List Bool := (everyL row).map fun L => t.go (inL L)
theorem wordsL_len (t : Tr) (row : List Int) : (wordsL t row).length = 2 ^ row.length := by unfold wordsL; rw [List.length_map, every_len]
theorem wordsL_get {t : Tr} {row : List Int} {m : Nat} (h : m < 2 ^ row.length) : (wordsL t row).getD m false = word t row m := by
  unfold wordsL
  rw [List.getD_eq_getElem?_getD, List.getElem?_map, ev_get h]
  rfl
theorem table_over {t : Tr} {row : List Int} {i j : Nat} {one other : Int} (ok : t.ok) (nd : row.Nodup) (pm : t.btn.Perm row) (hi : row[i]? = some one) (hj : row[j]? = some other) :
    (decide (i = j) || decide (Nw (wordsL t row) i j)) = true ↔ (one = other ∨ (t.norm srt).over one other = true) := by
  have li := (List.getElem?_eq_some_iff.mp hi).1
  have lj := (List.getElem?_eq_some_iff.mp hj).1
  by_cases c : i = j
  · subst c
    rw [hi] at hj
    cases hj
    simp
  · have hne : one ≠ other := fun e => c (by subst e; exact nd_ix nd hi hj)
    have h1 : one ∈ t.btn := pm.mem_iff.mpr (List.mem_of_getElem? hi)
    have h2 : other ∈ t.btn := pm.mem_iff.mpr (List.mem_of_getElem? hj)
    rw [decide_eq_false c, Bool.false_or, decide_eq_true_eq]
    have T := table_iff (t := t) nd (fun x => pm.mem_iff) hi hj hne
    have O := over_iff (norm_ok srt_perm t ok) (pm.symm.nodup nd) hne h1 h2
    constructor
    · intro h
      refine .inr (O.mpr (T.mp fun a ha e1 e2 w => ?_))
      have := h a (by rw [wordsL_len]; exact ha) e1 e2
      rw [wordsL_get (step_lt lj ha e2), wordsL_get (step_lt li ha e1)] at this
      exact this w
    · intro h a ha e1 e2 w
      rw [wordsL_len] at ha
      rw [wordsL_get (step_lt lj ha e2)] at w
      rw [wordsL_get (step_lt li ha e1)]
      exact T.mpr (O.mp (h.resolve_left hne)) a ha e1 e2 w
theorem parts_over {t : Tr} {one other : Int} (ok : t.ok) (nd : t.btn.Nodup) (h1 : one ∈ t.btn) (h2 : other ∈ t.btn) :
    (if one = other then true else (t.norm id).over one other) = true ↔ (one = other ∨ (t.norm srt).over one other = true) := by
  by_cases c : one = other
  · rw [if_pos c]; exact ⟨fun _ => .inl c, fun _ => rfl⟩
  · rw [if_neg c, over_same (norm_ok id_perm t ok) (norm_ok srt_perm t ok) nd c h1 h2]
    exact ⟨.inr, fun h => h.resolve_left c⟩
theorem norm_inI {t : Tr} {one : Int} (sm : Sm t) (nd : t.btn.Nodup) (hd : t.dep ≤ 12) (h : one ∈ t.btn) : InT 12 one (t.norm id) := by
  have N := norm_ok id_perm t sm.ok
  exact ⟨⟨N.ok, by rw [N.btn.length_eq]; exact sm.len⟩, Nat.le_trans N.dep hd, N.btn.symm.nodup nd, N.btn.mem_iff.mpr h⟩
theorem norm_memI {t : Tr} {one : Int} (sm : Sm t) (h : one ∈ t.btn) : one ∈ (t.norm id).btn := (norm_ok id_perm t sm.ok).btn.mem_iff.mpr h
theorem keys_get {H : Hp} {kvs : List (List L2.Key × V)} {bs : List Addr} (h : IsKeys H kvs bs) : ∀ {i : Nat} {b : Addr}, bs[i]? = some b → ∃ p, p ∈ kvs ∧ H b = some (.tup (p.1.map kV)) := by
  unfold IsKeys at h
  induction h with
  | nil => intro i b e; simp at e
  | @cons p c ps cs h t ih =>
    intro i b e
    cases i with
    | zero =>
      have : c = b := by simpa using e
      subst this
      exact ⟨p, by simp, h⟩
    | succ i =>
      obtain ⟨q, q1, q2⟩ := ih (i := i) (by simpa using e)
      exact ⟨q, by simp [q1], q2⟩
/-- three told lists of one value show as one -/
theorem told3 {d : PyData} (h : Shn d) : PyData.showableAll [.list [.str "none", d], .list [.str "none", d], .list [.str "none", d]] = true ∧ (PyData.shown (.list [.list [.str "none", d], .list [.str "none", d], .list [.str "none", d]])).length ≤ sizeLine ∧
    PyData.depthAll [.list [.str "none", d], .list [.str "none", d], .list [.str "none", d]] ≤ 60 := by
  obtain ⟨q1, q2, q3, q4⟩ := h
  refine ⟨?_, ?_, ?_⟩
  · simp only [PyData.showableAll, PyData.showable, q1]; rfl
  · have h1 : PyData.leavesShort 100 (.list [.list [.str "none", d], .list [.str "none", d], .list [.str "none", d]]) = true := by
      have hs : PyData.leavesShort 100 (.str "none") = true := by decide +kernel
      simp only [PyData.leavesShort, PyData.leavesShortAll, q2, Bool.and_true]
      have hs' := hs
      simp only [PyData.leavesShort] at hs'
      rw [hs']; rfl
    have h2 := PyData.shown_le_bulk 100 (by decide) _ h1
    have e : PyData.bulk (.list [.list [.str "none", d], .list [.str "none", d], .list [.str "none", d]]) ≤ 400 := by
      have hs : PyData.bulk (.str "none") = 4 := by decide +kernel
      have hs' := hs
      simp only [PyData.bulk] at hs'
      simp only [PyData.bulk, PyData.bulkAll]
      omega
    rw [sizeLine_eq]
    have h3 : (100 + 2) * PyData.bulk (.list [.list [.str "none", d], .list [.str "none", d], .list [.str "none", d]]) ≤ (100 + 2) * 400 := Nat.mul_le_mul_left _ e
    omega
  · simp only [PyData.depthAll, PyData.depth]
    omega
end K23
namespace K23
open PySem PyProof.Rows PySem.Spec L2
section
variable {P : Program} {w : World} {K : PySem.W.Frag} {mg : Str → Option Value} {base : Heap} {C D fI : Addr} {mc : Value}
/-! ### law: slots _law_script 0, _law_bag_here 1, _law_row 2, _law_tree_here 3, _law_every_here 4, _law_table_here 5, _law_one 6, _law_other 7, _law_strange_here 8, _law_further 9, _law_button 10, _law_told_here 11, _law_is_long 12, _law_reduced_here 13, _law_turn 14, _law_is_no_worse_here 15 -/
def spLaw (K : PySem.W.Frag) : Sp := fun vs H Q _ => ∃ (a : Addr) (ns : List Int), vs = [.ref a] ∧ SqL K H a (ns.map V.int) ∧ ns.length ≤ 100000 ∧ ∀ H', Q (.bl true) H'
theorem sc_law : FnScope ["_law_script", "_law_bag_here", "_law_row", "_law_tree_here", "_law_every_here", "_law_table_here", "_law_one", "_law_other", "_law_strange_here", "_law_further", "_law_button", "_law_told_here", "_law_is_long", "_law_reduced_here", "_law_turn", "_law_is_no_worse_here"] ["_law_script"] (defScope (topS 44)) := ⟨rfl, rfl, rfl, by decide +kernel, rfl, by decide +kernel, by decide +kernel⟩
theorem c_law (T : Txt K mg) (N : Nb K mg C D fI mc) {f : Addr} {fd : FuncData} (F : L2.Fun K "law" "law" (topS 44) f fd) : FnOkG P w K mg base 22 f fd ["_law_script"] (spLaw K) := by
  refine okG F sc_law (fun vs H Q E h => ?_) (fun cdv A outer s H vs Q E gd hr h => ?_)
  · obtain ⟨_, _, rfl, _⟩ := h; rfl
  · obtain ⟨a, ns, rfl, hS, hz, k⟩ := h
    refine ⟨_, (pss_cons (ps_set (i := 1) sc_law.nd rfl (Or.inl rfl) (pc (c_law_bag T) hr (by decide) (by rfl) (pa_cons (pv 0) pa_nil)))
        (pss_cons (ps_set (i := 2) sc_law.nd rfl (Or.inl rfl) (pc (c_law_buttons T) hr (by decide) (by rfl) (pa_cons (pv 1) (pa_cons (pe_op op_add pe_int (pc (c_law_draw T) hr (by decide) (by rfl) (pa_cons (pv 1) (pa_cons pe_int pa_nil)))) pa_nil))))
        (pss_cons (ps_par (i := 3) (j := 4) rfl sc_law.nd rfl rfl (by decide) rfl rfl (pa_cons (pc (c_law_tree T 3) hr (by decide) (by rfl) (pa_cons (pv 1) (pa_cons (pc (c_law_mixed T) hr (by decide) (by rfl) (pa_cons (pv 1) (pa_cons (pv 2) pa_nil))) (pa_cons pe_int pa_nil)))) (pa_cons (pc (c_law_every T) hr (by decide) (by rfl) (pa_cons (pv 2) pa_nil)) pa_nil)) (by rfl))
        (pss_cons (ps_set (i := 5) sc_law.nd rfl (Or.inl rfl) (pc (c_law_table T) hr (by decide) (by rfl) (pa_cons (pv 2) (pa_cons (pc (c_law_words T 4) hr (by decide) (by rfl) (pa_cons (pv 3) (pa_cons (pv 4) pa_nil))) pa_nil))))
        (pss_cons (ps_for PassesOwn.never rfl (pi_list (pe_callTy (call_list_dT rfl) (by rfl) T.n_list boot_list (pa_cons (pv 5) pa_nil))) (pg_tup (by rfl) (pgs_cons (pg_name (i := 6) sc_law.nd rfl (Or.inl rfl)) (pgs_cons (pg_name (i := 7) sc_law.nd rfl (Or.inl rfl)) pgs_nil)))
          (pss_one (ps_if (pt_not (pt_val (pcG (c_law_is_right T N) gd hr (by decide) (by rfl) (pa_cons (pv 3) (pa_cons (pv 2) (pa_cons (pv 6) (pa_cons (pv 7) (pa_cons (pe_dget (hu1 hr.units) (pv 5) (pe_tup (pa_cons (pv 6) (pa_cons (pv 7) pa_nil))) (fun _ _ => rfl)) (pa_cons (pe_cmpR op_eq (pv 6) (pe_ix ix_list (pv 2) pe_int (fun _ _ => rfl)) (nomark _)) pa_nil))))))))) (pss_one (ps_ret pe_bl)) pss_nil)))
        (pss_cons (ps_par3 (i := 8) (j := 9) (l := 10) rfl sc_law.nd rfl rfl rfl (by decide) (by decide) (by decide) rfl rfl rfl (pa_cons (pc (c_law_strange T) hr (by decide) (by rfl) (pa_cons (pv 1) (pa_cons (pv 2) pa_nil))) (pa_cons (pc (c_law_strange T) hr (by decide) (by rfl) (pa_cons (pv 1) (pa_cons (pv 2) pa_nil))) (pa_cons (pc (c_law_pick T) hr (by decide) (by rfl) (pa_cons (pv 1) (pa_cons (pv 2) pa_nil))) pa_nil))) (by rfl))
        (pss_cons (ps_set (i := 11) sc_law.nd rfl (Or.inl rfl) (pe_lst (pa_cons (pc (c_law_told T N) hr (by decide) (by rfl) (pa_cons (pv 3) (pa_cons (pv 8) (pa_cons (pv 9) (pa_cons pe_bl pa_nil))))) (pa_cons (pc (c_law_told T N) hr (by decide) (by rfl) (pa_cons (pv 3) (pa_cons (pv 10) (pa_cons (pv 8) (pa_cons pe_bl pa_nil))))) pa_nil))))
        (pss_cons (ps_if (pt_cmpR op_ne (pe_callB (call_reprG gd hr.units) (by rfl) T.n_repr boot_repr (pa_cons (pe_op op_cat (pv 11) (pe_lst (pa_cons (pc (c_law_told T N) hr (by decide) (by rfl) (pa_cons (pv 3) (pa_cons (pv 8) (pa_cons (pv 10) (pa_cons pe_bl pa_nil))))) pa_nil))) pa_nil)) (pe_callB (call_reprG gd hr.units) (by rfl) T.n_repr boot_repr (pa_cons (pe_op op_rep (pe_lst (pa_cons (pe_lst (pa_cons pe_str (pa_cons (pv 8) pa_nil))) pa_nil)) pe_int) pa_nil)) (nomark _)) (pss_one (ps_ret pe_bl)) pss_nil)
        (pss_cons (ps_set (i := 12) sc_law.nd rfl (Or.inl rfl) (pe_cmpR op_eq (pc (c_law_draw T) hr (by decide) (by rfl) (pa_cons (pv 1) (pa_cons pe_int pa_nil))) pe_int (nomark _)))
        (pss_cons (ps_set (i := 2) sc_law.nd rfl (Or.inl rfl) (pc (c_law_buttons T) hr (by decide) (by rfl) (pa_cons (pv 1) (pa_cons (pe_ifExp (pt_val (pv 12)) (pe_op op_add pe_int (pc (c_law_draw T) hr (by decide) (by rfl) (pa_cons (pv 1) (pa_cons pe_int pa_nil)))) (pe_op op_add pe_int (pc (c_law_draw T) hr (by decide) (by rfl) (pa_cons (pv 1) (pa_cons pe_int pa_nil))))) pa_nil))))
        (pss_cons (ps_set (i := 3) sc_law.nd rfl (Or.inl rfl) (pe_ifExp (pt_val (pv 12)) (pc (c_law_long T) hr (by decide) (by rfl) (pa_cons (pv 1) (pa_cons (pc (c_law_mixed T) hr (by decide) (by rfl) (pa_cons (pv 1) (pa_cons (pv 2) pa_nil))) pa_nil))) (pc (c_law_tree T 4) hr (by decide) (by rfl) (pa_cons (pv 1) (pa_cons (pc (c_law_mixed T) hr (by decide) (by rfl) (pa_cons (pv 1) (pa_cons (pv 2) pa_nil))) (pa_cons pe_int pa_nil))))))
        (pss_cons (ps_set (i := 13) sc_law.nd rfl (Or.inl rfl) (pc (c_law_reduced T 12) hr (by decide) (by rfl) (pa_cons (pv 3) pa_nil)))
        (pss_cons (ps_for PassesOwn.never rfl (pi_range1 (by rfl) T.n_range (pa_cons pe_int pa_nil)) (pg_name (i := 14) sc_law.nd rfl (Or.inl rfl))
          (pss_cons (ps_par (i := 6) (j := 7) rfl sc_law.nd rfl rfl (by decide) rfl rfl (pa_cons (pc (c_law_pick T) hr (by decide) (by rfl) (pa_cons (pv 1) (pa_cons (pv 2) pa_nil))) (pa_cons (pc (c_law_pick T) hr (by decide) (by rfl) (pa_cons (pv 1) (pa_cons (pv 2) pa_nil))) pa_nil)) (by rfl))
            (pss_cons (ps_set (i := 15) sc_law.nd rfl (Or.inl rfl) (pc (c_law_no_worse_by_parts T) hr (by decide) (by rfl) (pa_cons (pv 13) (pa_cons (pv 6) (pa_cons (pv 7) pa_nil)))))
            (pss_one (ps_if (pt_not (pt_val (pcG (c_law_is_right T N) gd hr (by decide) (by rfl) (pa_cons (pv 3) (pa_cons (pv 2) (pa_cons (pv 6) (pa_cons (pv 7) (pa_cons (pv 15) (pa_cons (pe_cmpR op_eq (pv 14) pe_int (nomark _)) pa_nil))))))))) (pss_one (ps_ret pe_bl)) pss_nil)))))
        (pss_one (ps_ret pe_bl))))))))))))))), ?_⟩
    refine ⟨_, rfl, a, ns, rfl, hS, hz, fun b g H1 B1 s1 => ?_⟩
    refine ⟨_, rfl, _, rfl, b, g, 6, rfl, B1, by decide, by decide, fun x H2 d0 d1 B2 s2 => ⟨_, _, rfl, rfl, ?_⟩⟩
    obtain ⟨x, rfl⟩ := Int.eq_ofNat_of_zero_le d0
    refine ⟨b, g, 1 + x, by rw [Int.natCast_add]; rfl, B2, by omega, fun r row H3 nd len bd B3 s3 hr0 er => ?_⟩
    -- the tree and every lot
    refine ⟨_, rfl, _, rfl, _, rfl, b, g, r, _, rfl, B3, er, by rw [List.length_map]; omega, itm_ints row, fun m ys H4 pys B4 s4 hm em => ?_⟩
    obtain ⟨row', p1, rfl⟩ := perm_lift V.int pys row rfl
    refine ⟨b, g, m, row', rfl, B4, em, by rw [p1.length_eq]; omega, by rw [p1.length_eq]; omega, fun v t H5 B5 s5 tv ok bt dp => ?_⟩
    have pm : t.btn.Perm row := bt ▸ p1
    have sm : Sm t := ⟨ok, by rw [pm.length_eq]; omega⟩
    have ndt : t.btn.Nodup := pm.symm.nodup nd
    have er5 := s5 _ _ (s4 _ _ er)
    refine ⟨_, rfl, r, row, rfl, rest_get er5, by omega, fun l H6 xs s6 hl el ev => ⟨_, _, rfl, ?_⟩⟩
    have tv6 := (tv.mono rest_same).mono s6
    have er6 := s6 _ _ (rest_get er5)
    have elen : (everyL row).length ≤ 1000 := by
      rw [every_len]
      calc 2 ^ row.length ≤ 2 ^ 6 := Nat.pow_le_pow_right (by omega) (by omega)
        _ ≤ 1000 := by decide
    -- the table
    refine ⟨_, rfl, _, rfl, _, rfl, v, t, l, xs, everyL row, rfl, tv6, sm, by omega, el, ev, elen, fun m2 H7 s7 hm2 em2 => ?_⟩
    have em2' : H7 m2 = some (.lst ((wordsL t row).map V.bl)) := by
      rw [em2]; unfold wordsL; rw [List.map_map]; rfl
    refine ⟨r, m2, row, wordsL t row, rfl, s7 _ _ er6, em2', nd, by omega, by omega, wordsL_len t row, fun d H8 kvs s8 hd ed tab => ?_⟩
    have s58 := (s6.trans s7).trans s8
    obtain ⟨B8, r8⟩ := bag_mid B5 s58
    have tv8 : TV K (rest b g H8) v t := tv.mono r8
    have er8 : rest b g H8 r = some (.lst (row.map V.int)) := r8 _ _ er5
    have hrow : ∀ x ∈ t.btn, x ∈ row := fun x hx => pm.mem_iff.mp hx
    -- each pair of the table
    refine ⟨_, rfl, d, kvs, rfl, .inl ed, fun p bs hp keys => ?_⟩
    have sp := Same.new (o := .lst (bs.map V.ref)) hp
    have keysP : IsKeys H8 kvs bs := keys
    obtain ⟨B9, r9⟩ := bag_mid B8 sp
    have ep : upd H8 p (.lst (bs.map V.ref)) p = some (.lst (bs.map V.ref)) := upd_same
    have ed9 := sp _ _ ed
    have tv9 := tv8.mono r9
    have er9 := r9 _ _ er8
    refine ⟨p, rfl, ⟨_, SqL.of ep⟩, for_list (K := K) (a := p) (xs := bs.map V.ref) (fun i σ H' => ∃ o6 o7 : Option V, σ = [some (.ref a), some (.ref b), some (.ref r), some v, some (.ref l), some (.ref d), o6, o7, none, none, none, none, none, none, none, none] ∧ Same (upd H8 p (.lst (bs.map V.ref))) H')
      ⟨none, none, rfl, Same.refl _⟩ (fun i σ H' _ ⟨_, _, _, s⟩ => SqL.of (s _ _ ep)) ?_ ?_⟩
    · rintro i y σ H' hy ⟨o6, o7, rfl, s10⟩
      rw [List.getElem?_map] at hy
      obtain ⟨bb, hbb, rfl⟩ := Option.map_eq_some_iff.mp hy
      obtain ⟨⟨ky, vy⟩, hq, ebb⟩ := keys_get keysP hbb
      obtain ⟨one, other, m1, m2', ek⟩ := tab.keys _ hq
      dsimp only at ek ebb
      subst ek
      obtain ⟨i1, hi1⟩ := List.getElem?_of_mem m1
      obtain ⟨j1, hj1⟩ := List.getElem?_of_mem m2'
      have val := tab.vals i1 j1 one other hi1 hj1 (.inl (List.getElem?_eq_some_iff.mp hi1).1)
      have s810 := sp.trans s10
      have ebb' : H' bb = some (.tup [V.int one, .int other]) := s810 _ _ ebb
      obtain ⟨row0, rr, erow⟩ : ∃ row0 rr, row = row0 :: rr := by
        cases hrw : row with
        | nil => rw [hrw] at len; simp at len; omega
        | cons x y => exact ⟨x, y, rfl⟩
      have er10 : H' r = some (.lst (row.map V.int)) := rest_get (rest_mono s10 _ _ er9)
      refine ⟨bb, _, rfl, SqT.of ebb', rfl, _, _, rfl, _, _, rfl, rfl, ?_⟩
      refine ⟨_, rfl, _, rfl, _, rfl, _, rfl, _, rfl, _, rfl, _, rfl, by show 2 ≤ sizeLine; decide, fun q hq2 => ?_⟩
      have sq := Same.new (o := .tup [V.int one, .int other]) hq2
      have s8q := s810.trans sq
      refine ⟨d, _, rfl, val ▸ DGet.t (k := kk2 one other) (s8q _ _ ed) upd_same, ?_⟩
      refine ⟨_, rfl, _, rfl, r, _, 0, .int row0, rfl, rfl, SqL.of (sq _ _ er10), by rw [erow]; exact atI_nat (j := 0) rfl, rfl, ?_⟩
      refine ⟨v, t, r, row, one, other, _, _, rfl, ((tv9.mono (rest_mono s10)).mono rest_same).mono sq, sm, ndt, by omega, sq _ _ er10, hrow, bd, pm.mem_iff.mpr m1, pm.mem_iff.mpr m2', table_over ok nd pm hi1 hj1, fun H11 s11 => ⟨_, rfl, iteF ⟨_, _, rfl, s10.trans (sq.trans s11)⟩⟩⟩
    · rintro σ H10 ⟨o6, o7, rfl, s10⟩
      obtain ⟨B10, r10⟩ := bag_mid B9 s10
      have tv10 := tv9.mono r10
      have er10 := r10 _ _ er9
      clear keys keysP tab ed ed9 em em2 em2' el ev tv tv6 tv8 tv9 er er5 er6 er8 er9 elen B1 B2 B3 B4 B5 B8 B9
      -- odd values
      refine ⟨_, rfl, _, rfl, b, g, r, row, rfl, B10, er10, by omega, by omega, bd, fun z1 H11 B11 s11 odd1 => ?_⟩
      refine ⟨_, rfl, _, rfl, b, g, r, row, rfl, B11, s11 _ _ er10, by omega, by omega, bd, fun z2 H12 B12 s12 odd2 => ?_⟩
      refine ⟨_, rfl, _, rfl, b, g, r, row.map V.int, rfl, B12, s12 _ _ (s11 _ _ er10), by rw [List.length_map]; omega, by rw [List.length_map]; omega, fun ix bt H13 hbt B13 s13 => ⟨_, _, _, rfl, ?_⟩⟩
      obtain ⟨c, hc, rfl⟩ := List.mem_map.mp (List.mem_of_getElem? hbt)
      have s1013 := (s11.trans s12).trans s13
      have tv13 := (tv10.mono s1013).mono rest_same
      have odd13 := (odd1.mono (s12.trans s13)).mono rest_same
      have gc : Gd t (.int c) := ⟨c, rfl, pm.mem_iff.mpr hc⟩
      -- told of them
      refine ⟨_, rfl, _, rfl, _, rfl, v, t, _, _, true, rfl, tv13, sm, ndt, by omega, .inr ⟨z1, .inl ⟨odd13.bad hrow, rfl⟩, fun l1 G1 t1 n1 => ?_⟩⟩
      have u1 := t1.trans (Same.new (o := .lst [.str "none", z1]) n1)
      have el1 := upd_same (H := G1) (a := l1) (o := .lst [.str "none", z1])
      generalize upd G1 l1 (.lst [.str "none", z1]) = G1' at u1 el1
      refine ⟨_, rfl, _, rfl, _, rfl, v, t, _, _, false, rfl, tv13.mono u1, sm, ndt, by omega, .inr ⟨z1, .inr ⟨gc, (odd13.mono u1).bad hrow, rfl⟩, fun l2 G2 t2 n2 => ?_⟩⟩
      have u2 := t2.trans (Same.new (o := .lst [.str "none", z1]) n2)
      have el2 := upd_same (H := G2) (a := l2) (o := .lst [.str "none", z1])
      generalize upd G2 l2 (.lst [.str "none", z1]) = G2' at u2 el2
      refine ⟨by show 2 ≤ sizeLine; decide, fun l3 n3 => ?_⟩
      have u3 := Same.new (o := .lst [V.ref l1, .ref l2]) n3
      have el3 := upd_same (H := G2') (a := l3) (o := .lst [V.ref l1, .ref l2])
      have u13 := (u1.trans u2).trans u3
      have el1 := u3 _ _ (u2 _ _ el1)
      have el2 := u3 _ _ el2
      generalize upd G2' l3 (.lst [V.ref l1, .ref l2]) = G3 at u13 el1 el2 el3
      -- the two texts
      refine ⟨_, rfl, _, rfl, _, rfl, _, rfl, v, t, _, _, false, rfl, tv13.mono u13, sm, ndt, by omega, .inr ⟨z1, .inl ⟨(odd13.mono u13).bad hrow, rfl⟩, fun l4 G4 t4 n4 => ?_⟩⟩
      have u4 := t4.trans (Same.new (o := .lst [.str "none", z1]) n4)
      have el4 := upd_same (H := G4) (a := l4) (o := .lst [.str "none", z1])
      generalize upd G4 l4 (.lst [.str "none", z1]) = G4' at u4 el4
      refine ⟨by show 1 ≤ sizeLine; decide, fun l5 n5 => ?_⟩
      have u5 := Same.new (o := .lst [V.ref l4]) n5
      have el5 := upd_same (H := G4') (a := l5) (o := .lst [V.ref l4])
      have u45 := u4.trans u5
      have el4 := u5 _ _ el4
      generalize upd G4' l5 (.lst [V.ref l4]) = G5 at u45 el4 el5
      refine ⟨l3, l5, _, _, rfl, rfl, u45 _ _ el3, el5, by show 3 ≤ sizeLine; decide, fun l6 n6 => ?_⟩
      have u6 := Same.new (o := .lst ([V.ref l1, .ref l2] ++ [V.ref l4])) n6
      have el6 : upd G5 l6 (.lst ([V.ref l1, .ref l2] ++ [V.ref l4])) l6 = some (.lst [V.ref l1, .ref l2, .ref l4]) := upd_same
      have u46 := u45.trans u6
      have el1 := u46 _ _ el1
      have el2 := u46 _ _ el2
      have el4 := u6 _ _ el4
      have u16 := u13.trans u46
      generalize upd G5 l6 (.lst ([V.ref l1, .ref l2] ++ [V.ref l4])) = G6 at u16 el1 el2 el4 el6
      obtain ⟨dz, dx, shn⟩ := odd13.cand.data
      obtain ⟨w1, w2, w3⟩ := told3 shn
      have one : ∀ {G : Hp} {q : Addr}, Same H13 G → G q = some (.lst [.str "none", z1]) → Dx K G (.ref q) (.list [.str "none", dz]) := fun sG e => .list e (.cons (.of (.str _)) (.cons (dx.mono sG) .nil))
      refine ⟨l6, _, _, [.list [.str "none", dz], .list [.str "none", dz], .list [.str "none", dz]], rfl, el6, .cons (one u16 el1) (.cons (one u16 el2) (.cons (one u16 el4) .nil)), w1, w2, w3, ?_⟩
      refine ⟨_, rfl, by show 2 ≤ sizeLine; decide, fun l7 n7 => ⟨by show 1 ≤ sizeLine; decide, fun l8 n8 => ?_⟩⟩
      have u7 := Same.new (o := .lst [.str "none", z1]) n7
      have u8 := Same.new (o := .lst [V.ref l7]) n8
      have el7 := u8 _ _ (upd_same (H := G6) (a := l7) (o := .lst [.str "none", z1]))
      have el8 := upd_same (H := upd G6 l7 (.lst [.str "none", z1])) (a := l8) (o := .lst [V.ref l7])
      have u18 := (u16.trans u7).trans u8
      generalize upd (upd G6 l7 (.lst [.str "none", z1])) l8 (.lst [V.ref l7]) = G8 at u18 el7 el8
      refine ⟨l8, 3, [V.ref l7], rfl, rfl, el8, by decide, by decide, by show 1 * 3 ≤ sizeLine; decide, fun l9 n9 => ?_⟩
      have u9 := Same.new (o := .lst [V.ref l7, .ref l7, .ref l7]) n9
      have u19 := u18.trans u9
      have el7 := u9 _ _ el7
      refine ⟨l9, _, _, [.list [.str "none", dz], .list [.str "none", dz], .list [.str "none", dz]], rfl, upd_same (o := .lst [V.ref l7, .ref l7, .ref l7]), .cons (one u19 el7) (.cons (one u19 el7) (.cons (one u19 el7) .nil)), w1, w2, w3, rfl, _, rfl, ?_⟩
      rw [ne_self]
      refine iteF ?_
      obtain ⟨B14, r14⟩ := bag_mid B13 u19
      have B14' : Bag b g (upd G8 l9 (.lst (List.replicate (3 : Int).toNat [V.ref l7]).flatten)) := B14
      generalize upd G8 l9 (.lst (List.replicate (3 : Int).toNat [V.ref l7]).flatten) = G9 at B14'
      clear el1 el2 el3 el4 el5 el6 el7 el8 one dx odd1 odd2 odd13 tv13 tv10 er10 B10 B11 B12 B13 B14
      -- the second tree
      refine ⟨_, rfl, b, g, 3, rfl, B14', by decide, by decide, fun y H15 d2 d3 B15 s15 => ⟨rfl, ?_⟩⟩
      generalize decide (V.int y = V.int 0) = lg
      dsimp only [gName, tSeq, tAsg, tCall, tCons]
      refine ⟨_, rfl, ?_⟩
      refine te_of (fun v H16 => ∃ n : Nat, v = .int (n : Int) ∧ 2 ≤ n ∧ n ≤ 24 ∧ Bag b g H16) ?_ ?_
      · intro R hR
        refine ⟨_, rfl, _, rfl, ?_⟩
        cases lg with
        | true =>
          refine iteT ⟨_, rfl, b, g, 11, rfl, B15, by decide, by decide, fun x2 H16 q0 q1 B16 s16 => ⟨_, _, rfl, rfl, ?_⟩⟩
          obtain ⟨x2, rfl⟩ := Int.eq_ofNat_of_zero_le q0
          exact hR _ _ ⟨14 + x2, by rw [Int.natCast_add]; rfl, by omega, by omega, B16⟩
        | false =>
          refine iteF ⟨_, rfl, b, g, 17, rfl, B15, by decide, by decide, fun x2 H16 q0 q1 B16 s16 => ⟨_, _, rfl, rfl, ?_⟩⟩
          obtain ⟨x2, rfl⟩ := Int.eq_ofNat_of_zero_le q0
          exact hR _ _ ⟨8 + x2, by rw [Int.natCast_add]; rfl, by omega, by omega, B16⟩
      · rintro v3 H16 ⟨n, rfl, n2, n24, B16⟩
        refine ⟨b, g, n, rfl, B16, n24, fun r3 row3 H17 nd3 len3 bd3 B17 s17 hr3 er3 => ?_⟩
        refine te_of (fun v4 H18 => ∃ t4 : Tr, Bag b g H18 ∧ rest b g H18 r3 = some (.lst (row3.map V.int)) ∧ TV K (rest b g H18) v4 t4 ∧ t4.ok ∧ t4.btn.Perm row3 ∧ t4.dep ≤ 12) ?_ ?_
        · intro R hR
          refine ⟨_, rfl, _, rfl, ?_⟩
          cases lg with
          | true =>
            refine iteT ⟨_, rfl, _, rfl, _, rfl, b, g, r3, _, rfl, B17, er3, by rw [List.length_map]; omega, itm_ints row3, fun m3 ys H19 pys B19 s19 hm3 em3 => ?_⟩
            obtain ⟨row', p1, rfl⟩ := perm_lift V.int pys row3 rfl
            refine ⟨b, g, m3, row', rfl, B19, em3, by rw [p1.length_eq]; omega, by rw [p1.length_eq]; omega, fun v4 t4 H20 B20 s20 tv4 ok4 pm4 dp4 => ?_⟩
            exact hR _ _ ⟨t4, B20, s20 _ _ (s19 _ _ er3), tv4, ok4, pm4.trans p1, dp4⟩
          | false =>
            refine iteF ⟨_, rfl, _, rfl, _, rfl, b, g, r3, _, rfl, B17, er3, by rw [List.length_map]; omega, itm_ints row3, fun m3 ys H19 pys B19 s19 hm3 em3 => ?_⟩
            obtain ⟨row', p1, rfl⟩ := perm_lift V.int pys row3 rfl
            refine ⟨b, g, m3, row', rfl, B19, em3, by rw [p1.length_eq]; omega, by rw [p1.length_eq]; omega, fun v4 t4 H20 B20 s20 tv4 ok4 bt4 dp4 => ?_⟩
            exact hR _ _ ⟨t4, B20, s20 _ _ (s19 _ _ er3), tv4, ok4, bt4 ▸ p1, by omega⟩
        · rintro v4 H18 ⟨t4, B18, er18, tv4, ok4, pm4, dp4⟩
          have sm4 : Sm t4 := ⟨ok4, by rw [pm4.length_eq]; omega⟩
          have ndt4 : t4.btn.Nodup := pm4.symm.nodup nd3
          refine ⟨_, rfl, v4, t4, rfl, tv4.mono rest_same, sm4, ndt4, dp4, fun v5 H19 s19 tv5 => ?_⟩
          obtain ⟨B19, r19⟩ := bag_mid B18 s19
          have tv5' := B19.tv _ _ tv5
          have tv4' := tv4.mono r19
          have er19 := r19 _ _ er18
          refine ⟨6, rfl, by decide, by decide, for_range (lo := 0) (n := 6) (fun i σ H' => ∃ o6 o7 o14 o15 : Option V, σ = [some (.ref a), some (.ref b), some (.ref r3), some v4, some (.ref l), some (.ref d), o6, o7, some z1, some z2, some (.int c), some (.ref l3), some (.bl lg), some v5, o14, o15] ∧ Bag b g H' ∧ Same (rest b g H19) (rest b g H'))
            ⟨_, _, none, none, rfl, B19, Same.refl _⟩ ?_ ?_⟩
          · rintro i σ H' hi ⟨o6, o7, o14, o15, rfl, B20, s20⟩
            refine ⟨_, rfl, _, rfl, b, g, r3, _, rfl, B20, s20 _ _ er19, by rw [List.length_map]; omega, by rw [List.length_map]; omega, fun ix1 w1 H21 hw1 B21 s21 => ?_⟩
            refine ⟨_, rfl, _, rfl, b, g, r3, _, rfl, B21, s21 _ _ (s20 _ _ er19), by rw [List.length_map]; omega, by rw [List.length_map]; omega, fun ix2 w2 H22 hw2 B22 s22 => ⟨_, _, rfl, ?_⟩⟩
            obtain ⟨one, m1, rfl⟩ := List.mem_map.mp (List.mem_of_getElem? hw1)
            obtain ⟨other, m2, rfl⟩ := List.mem_map.mp (List.mem_of_getElem? hw2)
            have b1 := pm4.mem_iff.mpr m1
            have b2 := pm4.mem_iff.mpr m2
            have s1922 := (s20.trans s21).trans s22
            refine ⟨_, rfl, _, rfl, _, rfl, v5, t4.norm id, one, other, rfl, (tv5'.mono s1922).mono rest_same, norm_inI sm4 ndt4 dp4 b1, norm_memI sm4 b2, fun H23 s23 => ?_⟩
            obtain ⟨B23, r23⟩ := bag_mid B22 s23
            have s1923 := s1922.trans r23
            refine ⟨_, rfl, _, rfl, _, rfl, _, rfl, _, rfl, _, rfl, rfl, v4, t4, r3, row3, one, other, _, _, rfl, (tv4'.mono s1923).mono rest_same, sm4, ndt4, dp4, rest_get (s1923 _ _ er19), fun x hx => pm4.mem_iff.mp hx, bd3, b1, b2, parts_over ok4 ndt4 b1 b2, fun H24 s24 => ⟨_, rfl, iteF ⟨_, _, _, _, rfl, B23.mono s24, s1923.trans (rest_mono s24)⟩⟩⟩
          · rintro σ H' ⟨o6, o7, o14, o15, rfl, B20, s20⟩
            exact k H'
end
end K23
namespace K23
open PySem PyProof.Rows PySem.Spec L2
section
variable {P : Program} {w : World} {K : PySem.W.Frag} {mg mb : Str → Option Value} {fa a : Addr} {fd : FuncData} {st : Shared} {vs : List Value} {ns : List Int}
/-- what the call leaves -/
def EndsR (st : Shared) : Result → Shared → Prop := fun r s' => r = .ok (.ret (.bool true)) ∧ OldK st.heap s'.heap ∧ s'.os = st.os ∧ AllBare s'.gens
/-- from a heap told by H: nothing told but the script -/
theorem law_fromH (X : K.In st.heap) (hn : st.heap.Ns mainGlobals mg) (hb : st.heap.Ns builtinsNs mb) (hz : ∀ x : Str, x ≠ "__name__" → mb x = bootBuiltins x) (nl : st.heap.NoLimit) (ng : st.gens = #[])
    (la : st.heap.get? a = some { cls := .type "list", data := .seq vs.toArray }) (sm : ns.length ≤ 100000)
    (F : ∀ base : Heap, K.In base → base.Ns mainGlobals mg → FnOkG P w K mg base 22 fa fd ["_law_script"] (spLaw K)) (bn : ∀ (s : Shared) (u : Value), BindsTo s fd ⟨[u], []⟩ [("_law_script", u)])
    (H : Hp) (on : Only H) (sq : SqL K H a (ns.map V.int)) (ok : HOk P w H st.heap) (oa : ∀ b, H b ≠ none → b = a) (ka : H a ≠ none → K.lookup a = none) :
    codeAny (model P w) callerA (.call (.ref fa) ⟨[.ref a], []⟩) (EndsR st) st := by
  have low : ∀ {b : Addr} {o : Obj}, st.heap.get? b = some o → H b = none → (hidT st.heap H).get? b = some o := fun q z => hidT_get q z
  have free : ∀ {b : Addr} {o : Obj} {es : Array DictEntry} {m : Nat}, st.heap.get? b = some o → o.data = .dict es m → H b = none := by
    intro b o es m q z
    cases hb2 : H b with
    | none => rfl
    | some u =>
      obtain rfl : b = a := oa b (by simp [hb2])
      rw [la] at q
      cases q
      exact Data.noConfusion z
  have nsL : ∀ {b : Addr} {m : Str → Option Value}, st.heap.Ns b m → (hidT st.heap H).Ns b m := by
    rintro b m ⟨o, es, n, q, z, r⟩
    exact ⟨o, es, n, low q (free q z), z, r⟩
  have inL : K.In (hidT st.heap H) := by
    intro b o q
    refine low (X b o q) ?_
    cases hb2 : H b with
    | none => rfl
    | some u =>
      obtain rfl : b = a := oa b (by simp [hb2])
      rw [ka (by simp [hb2])] at q
      cases q
  obtain ⟨m1, l1, l2⟩ := nl
  have md : Mod K mg (hidT st.heap H) := ⟨inL, nsL hn, ⟨mb, nsL hb, hz⟩, ⟨m1, nsL l1, l2⟩⟩
  have ev : Env0 P w K mg (hidT st.heap H) callerA [] st H := ⟨rfl, md, fun _ _ q => of_hidT q, Nat.le_of_eq (hidT_size _ _), trivial, fun b q => (by cases q), ok, .of_eq ng⟩
  have go := (F _ inL (nsL hn)).run callerA [] st H ⟨[.ref a], []⟩ [.ref a] [.ref a] (fun v _ => v = .bl true) E0 rfl ⟨rfl, by decide, by decide⟩ ev (bn st (.ref a)) (.cons rfl .nil) ⟨a, ns, rfl, sq, sm, fun _ => rfl⟩
  refine codeAny_mono go fun r s' q => ?_
  cases r with
  | error e => exact False.elim q
  | ok fl =>
    cases fl with
    | next => exact False.elim q
    | brk => exact False.elim q
    | cont => exact False.elim q
    | ret u =>
      obtain ⟨v, H', os, bare, un, ok', rv, z⟩ := q
      obtain rfl : v = .bl true := z
      obtain rfl : u = Value.bool true := rv
      refine ⟨rfl, OldK.of_keep fun b o q => ?_, os, bare⟩
      cases hb2 : H b with
      | none => exact un.keep b o q hb2 (by intro z; exact absurd (show b ∈ ([] : List Addr) from z) (by simp)) (by simp)
      | some u =>
        rcases on b with z | ⟨ob, xs, z⟩
        · rw [hb2] at z; cases z
        · obtain ⟨e1, _⟩ := ok b _ z
          obtain ⟨e2, _⟩ := ok' b _ (un.frzs b ob _ z)
          rw [q] at e1
          cases e1
          exact e2
/-- the call of law, behind the top -/
theorem law_run (X : K.In st.heap) (hn : st.heap.Ns mainGlobals mg) (hb : st.heap.Ns builtinsNs mb) (hz : ∀ x : Str, x ≠ "__name__" → mb x = bootBuiltins x) (nl : st.heap.NoLimit) (ng : st.gens = #[])
    (la : st.heap.get? a = some { cls := .type "list", data := .seq vs.toArray }) (iv : IntsAre vs ns) (sm : ns.length ≤ 100000)
    (F : ∀ base : Heap, K.In base → base.Ns mainGlobals mg → FnOkG P w K mg base 22 fa fd ["_law_script"] (spLaw K)) (bn : ∀ (s : Shared) (u : Value), BindsTo s fd ⟨[u], []⟩ [("_law_script", u)]) :
    codeAny (model P w) callerA (.call (.ref fa) ⟨[.ref a], []⟩) (EndsR st) st := by
  have rv := vals_ints iv
  have big : ns.length ≤ sizeLine := Nat.le_trans sm (by rw [sizeLine_eq]; decide)
  have len : vs.length = ns.length := iv.length
  cases hk : K.lookup a with
  | some o =>
    have q := X a o hk
    rw [la] at q
    cases q
    exact law_fromH X hn hb hz nl ng la sm F bn (fun _ => none) (fun _ => .inl rfl) (.inr ⟨_, vs.toArray, _, hk, rfl, rfl, rfl, by rw [List.size_toArray, len]; exact big, by simpa using rv⟩) (fun b u z => by cases z) (fun b z => absurd rfl z) (fun z => absurd rfl z)
  | none =>
    refine law_fromH X hn hb hz nl ng la sm F bn (fun b => if b = a then some (.frz { cls := .type "list", data := .seq vs.toArray } (.lst (ns.map V.int))) else none) (fun b => ?_) (.inl (.inr ⟨_, if_pos rfl⟩)) (fun b u z => ?_) (fun b z => ?_) (fun _ => hk)
    · by_cases c : b = a
      · exact .inr ⟨_, _, if_pos c⟩
      · exact .inl (if_neg c)
    · by_cases c : b = a
      · have y := (if_pos c).symm.trans z
        cases y
        subst c
        exact ⟨la, by rw [List.length_map]; exact big, vs, _, rv, la⟩
      · have y := (if_neg c).symm.trans z
        cases y
    · by_cases c : b = a
      · exact c
      · exact absurd (if_neg c) z
end
/-- the end of an open law whose def is law, from facts of the written part -/
theorem walk23 {l : PySem.W.OpenLaw} {q : Program} {loose : List Str} {XP : (Str → Option Value) → Heap → Prop} {YP : World → Heap → Prop} {d : DefRec} {K : Params → PySem.W.Frag}
    (hm : l.most = some 63) (hd : d.params.defaults = []) (hY : ∀ (w : World) (h : Heap), YP w h → (K w.params).In h)
    (F : ∀ (w : World) (mg : Str → Option Value) (fa : Addr) (hp : Heap), (K w.params).In hp → hp.Ns mainGlobals mg → mg d.name = some (.ref fa) →
      ∃ fd : FuncData, (∀ (s : Shared) (u : Value), BindsTo s fd ⟨[u], []⟩ [("_law_script", u)]) ∧ ∀ base : Heap, K w.params |>.In base → base.Ns mainGlobals mg → FnOkG l.prog w (K w.params) mg base 22 fa fd ["_law_script"] (spLaw (K w.params))) : PySem.W.WalkO q loose XP YP l.row.toRowW d [] (fun f vs => PySem.call f vs) := by
  refine Att.attach_call hm hd fun w s₀ st mg mb fa o pm cd doc a vs ns G Y ho hfd hcd hmg la iv len ng => ?_
  obtain ⟨fd, bn, hF⟩ := F w mg fa _ (hY w _ Y) G.T.g hmg
  exact law_run (hY w _ Y) G.T.g G.T.b G.T.builtins G.T.nolimit ng la iv (by omega) hF bn
/-! ### facts of the written part -/
section
variable {h : Heap} {K : PySem.W.Frag} {mg : Str → Option Value}
theorem df_mk (X : K.In h) (G : h.Ns mainGlobals mg) {x : Str} {i : Nat} {f : Addr} {oc : Value} {od an : Option Addr} {osl : Array (Option Value)} {kV doc pm cdv ct : Value}
    (e1 : PySem.W.nsIn K mainGlobals x = some (some (.ref f))) (e2 : K.lookup f = some ⟨oc, od, .func (PySem.W.fnOf x x (defArgs (topS i)) (defBody (topS i)) (defScope (topS i)) .none kV doc pm an cdv ct), osl⟩)
    (e3 : PySem.W.codeIn K cdv x = true) (e4 : PySem.W.keepIn K (.ref f) = true) : Df K mg x i :=
  ⟨⟨f, _, fun_mk e2 e3 e4, PySem.W.mg_of X G e1⟩⟩
end
end K23
namespace K23
open PySem PyProof.Rows PySem.Spec L2
section
variable {P : Program} {w : World} {K : PySem.W.Frag} {h : Heap} {mg : Str → Option Value} {fa C D fI : Addr} {mc : Value}
theorem exm_own {S : Addr} (h1 : PySem.W.subIn K (.ref S) (.type "BaseException") = some true) (h2 : PySem.W.isClsIn K S = true) (h3 : PySem.W.typeIn K (.ref S) = some (.type "type")) (h4 : PySem.W.subIn K (.ref S) (.ref S) = some true) : PySem.W.exmOne K (.ref S) (.ref S) = some true := by
  have i1 : (PySem.W.clsIn K S).isSome = true := h2
  simp [PySem.W.exmOne, PySem.W.kitCls, h1, h3, h4, i1]
theorem nb_mk (X : K.In h) (G : h.Ns mainGlobals mg) {nm q : Str} {N : Addr} {bs bm : List Value} {sn : List Str} {sub : List Value} {ab : Bool} {col : Option Bool} {dd : Option Addr} {k0 k1 k2 k3 k5 : Option Value}
    {oc : Value} {od an : Option Addr} {osl : Array (Option Value)} {kV doc pm cdv ct : Value}
    (aC : PySem.W.nsIn K mainGlobals "NoButton" = some (some (.ref C))) (aD : PySem.W.nsIn K mainGlobals "TripError" = some (some (.ref D)))
    (xL : K.lookup C = some (excClassObj nm q C N bs bm true sn sub ab col dd k0 k1 k2 k3 k5 "ValueError.__new__")) (hv : PySem.HandSPX.refsVE bm = true)
    (sa : PySem.W.findIn K (.ref C) "__setattr__" = some (some (.builtin "object.__setattr__"))) (eC : PySem.W.subIn K (.ref C) (.type "BaseException") = some true) (tC : PySem.W.typeIn K (.ref C) = some (.type "type")) (kC : PySem.W.keepIn K (.ref C) = true)
    (a1 : PySem.W.findIn K (.ref C) "__init__" = some (some (.ref fI))) (t1 : PySem.W.typeIn K (.ref fI) = some (.type "function"))
    (l1 : K.lookup fI = some ⟨oc, od, .func (PySem.W.fnOf "__init__" "NoButton.__init__" (defArgs initS) (defBody initS) (defScope initS) .none kV doc pm an cdv ct), osl⟩) (c1 : PySem.W.codeIn K cdv "NoButton.__init__" = true) (kI : PySem.W.keepIn K (.ref fI) = true)
    (rd : PySem.W.readsIn K D (.type "type") = true) (gt : PySem.W.specialIn K (.ref D) "__getattribute__" = some (some (.builtin "type.__getattribute__"))) (vV : PySem.W.findCls K (.ref D) (.type "type") "__init__" = some (.val (.builtin "ValueError.__init__")))
    (g1 : PySem.W.findIn K (.ref C) "__getattribute__" = some (some (.builtin "BaseException.__getattribute__"))) (g2 : PySem.W.findIn K (.ref C) "__getattr__" = some none) (hd : PySem.W.hasDictIn K C = true) (nG : PySem.W.findIn K (.ref C) "given" = some none)
    (iC : PySem.W.isClsIn K C = true) (sC : PySem.W.subIn K (.ref C) (.ref C) = some true) : Nb K mg C D fI (.type "type") :=
  { gC := PySem.W.mg_of X G aC, gD := PySem.W.mg_of X G aD, oex := ⟨⟨_, _, _, _, _, _, _, _, _, _, _, _, _, _, _, xL, hv⟩, sa, eC, tC, kC⟩, iC := a1, tI := t1, fu := ⟨_, fun_mk l1 c1 kI⟩, rd := ⟨rd, gt⟩, vV := vV, xf := ⟨g1, g2, eC, hd⟩, noG := nG, te := exm_own eC iC tC sC }
theorem fin (X : K.In h) (G : h.Ns mainGlobals mg) (hfa : mg "law" = some (.ref fa))
    (d_is_trip : Df K mg "is_trip" 4)
    (d_buttons_in_order : Df K mg "buttons_in_order" 5)
    (d_buttons_of : Df K mg "buttons_of" 6)
    (d_goes : Df K mg "goes" 8)
    (d_least_button : Df K mg "least_button" 10)
    (d_is_like_trip : Df K mg "is_like_trip" 11)
    (d_told_trip : Df K mg "told_trip" 12)
    (d_told : Df K mg "told" 13)
    (d_need_buttons : Df K mg "need_buttons" 15)
    (d_part_with : Df K mg "part_with" 16)
    (d_trips_down : Df K mg "trips_down" 17)
    (d_is_over : Df K mg "is_over" 18)
    (d_first_buttons : Df K mg "first_buttons" 19)
    (d_parts_without : Df K mg "parts_without" 20)
    (d_turning_lot : Df K mg "turning_lot" 21)
    (d_worse_lot : Df K mg "worse_lot" 22)
    (d_law_bag : Df K mg "_law_bag" 24)
    (d_law_draw : Df K mg "_law_draw" 25)
    (d_law_pick : Df K mg "_law_pick" 26)
    (d_law_mixed : Df K mg "_law_mixed" 27)
    (d_law_buttons : Df K mg "_law_buttons" 28)
    (d_law_tree : Df K mg "_law_tree" 29)
    (d_law_held : Df K mg "_law_held" 30)
    (d_law_every : Df K mg "_law_every" 31)
    (d_law_words : Df K mg "_law_words" 32)
    (d_law_powers : Df K mg "_law_powers" 33)
    (d_law_goes : Df K mg "_law_goes" 34)
    (d_law_is_no_worse : Df K mg "_law_is_no_worse" 35)
    (d_law_table : Df K mg "_law_table" 36)
    (d_law_reduced : Df K mg "_law_reduced" 37)
    (d_law_no_worse_by_parts : Df K mg "_law_no_worse_by_parts" 38)
    (d_law_strange : Df K mg "_law_strange" 39)
    (d_law_told : Df K mg "_law_told" 40)
    (d_law_shows : Df K mg "_law_shows" 41)
    (d_law_is_right : Df K mg "_law_is_right" 42)
    (d_law_long : Df K mg "_law_long" 43)
    (d_law : Df K mg "law" 44)
    (n_isinstance : PySem.W.nsIn K mainGlobals "isinstance" = some none)
    (n_tuple : PySem.W.nsIn K mainGlobals "tuple" = some none)
    (n_sorted : PySem.W.nsIn K mainGlobals "sorted" = some none)
    (n_len : PySem.W.nsIn K mainGlobals "len" = some none)
    (n_int : PySem.W.nsIn K mainGlobals "int" = some none)
    (n_bool : PySem.W.nsIn K mainGlobals "bool" = some none)
    (n_range : PySem.W.nsIn K mainGlobals "range" = some none)
    (n_list : PySem.W.nsIn K mainGlobals "list" = some none)
    (n_enumerate : PySem.W.nsIn K mainGlobals "enumerate" = some none)
    (n_zip : PySem.W.nsIn K mainGlobals "zip" = some none)
    (n_abs : PySem.W.nsIn K mainGlobals "abs" = some none)
    (n_min : PySem.W.nsIn K mainGlobals "min" = some none)
    (n_max : PySem.W.nsIn K mainGlobals "max" = some none)
    (n_repr : PySem.W.nsIn K mainGlobals "repr" = some none)
    (n_str : PySem.W.nsIn K mainGlobals "str" = some none)
    (N : Nb K mg C D fI mc) : ∃ fd : FuncData, (∀ (s : Shared) (u : Value), BindsTo s fd ⟨[u], []⟩ [("_law_script", u)]) ∧ ∀ base : Heap, K.In base → base.Ns mainGlobals mg → FnOkG P w K mg base 22 fa fd ["_law_script"] (spLaw K) := by
  have T : Txt K mg := { d_is_trip := d_is_trip, d_buttons_in_order := d_buttons_in_order, d_buttons_of := d_buttons_of, d_goes := d_goes, d_least_button := d_least_button, d_is_like_trip := d_is_like_trip, d_told_trip := d_told_trip, d_told := d_told, d_need_buttons := d_need_buttons, d_part_with := d_part_with, d_trips_down := d_trips_down, d_is_over := d_is_over, d_first_buttons := d_first_buttons, d_parts_without := d_parts_without, d_turning_lot := d_turning_lot, d_worse_lot := d_worse_lot, d_law_bag := d_law_bag, d_law_draw := d_law_draw, d_law_pick := d_law_pick, d_law_mixed := d_law_mixed, d_law_buttons := d_law_buttons, d_law_tree := d_law_tree, d_law_held := d_law_held, d_law_every := d_law_every, d_law_words := d_law_words, d_law_powers := d_law_powers, d_law_goes := d_law_goes, d_law_is_no_worse := d_law_is_no_worse, d_law_table := d_law_table, d_law_reduced := d_law_reduced, d_law_no_worse_by_parts := d_law_no_worse_by_parts, d_law_strange := d_law_strange, d_law_told := d_law_told, d_law_shows := d_law_shows, d_law_is_right := d_law_is_right, d_law_long := d_law_long, d_law := d_law, n_isinstance := PySem.W.mg_none_of X G n_isinstance, n_tuple := PySem.W.mg_none_of X G n_tuple, n_sorted := PySem.W.mg_none_of X G n_sorted, n_len := PySem.W.mg_none_of X G n_len, n_int := PySem.W.mg_none_of X G n_int, n_bool := PySem.W.mg_none_of X G n_bool, n_range := PySem.W.mg_none_of X G n_range, n_list := PySem.W.mg_none_of X G n_list, n_enumerate := PySem.W.mg_none_of X G n_enumerate, n_zip := PySem.W.mg_none_of X G n_zip, n_abs := PySem.W.mg_none_of X G n_abs, n_min := PySem.W.mg_none_of X G n_min, n_max := PySem.W.mg_none_of X G n_max, n_repr := PySem.W.mg_none_of X G n_repr, n_str := PySem.W.mg_none_of X G n_str }
  obtain ⟨f, fd, F, hm⟩ := d_law.ex
  have same := hfa.symm.trans hm
  cases same
  refine ⟨fd, fun s u => ?_, fun base _ _ => c_law T N F⟩
  obtain ⟨oc, od, kV, doc, pm, an, cdv, ct, osl, rfl, _, _⟩ := F.ex
  exact .of_eq rfl
end
end K23
open PyProof.Rows PySem PySem.W
set_option maxRecDepth 110000 in
set_option maxHeartbeats 0 in
theorem PySem.Challenge.cw_onescale_k23_whole_lots_that_show_which_holds : PySem.Challenge.rw_onescale_k23_whole_lots_that_show_which.Holds := by
  w_on; o_law
  k_head
  (case hw => w_witness2)
  k_fill
  refine K23.walk23 (l := PySem.Challenge.rw_onescale_k23_whole_lots_that_show_which) rfl rfl (fun w h Y => PySem.W.kIn_of Y) ?F
  case F =>
    intro w mg fa h KX G hmg
    refine' K23.fin KX G hmg ?d_is_trip ?d_buttons_in_order ?d_buttons_of ?d_goes ?d_least_button ?d_is_like_trip ?d_told_trip ?d_told ?d_need_buttons ?d_part_with ?d_trips_down ?d_is_over ?d_first_buttons ?d_parts_without ?d_turning_lot ?d_worse_lot ?d_law_bag ?d_law_draw ?d_law_pick ?d_law_mixed ?d_law_buttons ?d_law_tree ?d_law_held ?d_law_every ?d_law_words ?d_law_powers ?d_law_goes ?d_law_is_no_worse ?d_law_table ?d_law_reduced ?d_law_no_worse_by_parts ?d_law_strange ?d_law_told ?d_law_shows ?d_law_is_right ?d_law_long ?d_law ?n_isinstance ?n_tuple ?n_sorted ?n_len ?n_int ?n_bool ?n_range ?n_list ?n_enumerate ?n_zip ?n_abs ?n_min ?n_max ?n_repr ?n_str ?zNb
    case d_is_trip => refine' K23.df_mk KX G ?a ?b ?c ?d; (case a => k_is); (case b => k_is); (case c => k_is); (case d => k_is)
    case d_buttons_in_order => refine' K23.df_mk KX G ?a ?b ?c ?d; (case a => k_is); (case b => k_is); (case c => k_is); (case d => k_is)
    case d_buttons_of => refine' K23.df_mk KX G ?a ?b ?c ?d; (case a => k_is); (case b => k_is); (case c => k_is); (case d => k_is)
    case d_goes => refine' K23.df_mk KX G ?a ?b ?c ?d; (case a => k_is); (case b => k_is); (case c => k_is); (case d => k_is)
    case d_least_button => refine' K23.df_mk KX G ?a ?b ?c ?d; (case a => k_is); (case b => k_is); (case c => k_is); (case d => k_is)
    case d_is_like_trip => refine' K23.df_mk KX G ?a ?b ?c ?d; (case a => k_is); (case b => k_is); (case c => k_is); (case d => k_is)
    case d_told_trip => refine' K23.df_mk KX G ?a ?b ?c ?d; (case a => k_is); (case b => k_is); (case c => k_is); (case d => k_is)
    case d_told => refine' K23.df_mk KX G ?a ?b ?c ?d; (case a => k_is); (case b => k_is); (case c => k_is); (case d => k_is)
    case d_need_buttons => refine' K23.df_mk KX G ?a ?b ?c ?d; (case a => k_is); (case b => k_is); (case c => k_is); (case d => k_is)
    case d_part_with => refine' K23.df_mk KX G ?a ?b ?c ?d; (case a => k_is); (case b => k_is); (case c => k_is); (case d => k_is)
    case d_trips_down => refine' K23.df_mk KX G ?a ?b ?c ?d; (case a => k_is); (case b => k_is); (case c => k_is); (case d => k_is)
    case d_is_over => refine' K23.df_mk KX G ?a ?b ?c ?d; (case a => k_is); (case b => k_is); (case c => k_is); (case d => k_is)
    case d_first_buttons => refine' K23.df_mk KX G ?a ?b ?c ?d; (case a => k_is); (case b => k_is); (case c => k_is); (case d => k_is)
    case d_parts_without => refine' K23.df_mk KX G ?a ?b ?c ?d; (case a => k_is); (case b => k_is); (case c => k_is); (case d => k_is)
    case d_turning_lot => refine' K23.df_mk KX G ?a ?b ?c ?d; (case a => k_is); (case b => k_is); (case c => k_is); (case d => k_is)
    case d_worse_lot => refine' K23.df_mk KX G ?a ?b ?c ?d; (case a => k_is); (case b => k_is); (case c => k_is); (case d => k_is)
    case d_law_bag => refine' K23.df_mk KX G ?a ?b ?c ?d; (case a => k_is); (case b => k_is); (case c => k_is); (case d => k_is)
    case d_law_draw => refine' K23.df_mk KX G ?a ?b ?c ?d; (case a => k_is); (case b => k_is); (case c => k_is); (case d => k_is)
    case d_law_pick => refine' K23.df_mk KX G ?a ?b ?c ?d; (case a => k_is); (case b => k_is); (case c => k_is); (case d => k_is)
    case d_law_mixed => refine' K23.df_mk KX G ?a ?b ?c ?d; (case a => k_is); (case b => k_is); (case c => k_is); (case d => k_is)
    case d_law_buttons => refine' K23.df_mk KX G ?a ?b ?c ?d; (case a => k_is); (case b => k_is); (case c => k_is); (case d => k_is)
    case d_law_tree => refine' K23.df_mk KX G ?a ?b ?c ?d; (case a => k_is); (case b => k_is); (case c => k_is); (case d => k_is)
    case d_law_held => refine' K23.df_mk KX G ?a ?b ?c ?d; (case a => k_is); (case b => k_is); (case c => k_is); (case d => k_is)
    case d_law_every => refine' K23.df_mk KX G ?a ?b ?c ?d; (case a => k_is); (case b => k_is); (case c => k_is); (case d => k_is)
    case d_law_words => refine' K23.df_mk KX G ?a ?b ?c ?d; (case a => k_is); (case b => k_is); (case c => k_is); (case d => k_is)
    case d_law_powers => refine' K23.df_mk KX G ?a ?b ?c ?d; (case a => k_is); (case b => k_is); (case c => k_is); (case d => k_is)
    case d_law_goes => refine' K23.df_mk KX G ?a ?b ?c ?d; (case a => k_is); (case b => k_is); (case c => k_is); (case d => k_is)
    case d_law_is_no_worse => refine' K23.df_mk KX G ?a ?b ?c ?d; (case a => k_is); (case b => k_is); (case c => k_is); (case d => k_is)
    case d_law_table => refine' K23.df_mk KX G ?a ?b ?c ?d; (case a => k_is); (case b => k_is); (case c => k_is); (case d => k_is)
    case d_law_reduced => refine' K23.df_mk KX G ?a ?b ?c ?d; (case a => k_is); (case b => k_is); (case c => k_is); (case d => k_is)
    case d_law_no_worse_by_parts => refine' K23.df_mk KX G ?a ?b ?c ?d; (case a => k_is); (case b => k_is); (case c => k_is); (case d => k_is)
    case d_law_strange => refine' K23.df_mk KX G ?a ?b ?c ?d; (case a => k_is); (case b => k_is); (case c => k_is); (case d => k_is)
    case d_law_told => refine' K23.df_mk KX G ?a ?b ?c ?d; (case a => k_is); (case b => k_is); (case c => k_is); (case d => k_is)
    case d_law_shows => refine' K23.df_mk KX G ?a ?b ?c ?d; (case a => k_is); (case b => k_is); (case c => k_is); (case d => k_is)
    case d_law_is_right => refine' K23.df_mk KX G ?a ?b ?c ?d; (case a => k_is); (case b => k_is); (case c => k_is); (case d => k_is)
    case d_law_long => refine' K23.df_mk KX G ?a ?b ?c ?d; (case a => k_is); (case b => k_is); (case c => k_is); (case d => k_is)
    case d_law => refine' K23.df_mk KX G ?a ?b ?c ?d; (case a => k_is); (case b => k_is); (case c => k_is); (case d => k_is)
    case n_isinstance => k_is
    case n_tuple => k_is
    case n_sorted => k_is
    case n_len => k_is
    case n_int => k_is
    case n_bool => k_is
    case n_range => k_is
    case n_list => k_is
    case n_enumerate => k_is
    case n_zip => k_is
    case n_abs => k_is
    case n_min => k_is
    case n_max => k_is
    case n_repr => k_is
    case n_str => k_is
    case zNb =>
      refine' K23.nb_mk KX G ?aC ?aD ?xL ?hv ?sa ?eC ?tC ?kC ?a1 ?t1 ?l1 ?c1 ?kI ?rd ?gt ?vV ?g1 ?g2 ?hd ?nG ?iC ?sC
      case aC => k_is
      case aD => k_is
      case xL => k_is
      case hv => decide +kernel
      case sa => k_is
      case eC => k_is
      case tC => k_is
      case kC => k_is
      case a1 => k_is
      case t1 => k_is
      case l1 => k_is
      case c1 => k_is
      case kI => k_is
      case rd => k_is
      case gt => k_is
      case vV => k_is
      case g1 => k_is
      case g2 => k_is
      case hd => k_is
      case nG => k_is
      case iC => k_is
      case sC => first | rfl | k_is
