import PyProof.Rows.All
import Wide.All
import OpenK.AllK
import Wide.FinOn
import HandS.ForMost
import HandS.ForExc
import HandS.IsInst
import HandS.Wide
import HandS.Flow
import HandS.SortKw
import HandS.More
import HandS.TryMany
import HandS.CallSlots
import HandS.TryOnly
import HandS.ExcIs
import PyProof.NeKinds
import HandS.SortInts
import HandS.StrMore
import HandS.Conv
import HandS.Defaults
import PySem.Challenge.RW_cabinet_k74_shown
import HandS.HeadEnd
import HandS.Head2
import HandS.HeadHook4
section
set_option Elab.async false
set_option maxRecDepth 100000
set_option linter.all false
/-! The value layer, 1: data trees, what represents them, ownership. -/
namespace VL
open PySem PySem.Spec PyProof.Rows L2

/-- data: what a value is, with all in it -/
inductive D where
  | non | bl (b : Bool) | int (i : Int) | str (s : Str)
  | lst (xs : List D) | tup (xs : List D) | dct (kvs : List (Key × D))
  | scr (ns : List Int)

def D.atom : D → Bool
  | .lst _ => false
  | .tup _ => false
  | .dct _ => false
  | .scr _ => false
  | _ => true

/-- shared, a fresh root, a fresh tree -/
inductive Fl where
  | S | R | T
  deriving DecidableEq
abbrev FD := Fl × D

theorem same_seqT {K : PySem.W.Frag} {H H' : Hp} {a : Addr} {xs : List V} (e : Same H H') (h : SqT K H a xs) : SqT K H' a xs := by
  rcases h with (h | ⟨o, h⟩) | h
  · exact .inl (.inl (e _ _ h))
  · exact .inl (.inr ⟨o, e _ _ h⟩)
  · exact .inr h
theorem same_rd {H H' : Hp} {a : Addr} {u : HO} (e : Same H H') (h : Rd H a u) : Rd H' a u := by
  rcases h with h | ⟨o, h⟩
  · exact .inl (e _ _ h)
  · exact .inr ⟨o, e _ _ h⟩

/-- what is read stays to be read -/
structure Kp (H H' : Hp) : Prop where
  l : ∀ b xs, H b = some (.lst xs) → H' b = some (.lst xs)
  q : ∀ b xs, Rd H b (.lst xs) → Rd H' b (.lst xs)
  t : ∀ b xs, Rd H b (.tup xs) → Rd H' b (.tup xs)
  k : ∀ b xs, Rd H b (.dK xs) → Rd H' b (.dK xs)
theorem _root_.L2.Same.kp {H H' : Hp} (h : Same H H') : Kp H H' := ⟨fun b xs e => h b _ e, fun b u e => same_rd h e, fun b u e => same_rd h e, fun b u e => same_rd h e⟩
theorem Kp.seq {K : PySem.W.Frag} {H H' : Hp} {a : Addr} {xs : List V} (e : Kp H H') (h : SqL K H a xs) : SqL K H' a xs := by
  rcases h with h | h
  · exact .inl (e.q _ _ h)
  · exact .inr h
theorem Kp.seqT {K : PySem.W.Frag} {H H' : Hp} {a : Addr} {xs : List V} (e : Kp H H') (h : SqT K H a xs) : SqT K H' a xs := by
  rcases h with h | h
  · exact .inl (e.t _ _ h)
  · exact .inr h
mutual
/-- the value v is the data d, read in H -/
def Rep (K : PySem.W.Frag) (H : Hp) : D → V → Prop
  | .non, v => v = .non
  | .bl b, v => v = .bl b
  | .int i, v => v = .int i
  | .str s, v => v = .str s
  | .lst ds, v => ∃ a vs, v = .ref a ∧ H a = some (.lst vs) ∧ ds.length ≤ sizeLine ∧ Reps K H ds vs
  | .tup ds, v => ∃ a vs, v = .ref a ∧ SqT K H a vs ∧ ds.length ≤ sizeLine ∧ Reps K H ds vs
  | .dct kds, v => ∃ a kvs, v = .ref a ∧ Rd H a (.dK kvs) ∧ (kds.length ≤ sizeLine ∧ (kds.map (·.1)).Nodup) ∧ RepK K H kds kvs
  | .scr ns, v => ∃ a, v = .ref a ∧ SqL K H a (ns.map V.int)
def Reps (K : PySem.W.Frag) (H : Hp) : List D → List V → Prop
  | [], vs => vs = []
  | d :: ds, vs => ∃ v r, vs = v :: r ∧ Rep K H d v ∧ Reps K H ds r
def RepK (K : PySem.W.Frag) (H : Hp) : List (Key × D) → List (Key × V) → Prop
  | [], vs => vs = []
  | (k, d) :: ds, vs => ∃ v r, vs = (k, v) :: r ∧ Rep K H d v ∧ RepK K H ds r
end
mutual
theorem Rep.monoK {K : PySem.W.Frag} {H H' : Hp} (h : Kp H H') : ∀ (d : D) (v : V), Rep K H d v → Rep K H' d v
  | .non, _, r => r
  | .bl _, _, r => r
  | .int _, _, r => r
  | .str _, _, r => r
  | .lst ds, v, ⟨a, vs, e, s, z, q⟩ => ⟨a, vs, e, h.l _ _ s, z, Reps.monoK h ds vs q⟩
  | .tup ds, v, ⟨a, vs, e, s, z, q⟩ => ⟨a, vs, e, h.seqT s, z, Reps.monoK h ds vs q⟩
  | .dct kds, v, ⟨a, vs, e, s, z, q⟩ => ⟨a, vs, e, h.k _ _ s, z, RepK.monoK h kds vs q⟩
  | .scr ns, v, ⟨a, e, s⟩ => ⟨a, e, h.seq s⟩
theorem Reps.monoK {K : PySem.W.Frag} {H H' : Hp} (h : Kp H H') : ∀ (d : List D) (v : List V), Reps K H d v → Reps K H' d v
  | [], _, r => r
  | d :: ds, _, ⟨v, t, e, s, q⟩ => ⟨v, t, e, Rep.monoK h d v s, Reps.monoK h ds t q⟩
theorem RepK.monoK {K : PySem.W.Frag} {H H' : Hp} (h : Kp H H') : ∀ (d : List (Key × D)) (v : List (Key × V)), RepK K H d v → RepK K H' d v
  | [], _, r => r
  | (_, d) :: ds, _, ⟨v, t, e, s, q⟩ => ⟨v, t, e, Rep.monoK h d v s, RepK.monoK h ds t q⟩
end
theorem Rep.mono {K : PySem.W.Frag} {H H' : Hp} (h : Same H H') (d : D) (v : V) (r : Rep K H d v) : Rep K H' d v := Rep.monoK h.kp d v r
theorem Reps.mono {K : PySem.W.Frag} {H H' : Hp} (h : Same H H') (d : List D) (v : List V) (r : Reps K H d v) : Reps K H' d v := Reps.monoK h.kp d v r
theorem RepK.mono {K : PySem.W.Frag} {H H' : Hp} (h : Same H H') (d : List (Key × D)) (v : List (Key × V)) (r : RepK K H d v) : RepK K H' d v := RepK.monoK h.kp d v r
theorem Reps.length {K : PySem.W.Frag} {H : Hp} : ∀ {ds : List D} {vs : List V}, Reps K H ds vs → ds.length = vs.length
  | [], _, r => by cases r; rfl
  | d :: ds, _, ⟨v, t, e, s, q⟩ => by subst e; simp [Reps.length q]
theorem Reps.get {K : PySem.W.Frag} {H : Hp} : ∀ {ds : List D} {vs : List V} {i : Nat} {d : D}, Reps K H ds vs → ds[i]? = some d → ∃ v, vs[i]? = some v ∧ Rep K H d v
  | [], _, _, _, _, e => by simp at e
  | d :: ds, _, 0, d', ⟨v, t, e, s, q⟩, e' => by subst e; simp at e'; subst e'; exact ⟨v, rfl, s⟩
  | d :: ds, _, i + 1, d', ⟨v, t, e, s, q⟩, e' => by
    subst e
    obtain ⟨u, h1, h2⟩ := Reps.get (i := i) (d := d') q (by simpa using e')
    exact ⟨u, by simpa using h1, h2⟩
theorem Reps.getV {K : PySem.W.Frag} {H : Hp} : ∀ {ds : List D} {vs : List V} {i : Nat} {v : V}, Reps K H ds vs → vs[i]? = some v → ∃ d, ds[i]? = some d ∧ Rep K H d v
  | [], _, _, _, r, e => by cases r; simp at e
  | d :: ds, _, 0, v', ⟨v, t, e, s, q⟩, e' => by subst e; simp at e'; subst e'; exact ⟨d, rfl, s⟩
  | d :: ds, _, i + 1, v', ⟨v, t, e, s, q⟩, e' => by
    subst e
    obtain ⟨u, h1, h2⟩ := Reps.getV (i := i) (v := v') q (by simpa using e')
    exact ⟨u, by simpa using h1, h2⟩
theorem Reps.append {K : PySem.W.Frag} {H : Hp} : ∀ {ds es : List D} {vs ws : List V}, Reps K H ds vs → Reps K H es ws → Reps K H (ds ++ es) (vs ++ ws)
  | [], _, _, _, r, q => by cases r; exact q
  | d :: ds, _, _, _, ⟨v, t, e, s, q⟩, q' => by subst e; exact ⟨v, _, rfl, s, Reps.append q q'⟩
theorem Reps.take {K : PySem.W.Frag} {H : Hp} : ∀ (n : Nat) {ds : List D} {vs : List V}, Reps K H ds vs → Reps K H (ds.take n) (vs.take n)
  | 0, _, _, _ => rfl
  | _ + 1, [], _, r => by cases r; rfl
  | n + 1, d :: ds, _, ⟨v, t, e, s, q⟩ => by subst e; exact ⟨v, _, rfl, s, Reps.take n q⟩
theorem Reps.drop {K : PySem.W.Frag} {H : Hp} : ∀ (n : Nat) {ds : List D} {vs : List V}, Reps K H ds vs → Reps K H (ds.drop n) (vs.drop n)
  | 0, _, _, r => r
  | _ + 1, [], _, r => by cases r; rfl
  | n + 1, d :: ds, _, ⟨v, t, e, s, q⟩ => by subst e; exact Reps.drop n q
theorem Reps.rev {K : PySem.W.Frag} {H : Hp} : ∀ {ds : List D} {vs : List V}, Reps K H ds vs → Reps K H ds.reverse vs.reverse
  | [], _, r => by cases r; rfl
  | d :: ds, _, ⟨v, t, e, s, q⟩ => by
    subst e
    rw [List.reverse_cons, List.reverse_cons]
    exact Reps.append (Reps.rev q) ⟨v, [], rfl, s, rfl⟩
theorem Reps.snoc {K : PySem.W.Frag} {H : Hp} {ds : List D} {vs : List V} {d : D} {v : V} (q : Reps K H ds vs) (r : Rep K H d v) : Reps K H (ds ++ [d]) (vs ++ [v]) :=
  Reps.append q ⟨v, [], rfl, r, rfl⟩
theorem Reps.set {K : PySem.W.Frag} {H : Hp} {d : D} {v : V} (r : Rep K H d v) : ∀ (i : Nat) {ds : List D} {vs : List V}, Reps K H ds vs → Reps K H (ds.set i d) (vs.set i v)
  | _, [], _, q => by cases q; rfl
  | 0, _ :: ds, _, ⟨_, t, e, _, q⟩ => by subst e; exact ⟨v, t, rfl, r, q⟩
  | i + 1, _ :: ds, _, ⟨w, t, e, s, q⟩ => by subst e; exact ⟨w, _, rfl, s, Reps.set r i q⟩

/-! dict data -/
def look (kds : List (Key × D)) (k : Key) : Option D := (kds.find? fun kv => decide (kv.1 = k)).map (·.2)
def putD (kds : List (Key × D)) (k : Key) (d : D) : List (Key × D) :=
  if (kds.any fun kv => decide (kv.1 = k)) = true then kds.map (fun kv => if kv.1 = k then (kv.1, d) else kv) else kds ++ [(k, d)]
def dropD (kds : List (Key × D)) (k : Key) : List (Key × D) := kds.filter fun kv => decide (kv.1 ≠ k)
theorem RepK.keys {K : PySem.W.Frag} {H : Hp} : ∀ {ds : List (Key × D)} {vs : List (Key × V)}, RepK K H ds vs → ds.map (·.1) = vs.map (·.1)
  | [], _, r => by cases r; rfl
  | (k, d) :: ds, _, ⟨v, t, e, s, q⟩ => by subst e; simp [RepK.keys q]
theorem RepK.length {K : PySem.W.Frag} {H : Hp} {ds : List (Key × D)} {vs : List (Key × V)} (r : RepK K H ds vs) : ds.length = vs.length := by
  have := congrArg List.length r.keys
  simpa using this
theorem RepK.look {K : PySem.W.Frag} {H : Hp} (k : Key) : ∀ {ds : List (Key × D)} {vs : List (Key × V)}, RepK K H ds vs →
    (look ds k = none ∧ valV vs k = none) ∨ ∃ d v, look ds k = some d ∧ valV vs k = some v ∧ Rep K H d v
  | [], _, r => by cases r; exact .inl ⟨rfl, rfl⟩
  | (j, d) :: ds, _, ⟨v, t, e, s, q⟩ => by
    subst e
    by_cases h : j = k
    · exact .inr ⟨d, v, by simp [VL.look, List.find?_cons, h], by simp [valV, List.find?_cons, h], s⟩
    · have e1 : VL.look ((j, d) :: ds) k = VL.look ds k := by simp [VL.look, List.find?_cons, h]
      have e2 : valV ((j, v) :: t) k = valV t k := by simp [valV, List.find?_cons, h]
      rw [e1, e2]
      exact RepK.look k q
theorem RepK.any {K : PySem.W.Frag} {H : Hp} (k : Key) : ∀ {ds : List (Key × D)} {vs : List (Key × V)}, RepK K H ds vs → (ds.any fun kv => decide (kv.1 = k)) = (vs.any fun kv => decide (kv.1 = k))
  | [], _, r => by cases r; rfl
  | (j, d) :: ds, _, ⟨v, t, e, s, q⟩ => by subst e; simp only [List.any_cons, RepK.any k q]
theorem RepK.snoc {K : PySem.W.Frag} {H : Hp} {k : Key} {d : D} {v : V} (s : Rep K H d v) : ∀ {ds : List (Key × D)} {vs : List (Key × V)}, RepK K H ds vs → RepK K H (ds ++ [(k, d)]) (vs ++ [(k, v)])
  | [], _, r => by cases r; exact ⟨v, [], rfl, s, rfl⟩
  | (j, d') :: ds, _, ⟨w, t, e, s', q⟩ => by subst e; exact ⟨w, _, rfl, s', RepK.snoc s q⟩
theorem RepK.repl {K : PySem.W.Frag} {H : Hp} {k : Key} {d : D} {v : V} (s : Rep K H d v) : ∀ {ds : List (Key × D)} {vs : List (Key × V)}, RepK K H ds vs →
    RepK K H (ds.map fun kv => if kv.1 = k then (kv.1, d) else kv) (vs.map fun kv => if kv.1 = k then (kv.1, v) else kv)
  | [], _, r => by cases r; rfl
  | (j, d') :: ds, _, ⟨w, t, e, s', q⟩ => by
    subst e
    simp only [List.map_cons]
    by_cases h : j = k
    · rw [if_pos h, if_pos h]; exact ⟨v, _, rfl, s, RepK.repl s q⟩
    · rw [if_neg h, if_neg h]; exact ⟨w, _, rfl, s', RepK.repl s q⟩
theorem RepK.put {K : PySem.W.Frag} {H : Hp} {ds : List (Key × D)} {vs : List (Key × V)} {k : Key} {d : D} {v : V} (q : RepK K H ds vs) (s : Rep K H d v) : RepK K H (putD ds k d) (putK vs k v) := by
  unfold putD putK
  rw [q.any k]
  split
  · exact q.repl s
  · exact q.snoc s
theorem RepK.drop {K : PySem.W.Frag} {H : Hp} (k : Key) : ∀ {ds : List (Key × D)} {vs : List (Key × V)}, RepK K H ds vs → RepK K H (dropD ds k) (dropK vs k)
  | [], _, r => by cases r; rfl
  | (j, d') :: ds, _, ⟨w, t, e, s', q⟩ => by
    subst e
    have ih := RepK.drop k q
    unfold dropD dropK at ih ⊢
    by_cases h : j = k
    · simp only [List.filter_cons, h, ne_eq, not_true_eq_false, decide_false, Bool.false_eq_true, if_false]; exact ih
    · simp only [List.filter_cons, ne_eq, h, not_false_eq_true, decide_true, if_true]; exact ⟨w, _, rfl, s', ih⟩
theorem RepK.vals {K : PySem.W.Frag} {H : Hp} : ∀ {ds : List (Key × D)} {vs : List (Key × V)}, RepK K H ds vs → Reps K H (ds.map (·.2)) (vs.map (·.2))
  | [], _, r => by cases r; rfl
  | (_, d) :: ds, _, ⟨v, t, e, s, q⟩ => by subst e; exact ⟨v, _, rfl, s, RepK.vals q⟩

/-! ### trees that are owned -/
mutual
/-- v is d, its objects are F, each in H, nothing of it anywhere else -/
def Tree (H : Hp) : D → V → List Addr → Prop
  | .non, v, F => v = .non ∧ F = []
  | .bl b, v, F => v = .bl b ∧ F = []
  | .int i, v, F => v = .int i ∧ F = []
  | .str s, v, F => v = .str s ∧ F = []
  | .lst ds, v, F => ∃ a vs G, v = .ref a ∧ F = a :: G ∧ H a = some (.lst vs) ∧ ds.length ≤ sizeLine ∧ Trees H ds vs G
  | .tup ds, v, F => ∃ a vs G, v = .ref a ∧ F = a :: G ∧ H a = some (.tup vs) ∧ ds.length ≤ sizeLine ∧ Trees H ds vs G
  | .dct ds, v, F => ∃ a vs G, v = .ref a ∧ F = a :: G ∧ H a = some (.dK vs) ∧ (ds.length ≤ sizeLine ∧ (ds.map (·.1)).Nodup) ∧ TreeK H ds vs G
  | .scr _, _, _ => False
def Trees (H : Hp) : List D → List V → List Addr → Prop
  | [], vs, F => vs = [] ∧ F = []
  | d :: ds, vs, F => ∃ v r G1 G2, vs = v :: r ∧ F = G1 ++ G2 ∧ Tree H d v G1 ∧ Trees H ds r G2
def TreeK (H : Hp) : List (Key × D) → List (Key × V) → List Addr → Prop
  | [], vs, F => vs = [] ∧ F = []
  | (k, d) :: ds, vs, F => ∃ v r G1 G2, vs = (k, v) :: r ∧ F = G1 ++ G2 ∧ Tree H d v G1 ∧ TreeK H ds r G2
end
mutual
theorem Tree.agree {H H' : Hp} : ∀ (d : D) (v : V) (F : List Addr), (∀ p ∈ F, ∀ o, H p = some o → H' p = some o) → Tree H d v F → Tree H' d v F
  | .non, _, _, _, r => r
  | .bl _, _, _, _, r => r
  | .int _, _, _, _, r => r
  | .str _, _, _, _, r => r
  | .lst ds, v, _, h, ⟨a, vs, G, e, f, q, z, t⟩ => by subst f; exact ⟨a, vs, G, e, rfl, h a List.mem_cons_self _ q, z, Trees.agree ds vs G (fun p hp => h p (List.mem_cons_of_mem _ hp)) t⟩
  | .tup ds, v, _, h, ⟨a, vs, G, e, f, q, z, t⟩ => by subst f; exact ⟨a, vs, G, e, rfl, h a List.mem_cons_self _ q, z, Trees.agree ds vs G (fun p hp => h p (List.mem_cons_of_mem _ hp)) t⟩
  | .dct ds, v, _, h, ⟨a, vs, G, e, f, q, z, t⟩ => by subst f; exact ⟨a, vs, G, e, rfl, h a List.mem_cons_self _ q, z, TreeK.agree ds vs G (fun p hp => h p (List.mem_cons_of_mem _ hp)) t⟩
theorem Trees.agree {H H' : Hp} : ∀ (d : List D) (v : List V) (F : List Addr), (∀ p ∈ F, ∀ o, H p = some o → H' p = some o) → Trees H d v F → Trees H' d v F
  | [], _, _, _, r => r
  | d :: ds, _, _, h, ⟨v, t, G1, G2, e, f, s, q⟩ => by
    subst f
    exact ⟨v, t, G1, G2, e, rfl, Tree.agree d v G1 (fun p hp => h p (List.mem_append_left _ hp)) s, Trees.agree ds t G2 (fun p hp => h p (List.mem_append_right _ hp)) q⟩
theorem TreeK.agree {H H' : Hp} : ∀ (d : List (Key × D)) (v : List (Key × V)) (F : List Addr), (∀ p ∈ F, ∀ o, H p = some o → H' p = some o) → TreeK H d v F → TreeK H' d v F
  | [], _, _, _, r => r
  | (_, d) :: ds, _, _, h, ⟨v, t, G1, G2, e, f, s, q⟩ => by
    subst f
    exact ⟨v, t, G1, G2, e, rfl, Tree.agree d v G1 (fun p hp => h p (List.mem_append_left _ hp)) s, TreeK.agree ds t G2 (fun p hp => h p (List.mem_append_right _ hp)) q⟩
end
theorem Tree.same {H H' : Hp} {d : D} {v : V} {F : List Addr} (h : Same H H') (t : Tree H d v F) : Tree H' d v F := t.agree _ _ _ fun p _ o e => h p o e
theorem Trees.same {H H' : Hp} {d : List D} {v : List V} {F : List Addr} (h : Same H H') (t : Trees H d v F) : Trees H' d v F := t.agree _ _ _ fun p _ o e => h p o e
theorem TreeK.same {H H' : Hp} {d : List (Key × D)} {v : List (Key × V)} {F : List Addr} (h : Same H H') (t : TreeK H d v F) : TreeK H' d v F := t.agree _ _ _ fun p _ o e => h p o e
mutual
theorem Tree.there {H : Hp} : ∀ (d : D) (v : V) (F : List Addr), Tree H d v F → ∀ p ∈ F, H p ≠ none
  | .non, _, _, r => by obtain ⟨_, rfl⟩ := r; simp
  | .bl _, _, _, r => by obtain ⟨_, rfl⟩ := r; simp
  | .int _, _, _, r => by obtain ⟨_, rfl⟩ := r; simp
  | .str _, _, _, r => by obtain ⟨_, rfl⟩ := r; simp
  | .lst ds, v, _, ⟨a, vs, G, e, f, q, z, t⟩ => by
    subst f; intro p hp
    rcases List.mem_cons.mp hp with rfl | hp
    · rw [q]; simp
    · exact Trees.there ds vs G t p hp
  | .tup ds, v, _, ⟨a, vs, G, e, f, q, z, t⟩ => by
    subst f; intro p hp
    rcases List.mem_cons.mp hp with rfl | hp
    · rw [q]; simp
    · exact Trees.there ds vs G t p hp
  | .dct ds, v, _, ⟨a, vs, G, e, f, q, z, t⟩ => by
    subst f; intro p hp
    rcases List.mem_cons.mp hp with rfl | hp
    · rw [q]; simp
    · exact TreeK.there ds vs G t p hp
theorem Trees.there {H : Hp} : ∀ (d : List D) (v : List V) (F : List Addr), Trees H d v F → ∀ p ∈ F, H p ≠ none
  | [], _, _, r => by obtain ⟨_, rfl⟩ := r; simp
  | d :: ds, _, _, ⟨v, t, G1, G2, e, f, s, q⟩ => by
    subst f; intro p hp
    rcases List.mem_append.mp hp with hp | hp
    · exact Tree.there d v G1 s p hp
    · exact Trees.there ds t G2 q p hp
theorem TreeK.there {H : Hp} : ∀ (d : List (Key × D)) (v : List (Key × V)) (F : List Addr), TreeK H d v F → ∀ p ∈ F, H p ≠ none
  | [], _, _, r => by obtain ⟨_, rfl⟩ := r; simp
  | (_, d) :: ds, _, _, ⟨v, t, G1, G2, e, f, s, q⟩ => by
    subst f; intro p hp
    rcases List.mem_append.mp hp with hp | hp
    · exact Tree.there d v G1 s p hp
    · exact TreeK.there ds t G2 q p hp
end
mutual
theorem Tree.rep {K : PySem.W.Frag} {H H0 : Hp} : ∀ (d : D) (v : V) (F : List Addr), (∀ p ∈ F, ∀ o, H p = some o → H0 p = some o) → Tree H d v F → Rep K H0 d v
  | .non, _, _, _, r => r.1
  | .bl _, _, _, _, r => r.1
  | .int _, _, _, _, r => r.1
  | .str _, _, _, _, r => r.1
  | .lst ds, v, _, h, ⟨a, vs, G, e, f, q, z, t⟩ => by subst f; exact ⟨a, vs, e, h a List.mem_cons_self _ q, z, Trees.rep ds vs G (fun p hp => h p (List.mem_cons_of_mem _ hp)) t⟩
  | .tup ds, v, _, h, ⟨a, vs, G, e, f, q, z, t⟩ => by subst f; exact ⟨a, vs, e, SqT.of (h a List.mem_cons_self _ q), z, Trees.rep ds vs G (fun p hp => h p (List.mem_cons_of_mem _ hp)) t⟩
  | .dct ds, v, _, h, ⟨a, vs, G, e, f, q, z, t⟩ => by subst f; exact ⟨a, vs, e, Rd.of (h a List.mem_cons_self _ q), z, TreeK.rep ds vs G (fun p hp => h p (List.mem_cons_of_mem _ hp)) t⟩
theorem Trees.rep {K : PySem.W.Frag} {H H0 : Hp} : ∀ (d : List D) (v : List V) (F : List Addr), (∀ p ∈ F, ∀ o, H p = some o → H0 p = some o) → Trees H d v F → Reps K H0 d v
  | [], _, _, _, r => r.1
  | d :: ds, _, _, h, ⟨v, t, G1, G2, e, f, s, q⟩ => by
    subst f
    exact ⟨v, t, e, Tree.rep d v G1 (fun p hp => h p (List.mem_append_left _ hp)) s, Trees.rep ds t G2 (fun p hp => h p (List.mem_append_right _ hp)) q⟩
theorem TreeK.rep {K : PySem.W.Frag} {H H0 : Hp} : ∀ (d : List (Key × D)) (v : List (Key × V)) (F : List Addr), (∀ p ∈ F, ∀ o, H p = some o → H0 p = some o) → TreeK H d v F → RepK K H0 d v
  | [], _, _, _, r => r.1
  | (_, d) :: ds, _, _, h, ⟨v, t, G1, G2, e, f, s, q⟩ => by
    subst f
    exact ⟨v, t, e, Tree.rep d v G1 (fun p hp => h p (List.mem_append_left _ hp)) s, TreeK.rep ds t G2 (fun p hp => h p (List.mem_append_right _ hp)) q⟩
end
theorem Trees.length {H : Hp} : ∀ {ds : List D} {vs : List V} {F : List Addr}, Trees H ds vs F → ds.length = vs.length
  | [], _, _, r => by obtain ⟨rfl, _⟩ := r; rfl
  | d :: ds, _, _, ⟨v, t, G1, G2, e, f, s, q⟩ => by subst e; simp [Trees.length q]
theorem Trees.snoc {H : Hp} : ∀ {ds : List D} {vs : List V} {F G : List Addr} {d : D} {v : V}, Trees H ds vs F → Tree H d v G → Trees H (ds ++ [d]) (vs ++ [v]) (F ++ G)
  | [], _, _, G, d, v, r, t => by
    obtain ⟨rfl, rfl⟩ := r
    exact ⟨v, [], G, [], rfl, by simp, t, rfl, rfl⟩
  | x :: ds, _, _, G, d, v, ⟨w, r, G1, G2, e, f, s, q⟩, t => by
    subst e; subst f
    exact ⟨w, _, G1, G2 ++ G, rfl, by simp, s, Trees.snoc q t⟩

theorem putD_keys (kds : List (Key × D)) (k : Key) (d : D) : (putD kds k d).map (·.1) = if (kds.any fun kv => decide (kv.1 = k)) = true then kds.map (·.1) else kds.map (·.1) ++ [k] := by
  unfold putD
  split
  · rw [List.map_map]
    apply List.map_congr_left
    intro p hp
    show (if p.1 = k then (p.1, d) else p).1 = p.1
    split <;> rfl
  · rw [List.map_append]; rfl
theorem putD_nodup {kds : List (Key × D)} (k : Key) (d : D) (h : (kds.map (·.1)).Nodup) : ((putD kds k d).map (·.1)).Nodup := by
  rw [putD_keys]
  split
  · exact h
  · rename_i hn
    refine List.nodup_append.mpr ⟨h, by simp, fun a ha b hb hab => hn ?_⟩
    rw [List.mem_singleton.mp hb] at hab
    subst hab
    obtain ⟨p, hp, e⟩ := List.mem_map.mp ha
    exact List.any_eq_true.mpr ⟨p, hp, by simpa using e⟩
theorem putD_length (kds : List (Key × D)) (k : Key) (d : D) : (putD kds k d).length ≤ kds.length + 1 := by
  unfold putD
  split
  · rw [List.length_map]; omega
  · rw [List.length_append]; simp
theorem TreeK.keys {H : Hp} : ∀ {ds : List (Key × D)} {vs : List (Key × V)} {F : List Addr}, TreeK H ds vs F → ds.map (·.1) = vs.map (·.1)
  | [], _, _, r => by obtain ⟨rfl, _⟩ := r; rfl
  | (k, d) :: ds, _, _, ⟨v, t, G1, G2, e, f, s, q⟩ => by subst e; simp [TreeK.keys q]
theorem TreeK.snoc {H : Hp} {k : Key} {d : D} {v : V} {G : List Addr} (s : Tree H d v G) : ∀ {ds : List (Key × D)} {vs : List (Key × V)} {F : List Addr}, TreeK H ds vs F → TreeK H (ds ++ [(k, d)]) (vs ++ [(k, v)]) (F ++ G)
  | [], _, _, r => by obtain ⟨rfl, rfl⟩ := r; exact ⟨v, [], G, [], rfl, by simp, s, rfl, rfl⟩
  | (j, d') :: ds, _, _, ⟨w, t, G1, G2, e, f, s', q⟩ => by subst e; subst f; exact ⟨w, _, G1, G2 ++ G, rfl, by simp, s', TreeK.snoc s q⟩
/-- no entry by that name: nothing is replaced -/
theorem repl_none {α : Type} {k : Key} {d : α} : ∀ {ds : List (Key × α)}, k ∉ ds.map (·.1) → ds.map (fun kv => if kv.1 = k then (kv.1, d) else kv) = ds
  | [], _ => rfl
  | (j, x) :: ds, h => by
    simp only [List.map_cons, List.mem_cons, not_or] at h
    rw [List.map_cons, if_neg (fun e => h.1 e.symm), repl_none h.2]
theorem TreeK.repl {H : Hp} {k : Key} {d : D} {v : V} {G : List Addr} (s : Tree H d v G) : ∀ {ds : List (Key × D)} {vs : List (Key × V)} {F : List Addr}, (ds.map (·.1)).Nodup → k ∈ ds.map (·.1) → (F ++ G).Nodup → TreeK H ds vs F →
    ∃ F', TreeK H (ds.map fun kv => if kv.1 = k then (kv.1, d) else kv) (vs.map fun kv => if kv.1 = k then (kv.1, v) else kv) F' ∧ F'.Nodup ∧ ∀ p ∈ F', p ∈ F ∨ p ∈ G
  | [], _, _, _, hk, _, _ => by simp at hk
  | (j, d') :: ds, _, _, nd, hk, nf, ⟨w, t, G1, G2, e, f, s', q⟩ => by
    subst e; subst f
    simp only [List.map_cons, List.nodup_cons] at nd
    by_cases h : j = k
    · subst h
      have nd2 : j ∉ t.map (·.1) := by rw [← q.keys]; exact nd.1
      refine ⟨G ++ G2, ?_, ?_, ?_⟩
      · rw [List.map_cons, List.map_cons, if_pos rfl, if_pos rfl, repl_none nd.1, repl_none nd2]
        exact ⟨v, t, G, G2, rfl, rfl, s, q⟩
      · rw [List.append_assoc] at nf
        have n2 := (List.nodup_append.mp nf).2.1
        obtain ⟨a, b, c⟩ := List.nodup_append.mp n2
        exact List.nodup_append.mpr ⟨b, a, fun x hx y hy e => c y hy x hx e.symm⟩
      · intro p hp
        rcases List.mem_append.mp hp with hp | hp
        · exact .inr hp
        · exact .inl (List.mem_append_right _ hp)
    · have hk' : k ∈ ds.map (·.1) := by
        rcases List.mem_cons.mp hk with e | hk
        · exact absurd e.symm h
        · exact hk
      rw [List.append_assoc] at nf
      obtain ⟨n1, n2, n3⟩ := List.nodup_append.mp nf
      obtain ⟨F', a, b, c⟩ := TreeK.repl s nd.2 hk' n2 q
      refine ⟨G1 ++ F', ?_, ?_, ?_⟩
      · rw [List.map_cons, List.map_cons, if_neg h, if_neg h]
        exact ⟨w, _, G1, F', rfl, rfl, s', a⟩
      · refine List.nodup_append.mpr ⟨n1, b, fun x hx y hy e => ?_⟩
        refine n3 x hx y ?_ e
        rcases c y hy with h | h
        · exact List.mem_append_left _ h
        · exact List.mem_append_right _ h
      · intro p hp
        rcases List.mem_append.mp hp with hp | hp
        · exact .inl (List.mem_append_left _ hp)
        · rcases c p hp with h | h
          · exact .inl (List.mem_append_right _ h)
          · exact .inr h
theorem any_key {α : Type} {ds : List (Key × α)} {k : Key} : (ds.any fun kv => decide (kv.1 = k)) = true ↔ k ∈ ds.map (·.1) := by
  rw [List.any_eq_true, List.mem_map]
  exact ⟨fun ⟨p, h, e⟩ => ⟨p, h, by simpa using e⟩, fun ⟨p, h, e⟩ => ⟨p, h, by simpa using e⟩⟩
theorem TreeK.put {H : Hp} {ds : List (Key × D)} {vs : List (Key × V)} {F G : List Addr} {k : Key} {d : D} {v : V} (q : TreeK H ds vs F) (s : Tree H d v G) (nd : (ds.map (·.1)).Nodup) (nf : (F ++ G).Nodup) :
    ∃ F', TreeK H (putD ds k d) (putK vs k v) F' ∧ F'.Nodup ∧ ∀ p ∈ F', p ∈ F ∨ p ∈ G := by
  unfold putD putK
  have e : (vs.any fun kv => decide (kv.1 = k)) = (ds.any fun kv => decide (kv.1 = k)) := by
    rw [Bool.eq_iff_iff, any_key, any_key, q.keys]
  rw [e]
  split
  · rename_i h
    exact TreeK.repl s nd (any_key.mp h) nf q
  · exact ⟨F ++ G, q.snoc s, nf, fun p hp => List.mem_append.mp hp⟩

/-! ### shapes -/
/-- H0 with what H has at F -/
def addF (H0 H : Hp) (F : List Addr) : Hp := fun p => if p ∈ F then H p else H0 p
theorem addF_in {H0 H : Hp} {F : List Addr} {p : Addr} (h : p ∈ F) : addF H0 H F p = H p := if_pos h
theorem addF_out {H0 H : Hp} {F : List Addr} {p : Addr} (h : p ∉ F) : addF H0 H F p = H0 p := if_neg h
theorem addF_nil {H0 H : Hp} : addF H0 H [] = H0 := by funext p; exact addF_out (by simp)
theorem addF_same0 {H0 H : Hp} {F : List Addr} (h : ∀ p ∈ F, H0 p = none) : Same H0 (addF H0 H F) := fun b o e => by
  rw [addF_out]
  · exact e
  · intro hb; rw [h b hb] at e; cases e
theorem addF_same {H0 H : Hp} {F : List Addr} (h : Same H0 H) : Same (addF H0 H F) H := fun b o e => by
  by_cases hb : b ∈ F
  · rw [addF_in hb] at e; exact e
  · rw [addF_out hb] at e; exact h b o e

/-- what stands at a fresh root -/
def Root (K : PySem.W.Frag) (H0 : Hp) : D → HO → Prop
  | .lst ds, o => ∃ vs, o = .lst vs ∧ ds.length ≤ sizeLine ∧ Reps K H0 ds vs
  | .tup ds, o => ∃ vs, o = .tup vs ∧ ds.length ≤ sizeLine ∧ Reps K H0 ds vs
  | .dct ds, o => ∃ vs, o = .dK vs ∧ (ds.length ≤ sizeLine ∧ (ds.map (·.1)).Nodup) ∧ RepK K H0 ds vs
  | _, _ => False
theorem Root.monoK {K : PySem.W.Frag} {H H' : Hp} (h : Kp H H') : ∀ {d : D} {o : HO}, Root K H d o → Root K H' d o
  | .lst _, _, ⟨vs, e, z, r⟩ => ⟨vs, e, z, Reps.monoK h _ _ r⟩
  | .tup _, _, ⟨vs, e, z, r⟩ => ⟨vs, e, z, Reps.monoK h _ _ r⟩
  | .dct _, _, ⟨vs, e, z, r⟩ => ⟨vs, e, z, RepK.monoK h _ _ r⟩
theorem Root.mono {K : PySem.W.Frag} {H H' : Hp} (h : Same H H') : ∀ {d : D} {o : HO}, Root K H d o → Root K H' d o
  | .lst _, _, ⟨vs, e, z, r⟩ => ⟨vs, e, z, Reps.mono h _ _ r⟩
  | .tup _, _, ⟨vs, e, z, r⟩ => ⟨vs, e, z, Reps.mono h _ _ r⟩
  | .dct _, _, ⟨vs, e, z, r⟩ => ⟨vs, e, z, RepK.mono h _ _ r⟩
/-- the root and what is in it, read -/
theorem Root.rep {K : PySem.W.Frag} {H0 : Hp} {a : Addr} : ∀ {d : D} {o : HO}, Root K H0 d o → H0 a = some o → Rep K H0 d (.ref a)
  | .lst _, _, ⟨vs, e, z, r⟩, h => by subst e; exact ⟨a, vs, rfl, h, z, r⟩
  | .tup _, _, ⟨vs, e, z, r⟩, h => by subst e; exact ⟨a, vs, rfl, SqT.of h, z, r⟩
  | .dct _, _, ⟨vs, e, z, r⟩, h => by subst e; exact ⟨a, vs, rfl, Rd.of h, z, r⟩

/-- the value v of a thing x: shared (read in H0), or a fresh root, or a fresh tree; its own objects F -/
def Sh (K : PySem.W.Frag) (H H0 : Hp) (x : FD) (v : V) (F : List Addr) : Prop :=
  match x.1 with
  | .S => F = [] ∧ Rep K H0 x.2 v
  | .R => ∃ a o, v = .ref a ∧ F = [a] ∧ H a = some o ∧ Root K H0 x.2 o
  | .T => Tree H x.2 v F
/-- fresh over H and H0 -/
def FrF (H H0 : Hp) (F : List Addr) : Prop := F.Nodup ∧ ∀ p ∈ F, H p = none ∧ H0 p = none
theorem FrF.nil {H H0 : Hp} : FrF H H0 [] := ⟨List.nodup_nil, by simp⟩
theorem Sh.there {K : PySem.W.Frag} {H H0 : Hp} {x : FD} {v : V} {F : List Addr} (s : Sh K H H0 x v F) : ∀ p ∈ F, H p ≠ none := by
  obtain ⟨fl, d⟩ := x
  cases fl with
  | S => obtain ⟨rfl, _⟩ := s; simp
  | R => obtain ⟨a, o, _, rfl, e, _⟩ := s; intro p hp; rw [List.mem_singleton.mp hp, e]; simp
  | T => exact Tree.there d v F s
theorem Sh.monoK {K : PySem.W.Frag} {H H0 H' H0' : Hp} {x : FD} {v : V} {F : List Addr} (s : Sh K H H0 x v F) (h0 : Kp H0 H0') (h : ∀ p ∈ F, ∀ o, H p = some o → H' p = some o) : Sh K H' H0' x v F := by
  obtain ⟨fl, d⟩ := x
  cases fl with
  | S => obtain ⟨e, r⟩ := s; exact ⟨e, Rep.monoK h0 d v r⟩
  | R => obtain ⟨a, o, e, f, q, r⟩ := s; subst f; exact ⟨a, o, e, rfl, h a (by simp) _ q, r.monoK h0⟩
  | T => exact Tree.agree d v F h s
theorem Sh.mono {K : PySem.W.Frag} {H H0 H' H0' : Hp} {x : FD} {v : V} {F : List Addr} (s : Sh K H H0 x v F) (h0 : Same H0 H0') (h : ∀ p ∈ F, ∀ o, H p = some o → H' p = some o) : Sh K H' H0' x v F := by
  obtain ⟨fl, d⟩ := x
  cases fl with
  | S => obtain ⟨e, r⟩ := s; exact ⟨e, Rep.mono h0 d v r⟩
  | R => obtain ⟨a, o, e, f, q, r⟩ := s; subst f; exact ⟨a, o, e, rfl, h a (by simp) _ q, r.mono h0⟩
  | T => exact Tree.agree d v F h s
/-- let go: its objects are shared from now on -/
theorem Sh.rep {K : PySem.W.Frag} {H H0 : Hp} {x : FD} {v : V} {F : List Addr} (s : Sh K H H0 x v F) (h0 : ∀ p ∈ F, H0 p = none) : Rep K (addF H0 H F) x.2 v := by
  obtain ⟨fl, d⟩ := x
  cases fl with
  | S => obtain ⟨rfl, r⟩ := s; rw [addF_nil]; exact r
  | R =>
    obtain ⟨a, o, rfl, rfl, q, r⟩ := s
    exact (r.mono (addF_same0 h0)).rep (by rw [addF_in (by simp)]; exact q)
  | T => exact Tree.rep d v F (fun p hp o e => by rw [addF_in hp]; exact e) s

/-- from (H0, H) on: nothing changed, what is shared anew is new -/
structure Ext (H0 H H0' H' : Hp) : Prop where
  s0 : Same H0 H0'
  s1 : Same H0' H'
  s : Same H H'
  new : ∀ p, H0 p = none → H0' p ≠ none → H p = none
theorem Ext.refl {H0 H : Hp} (h : Same H0 H) : Ext H0 H H0 H := ⟨Same.refl _, h, Same.refl _, fun p h1 h2 => absurd h1 h2⟩
theorem Ext.trans {H0 H A0 A B0 B : Hp} (x : Ext H0 H A0 A) (y : Ext A0 A B0 B) : Ext H0 H B0 B := ⟨x.s0.trans y.s0, y.s1, x.s.trans y.s, fun p h1 h2 => by
  by_cases h : A0 p = none
  · have := y.new p h h2
    exact x.s.free this
  · exact x.new p h1 h⟩

theorem FrF.ext {K : PySem.W.Frag} {H H01 H1 H02 H2 : Hp} {x : FD} {v : V} {F : List Addr} (f : FrF H H01 F) (s : Sh K H1 H01 x v F) (e : Ext H01 H1 H02 H2) : FrF H H02 F :=
  ⟨f.1, fun p hp => ⟨(f.2 p hp).1, by
    cases q : H02 p with
    | none => rfl
    | some o => exact absurd (e.new p (f.2 p hp).2 (by rw [q]; simp)) (s.there p hp)⟩⟩
theorem Sh.ext {K : PySem.W.Frag} {H1 H01 H2 H02 : Hp} {x : FD} {v : V} {F : List Addr} (s : Sh K H1 H01 x v F) (e : Ext H01 H1 H02 H2) : Sh K H2 H02 x v F := s.mono e.s0 fun p _ o h => e.s p o h
/-- let go -/
theorem Ext.letgo {K : PySem.W.Frag} {H0 H H1 H01 : Hp} {x : FD} {v : V} {F : List Addr} (e : Ext H0 H H01 H1) (s : Sh K H1 H01 x v F) (f : FrF H H01 F) : Ext H0 H (addF H01 H1 F) H1 ∧ Rep K (addF H01 H1 F) x.2 v :=
  ⟨⟨e.s0.trans (addF_same0 fun p hp => (f.2 p hp).2), addF_same e.s1, e.s, fun p h1 h2 => by
    by_cases hp : p ∈ F
    · exact (f.2 p hp).1
    · rw [addF_out hp] at h2; exact e.new p h1 h2⟩, s.rep fun p hp => (f.2 p hp).2⟩
/-- a new object is laid: shared -/
theorem Ext.lay {H0 H : Hp} (h : Same H0 H) {p : Addr} (hp : H p = none) (o : HO) : Ext H0 H (upd H0 p o) (upd H p o) :=
  ⟨fun b u e => by rw [upd_ne (fun z => by subst z; have := h _ _ e; rw [hp] at this; cases this)]; exact e,
   fun b u e => by
    by_cases hb : b = p
    · subst hb; rw [upd_same] at e ⊢; exact e
    · rw [upd_ne hb] at e ⊢; exact h b u e,
   fun b u e => by rw [upd_ne (ne_of_none e hp)]; exact e,
   fun b h1 h2 => by
    by_cases hb : b = p
    · subst hb; exact hp
    · rw [upd_ne hb] at h2; exact absurd h1 h2⟩
/-- a new object is laid: one's own -/
theorem Ext.lay0 {H0 H : Hp} (h : Same H0 H) {p : Addr} (hp : H p = none) (o : HO) : Ext H0 H H0 (upd H p o) :=
  ⟨Same.refl _, fun b u e => by rw [upd_ne (ne_of_none (h b u e) hp)]; exact h b u e, fun b u e => by rw [upd_ne (ne_of_none e hp)]; exact e, fun p h1 h2 => absurd h1 h2⟩
theorem same_none {H0 H : Hp} (h : Same H0 H) {p : Addr} (hp : H p = none) : H0 p = none := h.free hp

/-! ### results -/
inductive Res (α : Type) where
  | ok (a : α) | xc (c : Str) (fs : List (Str × D)) | bad
def Res.bind {α β : Type} (r : Res α) (f : α → Res β) : Res β := match r with
  | .ok a => f a
  | .xc c fs => .xc c fs
  | .bad => .bad
@[simp] theorem Res.bind_ok {α β : Type} (a : α) (f : α → Res β) : (Res.ok a).bind f = f a := rfl
@[simp] theorem Res.bind_xc {α β : Type} (c : Str) (fs : List (Str × D)) (f : α → Res β) : (Res.xc c fs : Res α).bind f = .xc c fs := rfl
@[simp] theorem Res.bind_bad {α β : Type} (f : α → Res β) : (Res.bad : Res α).bind f = .bad := rfl

/-- the fields of an exception -/
def RepF (K : PySem.W.Frag) (H0 : Hp) : List (Str × D) → List (Str × V) → Prop
  | [], vs => vs = []
  | (n, d) :: ds, vs => ∃ v r, vs = (n, v) :: r ∧ Rep K H0 d v ∧ RepF K H0 ds r
def XF (K : PySem.W.Frag) (H0 H : Hp) (d : Option Addr) (fs : List (Str × D)) : Prop := match fs with
  | [] => d = none
  | f :: fs => ∃ dx kvs, d = some dx ∧ H dx = some (.xd kvs) ∧ RepF K H0 (f :: fs) kvs

/-- the module's side: K, what its names hold -/
structure Md where
  K : PySem.W.Frag
  mg : Str → Option Value

/-- what is wanted of an outcome, from (H0, H) on at the slots σ -/
def Out {α : Type} (M : Md) (W : WX) (σ : L2.St) (H0 H : Hp) (r : Res α) (P : α → Prop) : Prop := match r with
  | .ok a => P a
  | .xc c fs => ∀ C d H' H0', M.mg c = some (.ref C) → Ext H0 H H0' H' → XF M.K H0' H' d fs → W (.ref C) d σ H'
  | .bad => False
theorem Out.imp {α : Type} {M : Md} {W : WX} {σ : L2.St} {H0 H : Hp} {r : Res α} {P P' : α → Prop} (o : Out M W σ H0 H r P) (h : ∀ a, P a → P' a) : Out M W σ H0 H r P' := by
  cases r with
  | ok a => exact h a o
  | xc c fs => exact o
  | bad => exact o
/-- behind a first part -/
theorem Out.after {α : Type} {M : Md} {W : WX} {σ : L2.St} {H0 H H01 H1 : Hp} {r : Res α} {P P' : α → Prop} (e : Ext H0 H H01 H1) (o : Out M W σ H0 H r P) (h : ∀ a, P a → P' a) : Out M W σ H01 H1 r P' := by
  cases r with
  | ok a => exact h a o
  | xc c fs => exact fun C d H' H0' hm e' x => o C d H' H0' hm (e.trans e') x
  | bad => exact o
theorem Out.bind {α β : Type} {M : Md} {W : WX} {σ : L2.St} {H0 H : Hp} {r : Res α} {f : α → Res β} {P : β → Prop} (o : Out M W σ H0 H (r.bind f) P) : Out M W σ H0 H r fun a => Out M W σ H0 H (f a) P := by
  cases r with
  | ok a => exact o
  | xc c fs => exact o
  | bad => exact o

/-- the slots, read -/
def RdE (K : PySem.W.Frag) (σ : L2.St) (ρ : List (Option D)) (H0 : Hp) : Prop := ρ.length = σ.length ∧ ∀ (i : Nat) (d : D), ρ[i]? = some (some d) → ∃ v, σ[i]? = some (some v) ∧ Rep K H0 d v
theorem RdE.mono {K : PySem.W.Frag} {σ : L2.St} {ρ : List (Option D)} {H0 H0' : Hp} (r : RdE K σ ρ H0) (h : Same H0 H0') : RdE K σ ρ H0' := ⟨r.1, fun i d e => by
  obtain ⟨v, h1, h2⟩ := r.2 i d e
  exact ⟨v, h1, Rep.mono h d v h2⟩⟩
theorem RdE.monoK {K : PySem.W.Frag} {σ : L2.St} {ρ : List (Option D)} {H0 H0' : Hp} (r : RdE K σ ρ H0) (h : Kp H0 H0') : RdE K σ ρ H0' := ⟨r.1, fun i d e => by
  obtain ⟨v, h1, h2⟩ := r.2 i d e
  exact ⟨v, h1, Rep.monoK h d v h2⟩⟩
abbrev GE := List (Option D) → Res FD
abbrev GT := List (Option D) → Res Bool
abbrev GA := List (Option D) → Res (List FD)
/-- an expression's reading: its outcome is g's -/
def tE (M : Md) (W : WX) (g : GE) : TE := fun σ H Q => ∃ H0 ρ, Same H0 H ∧ RdE M.K σ ρ H0 ∧
  Out M W σ H0 H (g ρ) fun x => ∀ v H' H0' F, Ext H0 H H0' H' → Sh M.K H' H0' x v F → FrF H H0' F → Q v H'
def tT (M : Md) (W : WX) (g : GT) : TT := fun σ H Q => ∃ H0 ρ, Same H0 H ∧ RdE M.K σ ρ H0 ∧
  Out M W σ H0 H (g ρ) fun b => ∀ H' H0', Ext H0 H H0' H' → Q b H'
/-- argument lists: all let go -/
def tA (M : Md) (W : WX) (g : List (Option D) → Res (List D)) : TA := fun σ H Q => ∃ H0 ρ, Same H0 H ∧ RdE M.K σ ρ H0 ∧
  Out M W σ H0 H (g ρ) fun ds => ∀ vs H' H0', Ext H0 H H0' H' → Reps M.K H0' ds vs → Q vs H'
/-- .. with what each is -/
def Shs (K : PySem.W.Frag) (H H0 : Hp) : List FD → List V → List Addr → Prop
  | [], vs, F => vs = [] ∧ F = []
  | x :: xs, vs, F => ∃ v r G1 G2, vs = v :: r ∧ F = G1 ++ G2 ∧ Sh K H H0 x v G1 ∧ Shs K H H0 xs r G2
theorem Shs.there {K : PySem.W.Frag} {H H0 : Hp} : ∀ {xs : List FD} {vs : List V} {F : List Addr}, Shs K H H0 xs vs F → ∀ p ∈ F, H p ≠ none
  | [], _, _, r => by obtain ⟨_, rfl⟩ := r; simp
  | x :: xs, _, _, ⟨v, r, G1, G2, e, f, s, q⟩ => by
    subst f; intro p hp
    rcases List.mem_append.mp hp with hp | hp
    · exact s.there p hp
    · exact Shs.there q p hp
theorem Shs.ext {K : PySem.W.Frag} {H1 H01 H2 H02 : Hp} (e : Ext H01 H1 H02 H2) : ∀ {xs : List FD} {vs : List V} {F : List Addr}, Shs K H1 H01 xs vs F → Shs K H2 H02 xs vs F
  | [], _, _, r => r
  | x :: xs, _, _, ⟨v, r, G1, G2, a, f, s, q⟩ => ⟨v, r, G1, G2, a, f, s.ext e, Shs.ext e q⟩
theorem Shs.length {K : PySem.W.Frag} {H1 H01 : Hp} : ∀ {xs : List FD} {vs : List V} {F : List Addr}, Shs K H1 H01 xs vs F → xs.length = vs.length
  | [], _, _, r => by obtain ⟨rfl, _⟩ := r; rfl
  | x :: xs, _, _, ⟨v, r, G1, G2, a, f, s, q⟩ => by subst a; simp [Shs.length q]
theorem Shs.snoc {K : PySem.W.Frag} {H H0 : Hp} : ∀ {ds : List FD} {vs : List V} {F G : List Addr} {d : FD} {v : V}, Shs K H H0 ds vs F → Sh K H H0 d v G → Shs K H H0 (ds ++ [d]) (vs ++ [v]) (F ++ G)
  | [], _, _, G, d, v, r, t => by
    obtain ⟨rfl, rfl⟩ := r
    exact ⟨v, [], G, [], rfl, by simp, t, rfl, rfl⟩
  | x :: ds, _, _, G, d, v, ⟨w, r, G1, G2, e, f, s, q⟩, t => by
    subst e; subst f
    exact ⟨w, _, G1, G2 ++ G, rfl, by simp, s, Shs.snoc q t⟩
theorem Shs.rep {K : PySem.W.Frag} {H H0 H0' : Hp} (h : Same H0 H0') : ∀ {xs : List FD} {vs : List V} {F : List Addr}, (∀ p ∈ F, H0 p = none) → (∀ p ∈ F, H0' p = H p) → Shs K H H0 xs vs F → Reps K H0' (xs.map (·.2)) vs
  | [], _, _, _, _, r => r.1
  | x :: xs, _, _, h0, h1, ⟨v, r, G1, G2, e, f, s, q⟩ => by
    subst f
    refine ⟨v, r, e, ?_, Shs.rep h (fun p hp => h0 p (List.mem_append_right _ hp)) (fun p hp => h1 p (List.mem_append_right _ hp)) q⟩
    refine Rep.mono (fun b o e => ?_) _ _ (s.rep fun p hp => h0 p (List.mem_append_left _ hp))
    by_cases hb : b ∈ G1
    · rw [addF_in hb] at e; rw [h1 b (List.mem_append_left _ hb)]; exact e
    · rw [addF_out hb] at e; exact h b o e
theorem Shs.trees {K : PySem.W.Frag} {H H0 : Hp} : ∀ {xs : List FD} {vs : List V} {F : List Addr}, (xs.all fun x => decide (x.1 = .T)) = true → Shs K H H0 xs vs F → Trees H (xs.map (·.2)) vs F
  | [], _, _, _, r => r
  | (fl, d) :: xs, _, _, h, ⟨v, r, G1, G2, e, f, s, q⟩ => by
    simp only [List.all_cons, Bool.and_eq_true, decide_eq_true_eq] at h
    obtain ⟨h1, h2⟩ := h
    subst h1
    exact ⟨v, r, G1, G2, e, f, s, Shs.trees h2 q⟩
def tL (M : Md) (W : WX) (g : GA) : TA := fun σ H Q => ∃ H0 ρ, Same H0 H ∧ RdE M.K σ ρ H0 ∧
  Out M W σ H0 H (g ρ) fun xs => ∀ vs H' H0' F, Ext H0 H H0' H' → Shs M.K H' H0' xs vs F → FrF H H0' F → Q vs H'
end VL
end

section
set_option Elab.async false
set_option maxRecDepth 100000
set_option linter.all false
/-! The value layer, 2: expressions. -/
namespace VL
open PySem PySem.Spec PyProof.Rows L2

abbrev Md.of (X : Cx) : Md := ⟨X.K, X.mg⟩
theorem _root_.L2.PE.imp {X : Cx} {e : Expr} {t t' : TE} (h : PE X e t) (i : ∀ σ H Q, t' σ H Q → t σ H Q) : PE X e t' := ⟨fun pins s σ H Q I q => h.run pins s σ H Q I (i _ _ _ q)⟩
theorem _root_.L2.PT.imp {X : Cx} {e : Expr} {t t' : TT} (h : PT X e t) (i : ∀ σ H Q, t' σ H Q → t σ H Q) : PT X e t' := ⟨fun pins s σ H Q I q => h.run pins s σ H Q I (i _ _ _ q)⟩
theorem _root_.L2.PW.imp {X : Cx} {e : Expr} {t t' : TT} (h : PW X e t) (i : ∀ σ H Q, t' σ H Q → t σ H Q) : PW X e t' := ⟨fun w pins s σ H Q I q => h.run w pins s σ H Q I (i _ _ _ q)⟩
theorem _root_.L2.PA.imp {X : Cx} {e : List Expr} {t t' : TA} (h : PA X e t) (i : ∀ σ H Q, t' σ H Q → t σ H Q) : PA X e t' := ⟨fun p pins s σ H Q I q => h.run p pins s σ H Q I (i _ _ _ q)⟩
theorem _root_.L2.PS.imp {X : Cx} {e : Stmt} {t t' : TS} (h : PS X e t) (i : ∀ D σ H, t' D σ H → t D σ H) : PS X e t' := ⟨fun pins s σ H D I q => h.run pins s σ H D I (i _ _ _ q)⟩
theorem _root_.L2.PSs.imp {X : Cx} {e : List Stmt} {t t' : TS} (h : PSs X e t) (i : ∀ D σ H, t' D σ H → t D σ H) : PSs X e t' := ⟨fun pins s σ H D I q => h.run pins s σ H D I (i _ _ _ q)⟩
theorem _root_.L2.OpR.imp {X : Cx} {f : Value → Value → Sem Value} {r r' : R2} (h : OpR X f r) (i : ∀ x y H Q, r' x y H Q → r x y H Q) : OpR X f r' := fun pins s σ H x y v u Q I rx ry q => h pins s σ H x y v u Q I rx ry (i _ _ _ _ q)
theorem _root_.L2.CallR.imp {X : Cx} {f : Value} {r r' : List V → Hp → VK → Prop} (h : CallR X f r) (i : ∀ xs H Q, r' xs H Q → r xs H Q) : CallR X f r' := fun pins s σ H xs us Q I rx q => h pins s σ H xs us Q I rx (i _ _ _ q)

def ofO {α : Type} : Option α → Res α
  | some a => .ok a
  | none => .bad
@[simp] theorem ofO_some {α : Type} (a : α) : ofO (some a) = .ok a := rfl
@[simp] theorem ofO_none {α : Type} : ofO (none : Option α) = .bad := rfl

/-- a thing read: an atom is nobody's -/
def sh (d : D) : FD := (if d.atom then .T else .S, d)
@[simp] theorem sh_2 (d : D) : (sh d).2 = d := rfl
theorem sh_ok {K : PySem.W.Frag} {H H0 : Hp} {d : D} {v : V} (r : Rep K H0 d v) : Sh K H H0 (sh d) v [] := by
  cases d <;> first | exact ⟨r, rfl⟩ | exact ⟨rfl, r⟩

/-- from (H0, H): a way to end a value's reading -/
def Fin (K : PySem.W.Frag) (H0 H : Hp) (x : FD) (Q : VK) : Prop := ∀ v H' H0' F, Ext H0 H H0' H' → Sh K H' H0' x v F → FrF H H0' F → Q v H'
theorem Fin.here {K : PySem.W.Frag} {H0 H : Hp} {d : D} {Q : VK} {v : V} (f : Fin K H0 H (sh d) Q) (h : Same H0 H) (r : Rep K H0 d v) : Q v H :=
  f v H H0 [] (Ext.refl h) (sh_ok r) FrF.nil
theorem Fin.atom {K : PySem.W.Frag} {H0 H : Hp} {d : D} {Q : VK} {v : V} (f : Fin K H0 H (.T, d) Q) (h : Same H0 H) (r : Tree H d v []) : Q v H :=
  f v H H0 [] (Ext.refl h) r FrF.nil
theorem Fin.after {K : PySem.W.Frag} {H0 H H01 H1 : Hp} {x : FD} {Q : VK} (e : Ext H0 H H01 H1) (f : Fin K H0 H x Q) : Fin K H01 H1 x Q := fun v H' H0' F e' s fr =>
  f v H' H0' F (e.trans e') s ⟨fr.1, fun p hp => ⟨e.s.free (fr.2 p hp).1, (fr.2 p hp).2⟩⟩

section
variable {X : Cx} {W : WX}

/-! ### names, constants -/
def gVar (i : Nat) : GE := fun ρ => match ρ[i]? with
  | some (some d) => .ok (sh d)
  | _ => .bad
theorem ev_var {i : Nat} {e : Expr} (h : PE X e (tVar i)) : PE X e (tE (Md.of X) W (gVar i)) := h.imp fun σ H Q ⟨H0, ρ, hs, hr, q⟩ => by
  unfold gVar at q
  split at q
  · rename_i d e
    obtain ⟨v, h1, h2⟩ := hr.2 i d e
    exact ⟨v, h1, Fin.here (K := X.K) q hs h2⟩
  · exact q.elim
def gCon (d : D) : GE := fun _ => .ok (.T, d)
theorem ev_con {e : Expr} {d : D} {v : V} (h : PE X e (tC v)) (r : ∀ H, Tree H d v [] := by intro _; exact ⟨rfl, rfl⟩) : PE X e (tE (Md.of X) W (gCon d)) := h.imp fun σ H Q ⟨H0, ρ, hs, hr, q⟩ =>
  Fin.atom (K := X.K) q hs (r H)

/-! ### operations by values -/
def rV (K : PySem.W.Frag) (f : D → D → Option FD) : R2 := fun x y H Q => ∃ H0 a b r, Same H0 H ∧ Rep K H0 a x ∧ Rep K H0 b y ∧ f a b = some r ∧ Fin K H0 H r Q
def g2 (ga gb : GE) (f : FD → FD → Res FD) : GE := fun ρ => (ga ρ).bind fun x => (gb ρ).bind fun y => f x y
/-- two parts, one behind the other, let go -/
theorem two {σ : L2.St} {H : Hp} {ga gb : GE} {f : D → D → Res FD} {Q : VK} {R : V → V → Hp → Prop}
    (h : tE (Md.of X) W (g2 ga gb fun x y => f x.2 y.2) σ H Q)
    (k : ∀ x y H1 H01 a b, Same H01 H1 → Rep X.K H01 a x → Rep X.K H01 b y → Out (Md.of X) W σ H01 H1 (f a b) (fun r => Fin X.K H01 H1 r Q) → R x y H1) :
    tE (Md.of X) W ga σ H fun x H1 => tE (Md.of X) W gb σ H1 fun y H2 => R x y H2 := by
  obtain ⟨H0, ρ, hs, hr, q⟩ := h
  refine ⟨H0, ρ, hs, hr, (Out.bind q).imp fun x qx => fun v H1 H01 F e s fr => ?_⟩
  obtain ⟨e1, r1⟩ := e.letgo s fr
  refine ⟨_, ρ, e1.s1, hr.mono e1.s0, (Out.after e1 (Out.bind qx) fun y qy => fun u H2 H02 G e' s' fr' => ?_)⟩
  obtain ⟨e2, r2⟩ := e'.letgo s' fr'
  exact k v u H2 _ x.2 y.2 e2.s1 (Rep.mono e2.s0 _ _ r1) r2 (Out.after (e1.trans e2) qy fun r q => Fin.after (e1.trans e2) q)
theorem ev_op {a b : Expr} {o : Operator} {pos : Pos} {ga gb : GE} {f : D → D → Option FD} (op : OpR X (binaryOp o) (rV X.K f)) (ha : PE X a (tE (Md.of X) W ga)) (hb : PE X b (tE (Md.of X) W gb)) :
    PE X (.BinOp a o b pos) (tE (Md.of X) W (g2 ga gb fun x y => ofO (f x.2 y.2))) := (pe_op op ha hb).imp fun σ H Q h => two (f := fun a b => ofO (f a b)) (Q := Q) h fun x y H1 H01 a b hs ra rb q => by
  have q : Out (Md.of X) W σ H01 H1 (ofO (f a b)) _ := q
  cases e : f a b with
  | none => rw [e] at q; exact q.elim
  | some r => rw [e] at q; exact ⟨H01, a, b, r, hs, ra, rb, e, q⟩
theorem ev_cmp {a b : Expr} {o : CmpOp} {pos : Pos} {ga gb : GE} {f : D → D → Option FD} (op : OpR X (compareOp o) (rV X.K f)) (ha : PE X a (tE (Md.of X) W ga)) (hb : PE X b (tE (Md.of X) W gb)) (hm : behindInMarks o b = false) :
    PE X (.Compare a [o] [b] pos) (tE (Md.of X) W (g2 ga gb fun x y => ofO (f x.2 y.2))) := (pe_cmpR op ha hb hm).imp fun σ H Q h => two (f := fun a b => ofO (f a b)) (Q := Q) h fun x y H1 H01 a b hs ra rb q => by
  have q : Out (Md.of X) W σ H01 H1 (ofO (f a b)) _ := q
  cases e : f a b with
  | none => rw [e] at q; exact q.elim
  | some r => rw [e] at q; exact ⟨H01, a, b, r, hs, ra, rb, e, q⟩

/-! ### tests -/
def toB : FD → Res Bool
  | (_, .bl b) => .ok b
  | _ => .bad
/-- a test, by the value -/
def gTest (g : GE) : GT := fun ρ => (g ρ).bind toB
theorem Sh.bl {K : PySem.W.Frag} {H H0 : Hp} {x : FD} {v : V} {F : List Addr} {b : Bool} (s : Sh K H H0 x v F) (e : toB x = .ok b) : v = .bl b := by
  obtain ⟨fl, d⟩ := x
  cases d <;> simp only [toB] at e <;> first | (cases e; done) | skip
  cases e
  cases fl with
  | S => exact s.2
  | R => obtain ⟨a, o, _, _, _, r⟩ := s; exact r.elim
  | T => exact s.1
theorem tT_of {g : GE} {σ : L2.St} {H : Hp} {Q : Bool → Hp → Prop} (h : tT (Md.of X) W (gTest g) σ H Q) : tE (Md.of X) W g σ H fun x H1 => ∃ c, x = .bl c ∧ Q c H1 := by
  obtain ⟨H0, ρ, hs, hr, q⟩ := h
  refine ⟨H0, ρ, hs, hr, (Out.bind q).imp fun x qx => fun v H1 H01 F e s fr => ?_⟩
  cases k : toB x with
  | ok b => rw [k] at qx; exact ⟨b, s.bl k, qx H1 H01 e⟩
  | xc c fs =>
    obtain ⟨fl, d⟩ := x
    cases d <;> simp [toB] at k
  | bad => rw [k] at qx; exact qx.elim
theorem et_cmp {a b : Expr} {o : CmpOp} {pos : Pos} {ga gb : GE} {f : D → D → Option FD} (op : OpR X (compareOp o) (rV X.K f)) (ha : PE X a (tE (Md.of X) W ga)) (hb : PE X b (tE (Md.of X) W gb)) (hm : behindInMarks o b = false) :
    PT X (.Compare a [o] [b] pos) (tT (Md.of X) W (gTest (g2 ga gb fun x y => ofO (f x.2 y.2)))) := (pt_cmpR op ha hb hm).imp fun σ H Q h => by
  have h' := tT_of h
  show tE _ _ ga σ H fun x H1 => tE _ _ gb σ H1 fun y H2 => rV X.K f x y H2 fun x H' => ∃ k, x = .bl k ∧ Q k H'
  exact two (f := fun a b => ofO (f a b)) h' fun x y H1 H01 a b hs ra rb q => by
    have q : Out (Md.of X) W σ H01 H1 (ofO (f a b)) _ := q
    cases e : f a b with
    | none => rw [e] at q; exact q.elim
    | some r => rw [e] at q; exact ⟨H01, a, b, r, hs, ra, rb, e, q⟩
/-- any expression that is a bool, plainly tested -/
theorem et_val {e : Expr} {g : GE} (h : PE X e (tE (Md.of X) W g)) (he : ∀ whole, isTrue e X.env whole = (do let v ← whole; standAt e.pos; holding [v] (truthy v)) := by intro _; rfl) :
    PT X e (tT (Md.of X) W (gTest g)) := (pt_val h he).imp fun σ H Q q => tT_of q
def gNotT (g : GT) : GT := fun ρ => (g ρ).bind fun b => .ok (!b)
theorem et_not {a : Expr} {pos : Pos} {g : GT} (h : PT X a (tT (Md.of X) W g)) : PT X (.UnaryOp .Not a pos) (tT (Md.of X) W (gNotT g)) := (pt_not h).imp fun σ H Q ⟨H0, ρ, hs, hr, q⟩ =>
  ⟨H0, ρ, hs, hr, (Out.bind q).imp fun b qb => qb⟩
def gAndT (g k : GT) : GT := fun ρ => (g ρ).bind fun b => if b = true then k ρ else .ok false
def gOrT (g k : GT) : GT := fun ρ => (g ρ).bind fun b => if b = true then .ok true else k ρ
theorem ew_and1 {a : Expr} {pos : Pos} {g : GT} (h : PT X a (tT (Md.of X) W g)) : PW X (.BoolOp .And [a] pos) (tT (Md.of X) W g) := pw_and1 h
theorem ew_or1 {a : Expr} {pos : Pos} {g : GT} (h : PT X a (tT (Md.of X) W g)) : PW X (.BoolOp .Or [a] pos) (tT (Md.of X) W g) := pw_or1 h
theorem ew_and {a b : Expr} {r : List Expr} {pos : Pos} {g k : GT} (h : PT X a (tT (Md.of X) W g)) (h' : PW X (.BoolOp .And (b :: r) pos) (tT (Md.of X) W k)) :
    PW X (.BoolOp .And (a :: b :: r) pos) (tT (Md.of X) W (gAndT g k)) := (pw_and h h').imp fun σ H Q ⟨H0, ρ, hs, hr, q⟩ =>
  ⟨H0, ρ, hs, hr, (Out.bind q).imp fun b qb => fun H1 H01 e => by
    cases b with
    | true => exact ⟨H01, ρ, e.s1, hr.mono e.s0, Out.after e qb fun c qc H2 H02 e' => qc H2 H02 (e.trans e')⟩
    | false => exact qb H1 H01 e⟩
theorem ew_or {a b : Expr} {r : List Expr} {pos : Pos} {g k : GT} (h : PT X a (tT (Md.of X) W g)) (h' : PW X (.BoolOp .Or (b :: r) pos) (tT (Md.of X) W k)) :
    PW X (.BoolOp .Or (a :: b :: r) pos) (tT (Md.of X) W (gOrT g k)) := (pw_or h h').imp fun σ H Q ⟨H0, ρ, hs, hr, q⟩ =>
  ⟨H0, ρ, hs, hr, (Out.bind q).imp fun b qb => fun H1 H01 e => by
    cases b with
    | false => exact ⟨H01, ρ, e.s1, hr.mono e.s0, Out.after e qb fun c qc H2 H02 e' => qc H2 H02 (e.trans e')⟩
    | true => exact qb H1 H01 e⟩
/-- and, or, not as values: of bools -/
def gBl (g : GT) : GE := fun ρ => (g ρ).bind fun b => .ok (.T, .bl b)
def gAndV (g k : GE) : GE := fun ρ => (g ρ).bind fun x => (toB x).bind fun b => if b = true then k ρ else .ok (.T, .bl false)
def gOrV (g k : GE) : GE := fun ρ => (g ρ).bind fun x => (toB x).bind fun b => if b = true then .ok (.T, .bl true) else k ρ
def gNotV (g : GE) : GE := fun ρ => (g ρ).bind fun x => (toB x).bind fun b => .ok (.T, .bl (!b))
theorem ev_one {a : Expr} {o : BoolOp} {pos : Pos} {g : GE} (h : PE X a (tE (Md.of X) W g)) : PE X (.BoolOp o [a] pos) (tE (Md.of X) W g) := pe_one h
theorem toB_xc {x : FD} {c : Str} {fs : List (Str × D)} (h : toB x = .xc c fs) : False := by
  obtain ⟨fl, d⟩ := x
  cases d <;> simp [toB] at h
theorem ev_and {a b : Expr} {r : List Expr} {pos : Pos} {g k : GE} (h : PE X a (tE (Md.of X) W g)) (h' : PE X (.BoolOp .And (b :: r) pos) (tE (Md.of X) W k)) :
    PE X (.BoolOp .And (a :: b :: r) pos) (tE (Md.of X) W (gAndV g k)) := (pe_and h h').imp fun σ H Q ⟨H0, ρ, hs, hr, q⟩ =>
  ⟨H0, ρ, hs, hr, (Out.bind q).imp fun x qx => fun v H1 H01 F e s fr => by
    cases t : toB x with
    | ok b =>
      rw [t] at qx
      refine ⟨b, s.bl t, ?_⟩
      cases b with
      | true => exact ⟨H01, ρ, e.s1, hr.mono e.s0, Out.after e qx fun y qy => Fin.after e qy⟩
      | false => exact Fin.atom (K := X.K) (Fin.after e qx) e.s1 ⟨rfl, rfl⟩
    | xc c fs => exact (toB_xc t).elim
    | bad => rw [t] at qx; exact qx.elim⟩
theorem ev_or {a b : Expr} {r : List Expr} {pos : Pos} {g k : GE} (h : PE X a (tE (Md.of X) W g)) (h' : PE X (.BoolOp .Or (b :: r) pos) (tE (Md.of X) W k)) :
    PE X (.BoolOp .Or (a :: b :: r) pos) (tE (Md.of X) W (gOrV g k)) := (pe_or h h').imp fun σ H Q ⟨H0, ρ, hs, hr, q⟩ =>
  ⟨H0, ρ, hs, hr, (Out.bind q).imp fun x qx => fun v H1 H01 F e s fr => by
    cases t : toB x with
    | ok b =>
      rw [t] at qx
      refine ⟨b, s.bl t, ?_⟩
      cases b with
      | false => exact ⟨H01, ρ, e.s1, hr.mono e.s0, Out.after e qx fun y qy => Fin.after e qy⟩
      | true => exact Fin.atom (K := X.K) (Fin.after e qx) e.s1 ⟨rfl, rfl⟩
    | xc c fs => exact (toB_xc t).elim
    | bad => rw [t] at qx; exact qx.elim⟩
theorem ev_not {a : Expr} {pos : Pos} {g : GE} (h : PE X a (tE (Md.of X) W g)) : PE X (.UnaryOp .Not a pos) (tE (Md.of X) W (gNotV g)) := (pe_not h).imp fun σ H Q ⟨H0, ρ, hs, hr, q⟩ =>
  ⟨H0, ρ, hs, hr, (Out.bind q).imp fun x qx => fun v H1 H01 F e s fr => by
    cases t : toB x with
    | ok b => rw [t] at qx; exact ⟨b, s.bl t, Fin.atom (K := X.K) (Fin.after e qx) e.s1 ⟨rfl, rfl⟩⟩
    | xc c fs => exact (toB_xc t).elim
    | bad => rw [t] at qx; exact qx.elim⟩
def gIf (c : GT) (g k : GE) : GE := fun ρ => (c ρ).bind fun b => if b = true then g ρ else k ρ
theorem ev_if {c a b : Expr} {pos : Pos} {gc : GT} {g k : GE} (hc : PT X c (tT (Md.of X) W gc)) (h : PE X a (tE (Md.of X) W g)) (h' : PE X b (tE (Md.of X) W k)) : PE X (.IfExp c a b pos) (tE (Md.of X) W (gIf gc g k)) :=
  (pe_ifExp hc h h').imp fun σ H Q ⟨H0, ρ, hs, hr, q⟩ => ⟨H0, ρ, hs, hr, (Out.bind q).imp fun b qb => fun H1 H01 e => by
    cases b with
    | true => exact ⟨H01, ρ, e.s1, hr.mono e.s0, Out.after e qb fun y qy => Fin.after e qy⟩
    | false => exact ⟨H01, ρ, e.s1, hr.mono e.s0, Out.after e qb fun y qy => Fin.after e qy⟩⟩
/-- is None -/
def isN : D → Bool
  | .non => true
  | _ => false
theorem isN_ok {K : PySem.W.Frag} {H : Hp} {d : D} {v : V} (r : Rep K H d v) : decide (v = .non) = isN d := by
  cases d
  case non => cases r; rfl
  case bl => cases r; rfl
  case int => cases r; rfl
  case str => cases r; rfl
  all_goals
    obtain ⟨a, h⟩ := r
    first | (obtain ⟨vs, e, _⟩ := h; subst e; rfl) | (obtain ⟨e, _⟩ := h; subst e; rfl)
def gIsN (g : GE) : GE := fun ρ => (g ρ).bind fun x => .ok (.T, .bl (isN x.2))
def gNotN (g : GE) : GE := fun ρ => (g ρ).bind fun x => .ok (.T, .bl (!isN x.2))
theorem one {σ : L2.St} {H : Hp} {g : GE} {f : D → Res FD} {Q : VK} {R : V → Hp → Prop} (h : tE (Md.of X) W (fun ρ => (g ρ).bind fun x => f x.2) σ H Q)
    (k : ∀ x H1 H01 a, Same H01 H1 → Rep X.K H01 a x → Out (Md.of X) W σ H01 H1 (f a) (fun r => Fin X.K H01 H1 r Q) → R x H1) : tE (Md.of X) W g σ H R := by
  obtain ⟨H0, ρ, hs, hr, q⟩ := h
  refine ⟨H0, ρ, hs, hr, (Out.bind q).imp fun x qx => fun v H1 H01 F e s fr => ?_⟩
  obtain ⟨e1, r1⟩ := e.letgo s fr
  exact k v H1 _ x.2 e1.s1 r1 (Out.after e1 qx fun r q => Fin.after e1 q)
theorem ec_isN {a : Expr} {j pos'} {g : GE} (h : PE X a (tE (Md.of X) W g)) : PC X .Is a (.Constant .none j pos') (tE (Md.of X) W (gIsN g)) := by
  refine ⟨fun pins s σ H Q I q => (pc_isN h).run pins s σ H Q I ?_⟩
  exact one (f := fun d => .ok (.T, .bl (isN d))) q fun x H1 H01 a hs ra q => by
    rw [isN_ok ra]; exact Fin.atom (K := X.K) q hs ⟨rfl, rfl⟩
theorem ec_notN {a : Expr} {j pos'} {g : GE} (h : PE X a (tE (Md.of X) W g)) : PC X .IsNot a (.Constant .none j pos') (tE (Md.of X) W (gNotN g)) := by
  refine ⟨fun pins s σ H Q I q => (pc_notN h).run pins s σ H Q I ?_⟩
  exact one (f := fun d => .ok (.T, .bl (!isN d))) q fun x H1 H01 a hs ra q => by
    rw [isN_ok ra]; exact Fin.atom (K := X.K) q hs ⟨rfl, rfl⟩
theorem ev_pc {a b : Expr} {o : CmpOp} {pos : Pos} {g : GE} (h : PC X o a b (tE (Md.of X) W g)) (h1 : behindInMarks o b = false) : PE X (.Compare a [o] [b] pos) (tE (Md.of X) W g) := pe_cmp h h1
theorem et_pc {a b : Expr} {o : CmpOp} {pos : Pos} {g : GE} (h : PC X o a b (tE (Md.of X) W g)) (h1 : behindInMarks o b = false) : PT X (.Compare a [o] [b] pos) (tT (Md.of X) W (gTest g)) := (pt_cmp h h1).imp fun σ H Q q => tT_of q

/-! ### argument lists -/
def gNil : List (Option D) → Res (List D) := fun _ => .ok []
def gCons (g : GE) (k : List (Option D) → Res (List D)) : List (Option D) → Res (List D) := fun ρ => (g ρ).bind fun x => (k ρ).bind fun xs => .ok (x.2 :: xs)
theorem ea_nil : PA X [] (tA (Md.of X) W gNil) := pa_nil.imp fun σ H Q ⟨H0, ρ, hs, hr, q⟩ => q [] H H0 (Ext.refl hs) rfl
theorem ea_cons {e : Expr} {es : List Expr} {g : GE} {k : List (Option D) → Res (List D)} (h : PE X e (tE (Md.of X) W g)) (h' : PA X es (tA (Md.of X) W k)) (hs : starEach (e :: es) X.env = (false, eval e X.env) :: starEach es X.env := by rfl) :
    PA X (e :: es) (tA (Md.of X) W (gCons g k)) := (pa_cons h h' hs).imp fun σ H Q ⟨H0, ρ, hs, hr, q⟩ =>
  ⟨H0, ρ, hs, hr, (Out.bind q).imp fun x qx => fun v H1 H01 F e s fr => by
    obtain ⟨e1, r1⟩ := e.letgo s fr
    refine ⟨_, ρ, e1.s1, hr.mono e1.s0, Out.after e1 (Out.bind qx) fun xs qs => fun vs H2 H02 e2 rs => ?_⟩
    exact qs (v :: vs) H2 H02 (e1.trans e2) ⟨v, vs, rfl, Rep.mono e2.s0 _ _ r1, rs⟩⟩
/-- .. with what each is -/
def lNil : GA := fun _ => .ok []
def lCons (g : GE) (k : GA) : GA := fun ρ => (g ρ).bind fun x => (k ρ).bind fun xs => .ok (x :: xs)
theorem el_nil : PA X [] (tL (Md.of X) W lNil) := pa_nil.imp fun σ H Q ⟨H0, ρ, hs, hr, q⟩ => q [] H H0 [] (Ext.refl hs) ⟨rfl, rfl⟩ FrF.nil
theorem el_cons {e : Expr} {es : List Expr} {g : GE} {k : GA} (h : PE X e (tE (Md.of X) W g)) (h' : PA X es (tL (Md.of X) W k)) (hs : starEach (e :: es) X.env = (false, eval e X.env) :: starEach es X.env := by rfl) :
    PA X (e :: es) (tL (Md.of X) W (lCons g k)) := (pa_cons h h' hs).imp fun σ H Q ⟨H0, ρ, hs, hr, q⟩ =>
  ⟨H0, ρ, hs, hr, (Out.bind q).imp fun x qx => fun v H1 H01 F e s fr => by
    refine ⟨H01, ρ, e.s1, hr.mono e.s0, Out.after e (Out.bind qx) fun xs qs => fun vs H2 H02 G e2 rs fr2 => ?_⟩
    have fr' := FrF.ext fr s e2
    refine qs (v :: vs) H2 H02 (F ++ G) (e.trans e2) ⟨v, vs, F, G, rfl, rfl, s.ext e2, rs⟩ ⟨?_, fun p hp => ?_⟩
    · refine List.nodup_append.mpr ⟨fr.1, fr2.1, fun a ha b hb hab => ?_⟩
      subst hab
      exact s.there a ha (fr2.2 a hb).1
    · rcases List.mem_append.mp hp with hp | hp
      · exact fr'.2 p hp
      · exact ⟨e.s.free (fr2.2 p hp).1, (fr2.2 p hp).2⟩⟩
def allT (xs : List FD) : Bool := xs.all fun x => decide (x.1 = .T)
def mkL (xs : List FD) : FD := (if allT xs then .T else .R, .lst (xs.map (·.2)))
def mkT (xs : List FD) : FD := (if allT xs then .T else .R, .tup (xs.map (·.2)))
/-- a new object over shapes -/
theorem newSeq {K : PySem.W.Frag} {H0 H H01 H1 : Hp} {xs : List FD} {vs : List V} {F : List Addr} {p : Addr} {Q : VK} {mk : List D → D} {mo : List V → HO}
    (hT : ∀ H ds vs G a, H a = some (mo vs) → ds.length ≤ sizeLine → Trees H ds vs G → Tree H (mk ds) (.ref a) (a :: G))
    (hR : ∀ H0 ds vs, ds.length ≤ sizeLine → Reps K H0 ds vs → Root K H0 (mk ds) (mo vs))
    (z : xs.length ≤ sizeLine) (f : Fin K H0 H (if allT xs then .T else .R, mk (xs.map (·.2))) Q) (e : Ext H0 H H01 H1) (s : Shs K H1 H01 xs vs F) (fr : FrF H H01 F) (hp : H1 p = none) : Q (.ref p) (upd H1 p (mo vs)) := by
  have el := Ext.lay0 e.s1 hp (mo vs)
  have hpF : p ∉ F := fun h => s.there p h hp
  have hpH : H p = none := e.s.free hp
  have hp0 : H01 p = none := e.s1.free hp
  have zl : (xs.map (·.2)).length ≤ sizeLine := by rw [List.length_map]; exact z
  by_cases a : allT xs = true
  · rw [if_pos a] at f
    have t := (s.ext el).trees a
    refine f (.ref p) _ H01 (p :: F) (e.trans el) (hT _ _ _ _ _ upd_same zl t) ⟨List.nodup_cons.mpr ⟨hpF, fr.1⟩, fun b hb => ?_⟩
    rcases List.mem_cons.mp hb with rfl | hb
    · exact ⟨hpH, hp0⟩
    · exact fr.2 b hb
  · rw [if_neg a] at f
    have z0 : ∀ b ∈ F, H01 b = none := fun b hb => (fr.2 b hb).2
    have e1 : Ext H0 H (addF H01 H1 F) H1 := ⟨e.s0.trans (addF_same0 z0), addF_same e.s1, e.s, fun b h1 h2 => by
      by_cases hb : b ∈ F
      · exact (fr.2 b hb).1
      · rw [addF_out hb] at h2; exact e.new b h1 h2⟩
    refine f (.ref p) _ (addF H01 H1 F) [p] (e1.trans (Ext.lay0 e1.s1 hp (mo vs))) ⟨p, mo vs, rfl, rfl, upd_same, hR _ _ _ zl (Shs.rep (addF_same0 z0) z0 (fun b hb => addF_in hb) s)⟩ ⟨by simp, fun b hb => ?_⟩
    rw [List.mem_singleton.mp hb, addF_out hpF]
    exact ⟨hpH, hp0⟩
theorem newL {K : PySem.W.Frag} {H0 H H01 H1 : Hp} {xs : List FD} {vs : List V} {F : List Addr} {p : Addr} {Q : VK}
    (z : xs.length ≤ sizeLine) (f : Fin K H0 H (mkL xs) Q) (e : Ext H0 H H01 H1) (s : Shs K H1 H01 xs vs F) (fr : FrF H H01 F) (hp : H1 p = none) : Q (.ref p) (upd H1 p (.lst vs)) :=
  newSeq (mk := D.lst) (mo := HO.lst) (fun H ds vs G a h z t => ⟨a, vs, G, rfl, rfl, h, z, t⟩) (fun H0 ds vs z r => ⟨vs, rfl, z, r⟩) z f e s fr hp
theorem newT {K : PySem.W.Frag} {H0 H H01 H1 : Hp} {xs : List FD} {vs : List V} {F : List Addr} {p : Addr} {Q : VK}
    (z : xs.length ≤ sizeLine) (f : Fin K H0 H (mkT xs) Q) (e : Ext H0 H H01 H1) (s : Shs K H1 H01 xs vs F) (fr : FrF H H01 F) (hp : H1 p = none) : Q (.ref p) (upd H1 p (.tup vs)) :=
  newSeq (mk := D.tup) (mo := HO.tup) (fun H ds vs G a h z t => ⟨a, vs, G, rfl, rfl, h, z, t⟩) (fun H0 ds vs z r => ⟨vs, rfl, z, r⟩) z f e s fr hp
def chk (b : Bool) (x : FD) : Res FD := if b = true then .ok x else .bad
def gLst (k : GA) : GE := fun ρ => (k ρ).bind fun xs => chk (decide (xs.length ≤ sizeLine)) (mkL xs)
def gTpl (k : GA) : GE := fun ρ => (k ρ).bind fun xs => chk (decide (xs.length ≤ sizeLine)) (mkT xs)
theorem ev_lst {es : List Expr} {pos : Pos} {k : GA} (h : PA X es (tL (Md.of X) W k)) : PE X (.List es pos) (tE (Md.of X) W (gLst k)) := (pe_lst h).imp fun σ H Q ⟨H0, ρ, hs, hr, q⟩ =>
  ⟨H0, ρ, hs, hr, (Out.bind q).imp fun xs qx => fun vs H1 H01 F e s fr => by
    unfold chk at qx
    split at qx
    · rename_i hz
      have hz := of_decide_eq_true hz
      exact ⟨by rw [← s.length]; exact hz, fun p hp => newL hz qx e s fr hp⟩
    · exact qx.elim⟩
theorem ev_tup {es : List Expr} {pos : Pos} {x1} {k : GA} (h : PA X es (tL (Md.of X) W k)) : PE X (.Tuple es x1 pos) (tE (Md.of X) W (gTpl k)) := (pe_tup h).imp fun σ H Q ⟨H0, ρ, hs, hr, q⟩ =>
  ⟨H0, ρ, hs, hr, (Out.bind q).imp fun xs qx => fun vs H1 H01 F e s fr => by
    unfold chk at qx
    split at qx
    · rename_i hz
      have hz := of_decide_eq_true hz
      exact ⟨by rw [← s.length]; exact hz, fun p hp => newT hz qx e s fr hp⟩
    · exact qx.elim⟩
end
end VL
end

section
set_option Elab.async false
set_option maxRecDepth 100000
set_option linter.all false
/-! The value layer, 3: equality, operators, subscripts, built-ins. -/
namespace VL
open PySem PySem.Spec PyProof.Rows L2

/-! ### == and != -/
def eqAtom : D → D → Option Bool
  | .non, .non => some true
  | .bl a, .bl b => some (a == b)
  | .int a, .int b => some (a == b)
  | .str a, .str b => some (a == b)
  | .non, .bl _ => some false
  | .non, .int _ => some false
  | .non, .str _ => some false
  | .bl _, .non => some false
  | .bl _, .str _ => some false
  | .int _, .non => some false
  | .int _, .str _ => some false
  | .str _, .non => some false
  | .str _, .bl _ => some false
  | .str _, .int _ => some false
  | _, _ => none
def allO (f : D → D → Option Bool) : List D → List D → Option Bool
  | x :: xs, y :: ys => (f x y).bind fun a => (allO f xs ys).map fun b => a && b
  | _, _ => some true
def eqN : Nat → D → D → Option Bool
  | n + 1, .lst xs, .lst ys => if xs.length = ys.length then allO (eqN n) xs ys else some false
  | n + 1, .tup xs, .tup ys => (allO (eqN n) xs ys).map fun b => b && decide (xs.length = ys.length)
  | n + 1, .lst _, .tup _ => some false
  | n + 1, .tup _, .lst _ => some false
  | n + 1, .lst _, .non => some false
  | n + 1, .lst _, .bl _ => some false
  | n + 1, .lst _, .int _ => some false
  | n + 1, .lst _, .str _ => some false
  | n + 1, .tup _, .non => some false
  | n + 1, .tup _, .bl _ => some false
  | n + 1, .tup _, .int _ => some false
  | n + 1, .tup _, .str _ => some false
  | n + 1, .non, .lst _ => some false
  | n + 1, .bl _, .lst _ => some false
  | n + 1, .int _, .lst _ => some false
  | n + 1, .str _, .lst _ => some false
  | n + 1, .non, .tup _ => some false
  | n + 1, .bl _, .tup _ => some false
  | n + 1, .int _, .tup _ => some false
  | n + 1, .str _, .tup _ => some false
  | n + 1, .scr xs, .lst [] => some xs.isEmpty
  | _, a, b => eqAtom a b
section
variable {X : Cx} {pins : List (Addr × Obj)} {σ : L2.St} {H : Hp} {s : Shared}
theorem Inv.isList {a : Addr} {xs : List V} (I : Inv X pins σ H s) (h : SqL X.K H a xs) : ∃ its : List Value, Vals xs its ∧ s.heap.IsList a its.toArray := by
  obtain ⟨its, r, ⟨o, n, e, c, d, q⟩, _⟩ := I.list h
  exact ⟨its, r, o, e, c, n, q⟩
theorem Inv.isTup {a : Addr} {xs : List V} (I : Inv X pins σ H s) (h : SqT X.K H a xs) : ∃ its : List Value, Vals xs its ∧ s.heap.IsTuple a its.toArray := by
  obtain ⟨its, r, t, _⟩ := I.tuple h
  exact ⟨its, r, t⟩
theorem rep_ref {K : PySem.W.Frag} {H : Hp} {ds : List D} {x : V} (r : Rep K H (.lst ds) x) : ∃ a vs, x = .ref a ∧ SqL K H a vs ∧ Reps K H ds vs := by
  obtain ⟨a, vs, e, h, z, q⟩ := r
  exact ⟨a, vs, e, SqL.of h, q⟩
theorem eqAtom_same {K : PySem.W.Frag} {H : Hp} {d e : D} {x : V} {b : Bool} (h : eqAtom d e = some b) (r : Rep K H d x) (q : Rep K H e x) : b = true := by
  cases d <;> cases e <;> simp only [eqAtom] at h <;> first | (cases h; done) | skip
  all_goals (cases h; cases r)
  all_goals (first | (cases q; done) | skip)
  all_goals (cases q; simp)
theorem allO_same {f : D → D → Option Bool} {K : PySem.W.Frag} {H : Hp} (hf : ∀ d e x b, f d e = some b → Rep K H d x → Rep K H e x → b = true) : ∀ {ds es : List D} {xs : List V} {b : Bool}, allO f ds es = some b → Reps K H ds xs → Reps K H es xs → b = true
  | [], _, _, b, h, _, _ => by simp [allO] at h; exact h
  | _ :: _, [], _, b, h, r, q => by simp [allO] at h; exact h
  | d :: ds, e :: es, _, b, h, ⟨v, t, e1, r1, r2⟩, ⟨u, t', e2, q1, q2⟩ => by
    subst e1
    cases e2
    unfold allO at h
    cases h1 : f d e with
    | none => rw [h1] at h; cases h
    | some c =>
      rw [h1] at h
      cases h2 : allO f ds es with
      | none => rw [h2] at h; cases h
      | some c2 =>
        rw [h2] at h
        cases h
        rw [hf d e v c h1 r1 q1, allO_same hf h2 r2 q2]; rfl
theorem lst_tup_no (I : Inv X pins σ H s) {a : Addr} {xs ys : List V} (h : SqL X.K H a xs) (h' : SqT X.K H a ys) : False := by
  obtain ⟨_, _, o, e, c, _⟩ := Inv.isList I h
  obtain ⟨_, _, o', e', c', _⟩ := Inv.isTup I h'
  rw [e] at e'; cases e'
  rw [c] at c'
  have := Value.type.inj c'
  exact absurd this (by decide)
theorem eqN_same (I : Inv X pins σ H s) : ∀ (n : Nat) (d e : D) (x : V) (b : Bool), eqN n d e = some b → Rep X.K H d x → Rep X.K H e x → b = true
  | 0, d, e, x, b, h, r, q => by
    have h : eqAtom d e = some b := by
      cases d <;> cases e <;> exact h
    exact eqAtom_same h r q
  | n + 1, d, e, x, b, h, r, q => by
    have key : eqAtom d e = some b → b = true := fun h => eqAtom_same h r q
    cases d with
    | lst xs =>
      obtain ⟨a, vs, rfl, h1, z, r1⟩ := r
      cases e with
      | lst ys =>
        obtain ⟨a', ws, e', h2, z', q1⟩ := q
        cases e'
        rw [h1] at h2; cases h2
        simp only [eqN] at h
        rw [if_pos (r1.length.trans q1.length.symm)] at h
        exact allO_same (eqN_same I n) h r1 q1
      | tup ys =>
        obtain ⟨a', ws, e', h2, z', q1⟩ := q
        cases e'
        exact (lst_tup_no I (SqL.of h1) h2).elim
      | dct _ => exact key h
      | scr _ => exact key h
      | _ => cases q
    | tup xs =>
      obtain ⟨a, vs, rfl, h1, z, r1⟩ := r
      cases e with
      | tup ys =>
        obtain ⟨a', ws, e', h2, z', q1⟩ := q
        cases e'
        have := I.tuple_inj h1 h2
        subst this
        simp only [eqN] at h
        cases h3 : allO (eqN n) xs ys with
        | none => rw [h3] at h; cases h
        | some c =>
          rw [h3] at h; cases h
          rw [allO_same (eqN_same I n) h3 r1 q1, decide_eq_true (r1.length.trans q1.length.symm)]; rfl
      | lst ys =>
        obtain ⟨a', ws, e', h2, z', q1⟩ := q
        cases e'
        exact (lst_tup_no I (SqL.of h2) h1).elim
      | dct _ => exact key h
      | scr _ => exact key h
      | _ => cases q
    | dct _ => cases e <;> exact key h
    | scr ns =>
      cases e with
      | lst ys =>
        cases ys with
        | nil =>
          obtain ⟨a, rfl, h1⟩ := r
          obtain ⟨a', ws, e', h2, z', q1⟩ := q
          cases e'
          have := I.list_inj h1 (SqL.of h2)
          cases q1
          have : ns = [] := by cases ns with
            | nil => rfl
            | cons _ _ => cases this
          subst this
          simp only [eqN] at h
          cases h; rfl
        | cons _ _ => exact key h
      | _ => exact key h
    | _ =>
      cases e with
      | lst ys => obtain ⟨a', ws, e', _⟩ := q; cases r; cases e'
      | tup ys => obtain ⟨a', ws, e', _⟩ := q; cases r; cases e'
      | _ => exact key h
/-- what == tells, what != tells, what a search tells -/
structure Eqs (A : Around) (s : Shared) (v u : Value) (b : Bool) : Prop where
  e : SeqAt.EqAt A s v u b
  r : SeqAt.RcAt A s v u b
  n : SeqAt.RcNeAt A s v u (!b)
theorem eqAtom_at {A : Around} {d e : D} {x y : V} {v u : Value} {b : Bool} (h : eqAtom d e = some b) (r : Rep X.K H d x) (rv : RelV x v) (q : Rep X.K H e y) (ru : RelV y u) : Eqs A s v u b :=
  match d, e, h, r, q with
  | .non, .non, h, r, q => by cases h; cases r; cases q; cases rv; cases ru; exact ⟨.same _, .none_none  , .none_none  ⟩
  | .non, .bl _, h, r, q => by cases h; cases r; cases q; cases rv; cases ru; exact ⟨.none_bool  _, .none_bool  _, .none_bool  _⟩
  | .non, .int _, h, r, q => by cases h; cases r; cases q; cases rv; obtain ⟨_, rfl⟩ := ru; exact ⟨.none_int  _ _, .none_int  _ _, .none_int  _ _⟩
  | .non, .str _, h, r, q => by cases h; cases r; cases q; cases rv; obtain ⟨_, rfl⟩ := ru; exact ⟨.none_str  _ _, .none_str  _ _, .none_str  _ _⟩
  | .bl _, .non, h, r, q => by cases h; cases r; cases q; cases rv; cases ru; exact ⟨.bool_none _ , .bool_none _ , .bool_none _ ⟩
  | .bl _, .bl _, h, r, q => by cases h; cases r; cases q; cases rv; cases ru; exact ⟨.bool_bool _ _, .bool_bool _ _, .bool_bool _ _⟩
  | .bl _, .str _, h, r, q => by cases h; cases r; cases q; cases rv; obtain ⟨_, rfl⟩ := ru; exact ⟨.bool_str _ _ _, .bool_str _ _ _, .bool_str _ _ _⟩
  | .int _, .non, h, r, q => by cases h; cases r; cases q; obtain ⟨_, rfl⟩ := rv; cases ru; exact ⟨.int_none _ _ , .int_none _ _ , .int_none _ _ ⟩
  | .int _, .int _, h, r, q => by cases h; cases r; cases q; obtain ⟨_, rfl⟩ := rv; obtain ⟨_, rfl⟩ := ru; exact ⟨.int_int _ _ _ _, .int_int _ _ _ _, .int_int _ _ _ _⟩
  | .int _, .str _, h, r, q => by cases h; cases r; cases q; obtain ⟨_, rfl⟩ := rv; obtain ⟨_, rfl⟩ := ru; exact ⟨.int_str _ _ _ _, .int_str _ _ _ _, .int_str _ _ _ _⟩
  | .str _, .non, h, r, q => by cases h; cases r; cases q; obtain ⟨_, rfl⟩ := rv; cases ru; exact ⟨.str_none _ _ , .str_none _ _ , .str_none _ _ ⟩
  | .str _, .bl _, h, r, q => by cases h; cases r; cases q; obtain ⟨_, rfl⟩ := rv; cases ru; exact ⟨.str_bool _ _ _, .str_bool _ _ _, .str_bool _ _ _⟩
  | .str _, .int _, h, r, q => by cases h; cases r; cases q; obtain ⟨_, rfl⟩ := rv; obtain ⟨_, rfl⟩ := ru; exact ⟨.str_int _ _ _ _, .str_int _ _ _ _, .str_int _ _ _ _⟩
  | .str _, .str _, h, r, q => by cases h; cases r; cases q; obtain ⟨_, rfl⟩ := rv; obtain ⟨_, rfl⟩ := ru; exact ⟨.str_str _ _ _ _, .str_str _ _ _ _, .str_str _ _ _ _⟩
  | .bl _, .int _, h, _, _ => by cases h
  | .int _, .bl _, h, _, _ => by cases h
  | .lst _, _, h, _, _ => by cases h
  | .tup _, _, h, _, _ => by cases h
  | .dct _, _, h, _, _ => by cases h
  | .scr _, _, h, _, _ => by cases h
  | .non, .lst _, h, _, _ => by cases h
  | .non, .tup _, h, _, _ => by cases h
  | .non, .dct _, h, _, _ => by cases h
  | .non, .scr _, h, _, _ => by cases h
  | .bl _, .lst _, h, _, _ => by cases h
  | .bl _, .tup _, h, _, _ => by cases h
  | .bl _, .dct _, h, _, _ => by cases h
  | .bl _, .scr _, h, _, _ => by cases h
  | .int _, .lst _, h, _, _ => by cases h
  | .int _, .tup _, h, _, _ => by cases h
  | .int _, .dct _, h, _, _ => by cases h
  | .int _, .scr _, h, _, _ => by cases h
  | .str _, .lst _, h, _, _ => by cases h
  | .str _, .tup _, h, _, _ => by cases h
  | .str _, .dct _, h, _, _ => by cases h
  | .str _, .scr _, h, _, _ => by cases h
theorem allO_at {A : Around} {f : D → D → Option Bool} (hf : ∀ d e x y v u b, f d e = some b → Rep X.K H d x → RelV x v → Rep X.K H e y → RelV y u → SeqAt.EqAt A s v u b) :
    ∀ {ds es : List D} {xs ys : List V} {vs us : List Value} {b : Bool}, allO f ds es = some b → Reps X.K H ds xs → Vals xs vs → Reps X.K H es ys → Vals ys us →
      ∃ k : Nat → Bool, (∀ j (h1 : j < vs.length) (h2 : j < us.length), SeqAt.EqAt A s vs[j] us[j] (k j)) ∧ (List.range (min vs.length us.length)).all k = b
  | [], _, _, _, _, us, b, h, r, rv, q, ru => by
    cases r; cases rv
    simp only [allO] at h; cases h
    exact ⟨fun _ => true, fun j h1 _ => absurd h1 (by simp), by simp⟩
  | _ :: _, [], _, _, vs, _, b, h, r, rv, q, ru => by
    cases q; cases ru
    simp only [allO] at h; cases h
    exact ⟨fun _ => true, fun j _ h2 => absurd h2 (by simp), by simp⟩
  | d :: ds, e :: es, _, _, _, _, b, h, ⟨x, t, e1, r1, r2⟩, rv, ⟨y, t', e2, q1, q2⟩, ru => by
    subst e1 e2
    cases rv with
    | cons rv1 rv2 =>
    cases ru with
    | cons ru1 ru2 =>
    unfold allO at h
    cases h1 : f d e with
    | none => rw [h1] at h; cases h
    | some c =>
      rw [h1] at h
      cases h2 : allO f ds es with
      | none => rw [h2] at h; cases h
      | some c2 =>
        rw [h2] at h
        cases h
        obtain ⟨k, k1, k2⟩ := allO_at hf h2 r2 rv2 q2 ru2
        refine ⟨fun j => match j with | 0 => c | j + 1 => k j, fun j h1' h2' => ?_, ?_⟩
        · cases j with
          | zero => exact hf d e x y _ _ c h1 r1 rv1 q1 ru1
          | succ j => exact k1 j (by simpa using h1') (by simpa using h2')
        · simp only [List.length_cons]
          rw [show min (_ + 1) (_ + 1) = min _ _ + 1 from Nat.succ_min_succ .. , List.range_succ_eq_map, List.all_cons, List.all_map]
          rw [← k2]; rfl
theorem eqN_at (I : Inv X pins σ H s) : ∀ (n : Nat) (A : Around) (d e : D) (x y : V) (v u : Value) (b : Bool), A.units + n < cLine → eqN n d e = some b → Rep X.K H d x → RelV x v → Rep X.K H e y → RelV y u → Eqs A s v u b
  | 0, A, d, e, x, y, v, u, b, hu, h, r, rv, q, ru => by
    have h : eqAtom d e = some b := by
      cases d <;> cases e <;> exact h
    exact eqAtom_at h r rv q ru
  | n + 1, A, d, e, x, y, v, u, b, hu, h, r, rv, q, ru => by
    have key : eqAtom d e = some b → Eqs A s v u b := fun h => eqAtom_at h r rv q ru
    have hu0 : A.units < cLine := by omega
    have ih := fun d e x y v u b h1 h2 h3 h4 h5 => (eqN_at I n A.in1 d e x y v u b (by show A.units + 1 + n < _; omega) h1 h2 h3 h4 h5).e
    have whole := h
    cases d with
    | lst xs =>
      have rr := r
      obtain ⟨a, vs, rfl, h1, z, r1⟩ := r
      cases rv
      obtain ⟨its, rl, il⟩ := Inv.isList I (SqL.of h1)
      cases e with
      | lst ys =>
        have qq := q
        obtain ⟨a', ws, rfl, h2, z', q1⟩ := q
        cases ru
        obtain ⟨its', rl', il'⟩ := Inv.isList I (SqL.of h2)
        simp only [eqN] at h
        have fin : SeqAt.RcAt A s (.ref a) (.ref a') b ∧ SeqAt.RcNeAt A s (.ref a) (.ref a') (!b) := by
          have L1 : xs.length = its.length := r1.length.trans rl.length
          have L2' : ys.length = its'.length := q1.length.trans rl'.length
          by_cases hl : xs.length = ys.length
          · rw [if_pos hl] at h
            obtain ⟨k, k1, k2⟩ := allO_at ih h r1 rl q1 rl'
            have hs : its.toArray.size = its'.toArray.size := by simp only [List.size_toArray]; omega
            have e1 : (List.range its.toArray.size).all k = b := by
              rw [← k2]
              congr 2
              simp only [List.size_toArray]; omega
            refine ⟨?_, ?_⟩
            · have := SeqAt.RcAt.lists il il' hs hu0 (e := k) fun j h1 h2 => by simpa using k1 j (by simpa using h1) (by simpa using h2)
              rw [e1] at this; exact this
            · have := SeqAt.RcNeAt.lists il il' hs hu0 (e := k) fun j h1 h2 => by simpa using k1 j (by simpa using h1) (by simpa using h2)
              rw [e1] at this; exact this
          · rw [if_neg hl] at h; cases h
            have hs : (its.toArray.size != its'.toArray.size) = true := by simp only [List.size_toArray, bne_iff_ne, ne_eq]; omega
            exact ⟨.lists_lengths il il' hs hu0, .lists_lengths il il' hs hu0⟩
        refine ⟨?_, fin.1, fin.2⟩
        by_cases ha : a = a'
        · subst ha
          rw [eqN_same I (n + 1) _ _ _ b whole rr qq]
          exact .same _
        · exact .of_refs ha fin.1
      | tup ys =>
        obtain ⟨a', ws, rfl, h2, z', q1⟩ := q
        cases ru
        obtain ⟨its', rl', il'⟩ := Inv.isTup I h2
        simp only [eqN] at h; cases h
        exact ⟨.list_tuple il il' hu0, .list_tuple il il' hu0, .list_tuple il il' hu0⟩
      | dct _ => exact key h
      | scr _ => exact key h
      | non => cases q; cases ru; simp only [eqN] at h; cases h; exact ⟨.list_none il hu0, .list_none il hu0, .list_none il hu0⟩
      | bl _ => cases q; cases ru; simp only [eqN] at h; cases h; exact ⟨.list_bool _ il hu0, .list_bool _ il hu0, .list_bool _ il hu0⟩
      | int _ => cases q; obtain ⟨t, rfl⟩ := ru; simp only [eqN] at h; cases h; exact ⟨.list_int _ _ il hu0, .list_int _ _ il hu0, .list_int _ _ il hu0⟩
      | str _ => cases q; obtain ⟨t, rfl⟩ := ru; simp only [eqN] at h; cases h; exact ⟨.list_str _ _ il hu0, .list_str _ _ il hu0, .list_str _ _ il hu0⟩
    | tup xs =>
      have rr := r
      obtain ⟨a, vs, rfl, h1, z, r1⟩ := r
      cases rv
      obtain ⟨its, rl, il⟩ := Inv.isTup I h1
      cases e with
      | tup ys =>
        have qq := q
        obtain ⟨a', ws, rfl, h2, z', q1⟩ := q
        cases ru
        obtain ⟨its', rl', il'⟩ := Inv.isTup I h2
        simp only [eqN] at h
        have fin : SeqAt.RcAt A s (.ref a) (.ref a') b ∧ SeqAt.RcNeAt A s (.ref a) (.ref a') (!b) := by
          have L1 : xs.length = its.length := r1.length.trans rl.length
          have L2' : ys.length = its'.length := q1.length.trans rl'.length
          cases h3 : allO (eqN n) xs ys with
          | none => rw [h3] at h; cases h
          | some c =>
            rw [h3] at h; cases h
            obtain ⟨k, k1, k2⟩ := allO_at ih h3 r1 rl q1 rl'
            have e1 : ((List.range (min its.toArray.size its'.toArray.size)).all k && its.toArray.size == its'.toArray.size) = (c && decide (xs.length = ys.length)) := by
              rw [← k2]
              simp only [List.size_toArray, L1, L2']
              rfl
            refine ⟨?_, ?_⟩
            · have := SeqAt.RcAt.tuples il il' hu0 (e := k) fun j h1 h2 => by simpa using k1 j (by simpa using h1) (by simpa using h2)
              rw [e1] at this; exact this
            · have := SeqAt.RcNeAt.tuples il il' hu0 (e := k) fun j h1 h2 => by simpa using k1 j (by simpa using h1) (by simpa using h2)
              rw [e1] at this; exact this
        refine ⟨?_, fin.1, fin.2⟩
        by_cases ha : a = a'
        · subst ha
          rw [eqN_same I (n + 1) _ _ _ b whole rr qq]
          exact .same _
        · exact .of_refs ha fin.1
      | lst ys =>
        obtain ⟨a', ws, rfl, h2, z', q1⟩ := q
        cases ru
        obtain ⟨its', rl', il'⟩ := Inv.isList I (SqL.of h2)
        simp only [eqN] at h; cases h
        exact ⟨.tuple_list il il' hu0, .tuple_list il il' hu0, .tuple_list il il' hu0⟩
      | dct _ => exact key h
      | scr _ => exact key h
      | non => cases q; cases ru; simp only [eqN] at h; cases h; exact ⟨.tuple_none il hu0, .tuple_none il hu0, .tuple_none il hu0⟩
      | bl _ => cases q; cases ru; simp only [eqN] at h; cases h; exact ⟨.tuple_bool _ il hu0, .tuple_bool _ il hu0, .tuple_bool _ il hu0⟩
      | int _ => cases q; obtain ⟨t, rfl⟩ := ru; simp only [eqN] at h; cases h; exact ⟨.tuple_int _ _ il hu0, .tuple_int _ _ il hu0, .tuple_int _ _ il hu0⟩
      | str _ => cases q; obtain ⟨t, rfl⟩ := ru; simp only [eqN] at h; cases h; exact ⟨.tuple_str _ _ il hu0, .tuple_str _ _ il hu0, .tuple_str _ _ il hu0⟩
    | dct _ => cases e <;> exact key h
    | scr ns =>
      cases e with
      | lst ys =>
        cases ys with
        | nil =>
          have rr := r
          have qq := q
          obtain ⟨a, rfl, h1⟩ := r
          cases rv
          obtain ⟨a', ws, rfl, h2, z', q1⟩ := q
          cases ru
          cases q1
          obtain ⟨its, rl, il⟩ := Inv.isList I h1
          obtain ⟨its', rl', il'⟩ := Inv.isList I (SqL.of h2)
          cases rl'
          simp only [eqN] at h; cases h
          have L1 : ns.length = its.length := by simpa using rl.length
          have fin : SeqAt.RcAt A s (.ref a) (.ref a') ns.isEmpty ∧ SeqAt.RcNeAt A s (.ref a) (.ref a') (!ns.isEmpty) := by
            cases ns with
            | nil =>
              have hs : its.toArray.size = ([] : List Value).toArray.size := by simp only [List.size_toArray]; rw [← L1]; rfl
              have e0 : (List.range its.toArray.size).all (fun _ => true) = true := by simp
              refine ⟨?_, ?_⟩
              · have := SeqAt.RcAt.lists il il' hs hu0 (e := fun _ => true) fun j _ h2 => absurd h2 (by simp)
                rw [e0] at this; exact this
              · have := SeqAt.RcNeAt.lists il il' hs hu0 (e := fun _ => true) fun j _ h2 => absurd h2 (by simp)
                rw [e0] at this; exact this
            | cons m ms =>
              have hs : (its.toArray.size != ([] : List Value).toArray.size) = true := by simp only [List.size_toArray, bne_iff_ne, ne_eq, ← L1]; simp
              exact ⟨.lists_lengths il il' hs hu0, .lists_lengths il il' hs hu0⟩
          refine ⟨?_, fin.1, fin.2⟩
          by_cases ha : a = a'
          · subst ha
            rw [eqN_same I (n + 1) _ _ _ _ whole rr qq]
            exact .same _
          · exact .of_refs ha fin.1
        | cons _ _ => exact key h
      | _ => exact key h
    | non =>
      cases e with
      | lst ys => obtain ⟨a', ws, rfl, h2, _⟩ := q; cases r; cases rv; cases ru; obtain ⟨_, _, il⟩ := Inv.isList I (SqL.of h2); simp only [eqN] at h; cases h; exact ⟨.none_list il hu0, .none_list il hu0, .none_list il hu0⟩
      | tup ys => obtain ⟨a', ws, rfl, h2, _⟩ := q; cases r; cases rv; cases ru; obtain ⟨_, _, il⟩ := Inv.isTup I h2; simp only [eqN] at h; cases h; exact ⟨.none_tuple il hu0, .none_tuple il hu0, .none_tuple il hu0⟩
      | _ => exact key h
    | bl _ =>
      cases e with
      | lst ys => obtain ⟨a', ws, rfl, h2, _⟩ := q; cases r; cases rv; cases ru; obtain ⟨_, _, il⟩ := Inv.isList I (SqL.of h2); simp only [eqN] at h; cases h; exact ⟨.bool_list _ il hu0, .bool_list _ il hu0, .bool_list _ il hu0⟩
      | tup ys => obtain ⟨a', ws, rfl, h2, _⟩ := q; cases r; cases rv; cases ru; obtain ⟨_, _, il⟩ := Inv.isTup I h2; simp only [eqN] at h; cases h; exact ⟨.bool_tuple _ il hu0, .bool_tuple _ il hu0, .bool_tuple _ il hu0⟩
      | _ => exact key h
    | int _ =>
      cases e with
      | lst ys => obtain ⟨a', ws, rfl, h2, _⟩ := q; cases r; obtain ⟨t, rfl⟩ := rv; cases ru; obtain ⟨_, _, il⟩ := Inv.isList I (SqL.of h2); simp only [eqN] at h; cases h; exact ⟨.int_list _ _ il hu0, .int_list _ _ il hu0, .int_list _ _ il hu0⟩
      | tup ys => obtain ⟨a', ws, rfl, h2, _⟩ := q; cases r; obtain ⟨t, rfl⟩ := rv; cases ru; obtain ⟨_, _, il⟩ := Inv.isTup I h2; simp only [eqN] at h; cases h; exact ⟨.int_tuple _ _ il hu0, .int_tuple _ _ il hu0, .int_tuple _ _ il hu0⟩
      | _ => exact key h
    | str _ =>
      cases e with
      | lst ys => obtain ⟨a', ws, rfl, h2, _⟩ := q; cases r; obtain ⟨t, rfl⟩ := rv; cases ru; obtain ⟨_, _, il⟩ := Inv.isList I (SqL.of h2); simp only [eqN] at h; cases h; exact ⟨.str_list _ _ il hu0, .str_list _ _ il hu0, .str_list _ _ il hu0⟩
      | tup ys => obtain ⟨a', ws, rfl, h2, _⟩ := q; cases r; obtain ⟨t, rfl⟩ := rv; cases ru; obtain ⟨_, _, il⟩ := Inv.isTup I h2; simp only [eqN] at h; cases h; exact ⟨.str_tuple _ _ il hu0, .str_tuple _ _ il hu0, .str_tuple _ _ il hu0⟩
      | _ => exact key h
def fB (f : D → D → Option Bool) : D → D → Option FD := fun a b => (f a b).map fun k => (.T, .bl k)
theorem fB_some {f : D → D → Option Bool} {a b : D} {r : FD} (h : fB f a b = some r) : ∃ k, f a b = some k ∧ r = (.T, .bl k) := by
  unfold fB at h
  cases e : f a b with
  | none => rw [e] at h; cases h
  | some k => rw [e] at h; cases h; exact ⟨k, rfl, rfl⟩
theorem op_eqV (hu : X.A.units + 64 < cLine) : OpR X (compareOp .Eq) (rV X.K (fB (eqN 32))) := fun pins s σ H x y v u Q I rx ry ⟨H0, a, b, r, hs, ra, rb, e, f⟩ => by
  obtain ⟨k, ek, rfl⟩ := fB_some e
  exact (eqN_at I 32 X.A a b x y v u k (by omega) ek (Rep.mono hs _ _ ra) rx (Rep.mono hs _ _ rb) ry).r _ _ _ _ ⟨.bl k, H, I, rfl, Fin.atom f hs ⟨rfl, rfl⟩⟩
theorem op_neV (hu : X.A.units + 64 < cLine) : OpR X (compareOp .NotEq) (rV X.K (fB fun a b => (eqN 32 a b).map (!·))) := fun pins s σ H x y v u Q I rx ry ⟨H0, a, b, r, hs, ra, rb, e, f⟩ => by
  obtain ⟨k, ek, rfl⟩ := fB_some e
  cases e2 : eqN 32 a b with
  | none => rw [e2] at ek; cases ek
  | some c =>
    rw [e2] at ek; cases ek
    exact (eqN_at I 32 X.A a b x y v u c (by omega) e2 (Rep.mono hs _ _ ra) rx (Rep.mono hs _ _ rb) ry).n _ _ _ _ ⟨.bl _, H, I, rfl, Fin.atom f hs ⟨rfl, rfl⟩⟩
end
end VL
end

section
set_option Elab.async false
set_option maxRecDepth 100000
set_option linter.all false
/-! The value layer, 4: operators, subscripts. -/
namespace VL
open PySem PySem.Spec PyProof.Rows L2

/-- a new object that holds what is shared -/
theorem Fin.newR {K : PySem.W.Frag} {H0 H : Hp} {d : D} {o : HO} {Q : VK} {p : Addr} (f : Fin K H0 H (.R, d) Q) (h : Same H0 H) (r : Root K H0 d o) (hp : H p = none) : Q (.ref p) (upd H p o) :=
  f (.ref p) _ H0 [p] (Ext.lay0 h hp o) ⟨p, o, rfl, rfl, upd_same, r⟩ ⟨by simp, fun b hb => by rw [List.mem_singleton.mp hb]; exact ⟨hp, h.free hp⟩⟩
theorem Fin.newT {K : PySem.W.Frag} {H0 H : Hp} {d : D} {o : HO} {Q : VK} {p : Addr} (f : Fin K H0 H (.T, d) Q) (h : Same H0 H) (r : Tree (upd H p o) d (.ref p) [p]) (hp : H p = none) : Q (.ref p) (upd H p o) :=
  f (.ref p) _ H0 [p] (Ext.lay0 h hp o) r ⟨by simp, fun b hb => by rw [List.mem_singleton.mp hb]; exact ⟨hp, h.free hp⟩⟩
theorem trees_atoms {H : Hp} {α : Type} {f : α → D} {g : α → V} (h : ∀ a, Tree H (f a) (g a) []) : ∀ xs : List α, Trees H (xs.map f) (xs.map g) []
  | [] => ⟨rfl, rfl⟩
  | x :: xs => ⟨g x, _, [], [], rfl, rfl, h x, trees_atoms h xs⟩
theorem trees_int {H : Hp} (xs : List Int) : Trees H (xs.map D.int) (xs.map V.int) [] := trees_atoms (f := D.int) (g := V.int) (fun _ => ⟨rfl, rfl⟩) xs
theorem trees_str {H : Hp} (xs : List Str) : Trees H (xs.map D.str) (xs.map V.str) [] := trees_atoms (f := D.str) (g := V.str) (fun _ => ⟨rfl, rfl⟩) xs
theorem tree_lst {H : Hp} {p : Addr} {ds : List D} {vs : List V} (t : Trees (upd H p (.lst vs)) ds vs []) (z : ds.length ≤ sizeLine) : Tree (upd H p (.lst vs)) (.lst ds) (.ref p) [p] := ⟨p, vs, [], rfl, rfl, upd_same, z, t⟩

def oT (d : D) : Option FD := some (.T, d)
def tooBig (n : Nat) : Bool := decide (sizeLine < n)

/-! ### arithmetic -/
def addD : D → D → Option FD
  | .int i, .int j => some (.T, .int (i + j))
  | .str a, .str b => if a.length + b.length ≤ sizeLine then some (.T, .str (a ++ b)) else none
  | .lst xs, .lst ys => if xs.length + ys.length ≤ sizeLine then some (.R, .lst (xs ++ ys)) else none
  | _, _ => none
def subD : D → D → Option FD
  | .int i, .int j => some (.T, .int (i - j))
  | _, _ => none
def repS (x : Str) (n : Nat) : Str := ⟨(List.replicate n x.cps).foldl (· ++ ·) #[]⟩
def mulD : D → D → Option FD
  | .int i, .int j => if (-(2 ^ 64) < i ∧ i < 2 ^ 64) ∨ (-(2 ^ 64) < j ∧ j < 2 ^ 64) then some (.T, .int (i * j)) else none
  | .str a, .int n => if 0 ≤ n ∧ n ≤ 1000 ∧ a.length ≤ 1000 then some (.T, .str (repS a n.toNat)) else none
  | _, _ => none
def divD : D → D → Option FD
  | .int i, .int j => if 0 < j ∧ j.natAbs.log2 < 9000 then some (.T, .int (i / j)) else none
  | _, _ => none
def modD : D → D → Option FD
  | .int i, .int j => if 0 < j then some (.T, .int (i % j)) else none
  | _, _ => none
def powD : D → D → Option FD
  | .int i, .int j => if 0 ≤ j ∧ j ≤ 1000000 ∧ i.natAbs < 2 ^ 64 then some (.T, .int (i ^ j.toNat)) else none
  | _, _ => none
def negD : D → Option FD
  | .int i => some (.T, .int (-i))
  | _ => none
theorem rep_int {K : PySem.W.Frag} {H : Hp} {i : Int} {v : V} (r : Rep K H (.int i) v) : v = .int i := r
theorem rep_str {K : PySem.W.Frag} {H : Hp} {i : Str} {v : V} (r : Rep K H (.str i) v) : v = .str i := r
theorem rep_bl {K : PySem.W.Frag} {H : Hp} {i : Bool} {v : V} (r : Rep K H (.bl i) v) : v = .bl i := r
section
variable {X : Cx}
theorem op_addV : OpR X (binaryOp .Add) (rV X.K addD) := fun pins s σ H x y v u Q I rx ry ⟨H0, a, b, r, hs, ra, rb, e, f⟩ => by
  unfold addD at e
  split at e
  · cases e; cases ra; cases rb
    exact op_add pins s σ H _ _ v u Q I rx ry ⟨_, _, rfl, rfl, Fin.atom f hs ⟨rfl, rfl⟩⟩
  · split at e
    · rename_i hz
      cases e; cases ra; cases rb
      exact op_add_str pins s σ H _ _ v u Q I rx ry ⟨_, _, rfl, rfl, hz, Fin.atom f hs ⟨rfl, rfl⟩⟩
    · cases e
  · split at e
    · rename_i hz
      cases e
      obtain ⟨p, vs, rfl, h1, z1, r1⟩ := ra
      obtain ⟨p', ws, rfl, h2, z2, r2⟩ := rb
      refine op_cat pins s σ H _ _ v u Q I rx ry ⟨_, _, _, _, rfl, rfl, hs _ _ h1, hs _ _ h2, by rw [← r1.length, ← r2.length]; exact hz, fun q hq => ?_⟩
      exact Fin.newR f hs ⟨_, rfl, by rw [List.length_append]; exact hz, r1.append r2⟩ hq
    · cases e
  · cases e
theorem op_subV : OpR X (binaryOp .Sub) (rV X.K subD) := fun pins s σ H x y v u Q I rx ry ⟨H0, a, b, r, hs, ra, rb, e, f⟩ => by
  unfold subD at e
  split at e
  · cases e; cases ra; cases rb
    exact op_sub pins s σ H _ _ v u Q I rx ry ⟨_, _, rfl, rfl, Fin.atom f hs ⟨rfl, rfl⟩⟩
  · cases e
theorem repS_length (x : Str) : ∀ (n : Nat) (acc : Array Nat), ((List.replicate n x.cps).foldl (· ++ ·) acc).size = acc.size + n * x.length
  | 0, acc => by simp
  | n + 1, acc => by
    rw [List.replicate_succ, List.foldl_cons, repS_length x n, Array.size_append]
    show acc.size + x.length + n * x.length = _
    rw [Nat.succ_mul]; omega
theorem op_mulV : OpR X (binaryOp .Mult) (rV X.K mulD) := fun pins s σ H x y v u Q I rx ry ⟨H0, a, b, r, hs, ra, rb, e, f⟩ => by
  unfold mulD at e
  split at e
  · split at e
    · rename_i hz
      cases e; cases ra; cases rb
      exact op_mul pins s σ H _ _ v u Q I rx ry ⟨_, _, rfl, rfl, hz, Fin.atom f hs ⟨rfl, rfl⟩⟩
    · cases e
  · split at e
    · rename_i z n hz
      obtain ⟨h0, h1, h2⟩ := hz
      cases e; cases ra; cases rb
      obtain ⟨t, rfl⟩ := rx
      obtain ⟨t', rfl⟩ := ry
      have fin : ∀ (y : Str) (tk : Nat) (t : Tok), y = repS z n.toNat → EP X pins σ Q (.str y t) { s with toks := tk } := fun y tk t e => ⟨.str y, H, I.tok _, ⟨_, rfl⟩, Fin.atom f hs (by rw [e]; exact ⟨rfl, rfl⟩)⟩
      have fin0 : ∀ (y : Str) (t : Tok), y = repS z n.toNat → EP X pins σ Q (.str y t) s := fun y t e => ⟨.str y, H, I, ⟨_, rfl⟩, Fin.atom f hs (by rw [e]; exact ⟨rfl, rfl⟩)⟩
      have bnd : (z.length : Int) * n ≤ 1000 * 1000 := Int.mul_le_mul (by omega) h1 h0 (by omega)
      refine PySem.P.mul_str (by
          have h3 : ¬ n ≥ 2 ^ 63 := by omega
          have h4 : ¬ n < -(2 ^ 63 : Int) := by omega
          rw [decide_eq_false h4, decide_eq_false h3]; rfl) (fun h3 _ => ?_) (fun h3 _ => ?_) ?_
      · have : (1000 : Int) ≤ (2 ^ 63 - 1) / n := (Int.le_ediv_iff_mul_le (by omega)).mpr (by omega)
        omega
      · show decide _ = false
        refine decide_eq_false ?_
        have : ((z.length * n.toNat : Nat) : Int) ≤ 1000 * 1000 := by
          rw [Int.natCast_mul, Int.toNat_of_nonneg h0]; exact bnd
        have e : sizeLine = 16777216 := by decide
        omega
      · split
        · rename_i h3
          have hn : n = 0 := by omega
          subst hn
          exact ⟨by decide, fin _ _ _ rfl⟩
        · split
          · rename_i h4
            simp only [Bool.or_eq_true, beq_iff_eq] at h4
            refine fin0 _ _ ?_
            rcases h4 with h4 | h4
            · subst h4
              obtain ⟨c⟩ := z
              show (⟨c⟩ : Str) = ⟨(List.replicate 1 c).foldl (· ++ ·) #[]⟩
              simp
            · have e1 : (repS z n.toNat).length = 0 := by
                show ((List.replicate n.toNat z.cps).foldl (· ++ ·) #[]).size = 0
                rw [repS_length, h4]; simp
              obtain ⟨c⟩ := z
              generalize hr : repS ⟨c⟩ n.toNat = r at e1
              obtain ⟨d⟩ := r
              have hc : c = #[] := Array.eq_empty_of_size_eq_zero h4
              have hd : d = #[] := Array.eq_empty_of_size_eq_zero e1
              rw [hc, hd]
          · refine ⟨?_, fin _ _ _ rfl⟩
            show ((List.replicate n.toNat z.cps).foldl (· ++ ·) #[]).size ≤ sizeLine
            rw [repS_length]
            have : ((z.length * n.toNat : Nat) : Int) ≤ 1000 * 1000 := by
              rw [Int.natCast_mul, Int.toNat_of_nonneg h0]; exact bnd
            have e : sizeLine = 16777216 := by decide
            rw [Nat.mul_comm, e]
            show 0 + _ ≤ _
            omega
    · cases e
  · cases e
theorem op_divV : OpR X (binaryOp .FloorDiv) (rV X.K divD) := fun pins s σ H x y v u Q I rx ry ⟨H0, a, b, r, hs, ra, rb, e, f⟩ => by
  unfold divD at e
  split at e
  · split at e
    · rename_i hz
      cases e; cases ra; cases rb
      exact op_fdivW pins s σ H _ _ v u Q I rx ry ⟨_, _, rfl, rfl, hz, Fin.atom f hs ⟨rfl, rfl⟩⟩
    · cases e
  · cases e
theorem op_modV : OpR X (binaryOp .Mod) (rV X.K modD) := fun pins s σ H x y v u Q I rx ry ⟨H0, a, b, r, hs, ra, rb, e, f⟩ => by
  unfold modD at e
  split at e
  · split at e
    · rename_i hz
      cases e; cases ra; cases rb
      exact op_mod pins s σ H _ _ v u Q I rx ry ⟨_, _, rfl, rfl, hz, Fin.atom f hs ⟨rfl, rfl⟩⟩
    · cases e
  · cases e
theorem op_powV : OpR X (binaryOp .Pow) (rV X.K powD) := fun pins s σ H x y v u Q I rx ry ⟨H0, a, b, r, hs, ra, rb, e, f⟩ => by
  unfold powD at e
  split at e
  · split at e
    · rename_i hz
      cases e; cases ra; cases rb
      exact op_pow pins s σ H _ _ v u Q I rx ry ⟨_, _, rfl, rfl, hz, Fin.atom f hs ⟨rfl, rfl⟩⟩
    · cases e
  · cases e
theorem ev_neg {W : WX} {a : Expr} {pos : Pos} {g : GE} (h : PE X a (tE (Md.of X) W g)) : PE X (.UnaryOp .USub a pos) (tE (Md.of X) W fun ρ => (g ρ).bind fun x => ofO (negD x.2)) :=
  (pe_un un_neg h).imp fun σ H Q q => one (f := fun d => ofO (negD d)) (Q := Q) q fun x H1 H01 a hs ra q => by
    cases a <;> first | exact (q : False).elim | skip
    cases ra
    exact ⟨_, rfl, Fin.atom (K := X.K) q hs ⟨rfl, rfl⟩⟩

/-! ### order -/
def ltD : D → D → Option Bool
  | .int i, .int j => some (decide (i < j))
  | .str a, .str b => some (decide (a.cps.toList < b.cps.toList))
  | .bl a, .bl b => some (decide (b2i a < b2i b))
  | _, _ => none
def gtD : D → D → Option Bool
  | .int i, .int j => some (decide (j < i))
  | .str a, .str b => some (decide (b.cps.toList < a.cps.toList))
  | .bl a, .bl b => some (decide (b2i a > b2i b))
  | _, _ => none
def leD : D → D → Option Bool
  | .int i, .int j => some (decide (i ≤ j))
  | _, _ => none
def geD : D → D → Option Bool
  | .int i, .int j => some (decide (j ≤ i))
  | _, _ => none
theorem op_ltV : OpR X (compareOp .Lt) (rV X.K (fB ltD)) := fun pins s σ H x y v u Q I rx ry ⟨H0, a, b, r, hs, ra, rb, e, f⟩ => by
  obtain ⟨k, e1, rfl⟩ := fB_some e
  unfold ltD at e1
  split at e1 <;> cases e1
  · cases ra; cases rb
    exact op_lt pins s σ H _ _ v u Q I rx ry ⟨_, _, rfl, rfl, Fin.atom f hs ⟨rfl, rfl⟩⟩
  · cases ra; cases rb
    exact op_lt_str pins s σ H _ _ v u Q I rx ry ⟨_, _, rfl, rfl, Fin.atom f hs ⟨rfl, rfl⟩⟩
  · cases ra; cases rb; cases rx; cases ry
    exact PyProof.Rows.lt_bool ⟨.bl _, H, I, rfl, Fin.atom f hs ⟨rfl, rfl⟩⟩
theorem op_gtV : OpR X (compareOp .Gt) (rV X.K (fB gtD)) := fun pins s σ H x y v u Q I rx ry ⟨H0, a, b, r, hs, ra, rb, e, f⟩ => by
  obtain ⟨k, e1, rfl⟩ := fB_some e
  unfold gtD at e1
  split at e1 <;> cases e1
  · cases ra; cases rb
    exact op_gt pins s σ H _ _ v u Q I rx ry ⟨_, _, rfl, rfl, Fin.atom f hs ⟨rfl, rfl⟩⟩
  · cases ra; cases rb
    exact op_gt_str pins s σ H _ _ v u Q I rx ry ⟨_, _, rfl, rfl, Fin.atom f hs ⟨rfl, rfl⟩⟩
  · cases ra; cases rb; cases rx; cases ry
    exact PyProof.Rows.gt_bool ⟨.bl _, H, I, rfl, Fin.atom f hs ⟨rfl, rfl⟩⟩
theorem op_leV : OpR X (compareOp .LtE) (rV X.K (fB leD)) := fun pins s σ H x y v u Q I rx ry ⟨H0, a, b, r, hs, ra, rb, e, f⟩ => by
  obtain ⟨k, e1, rfl⟩ := fB_some e
  unfold leD at e1
  split at e1 <;> cases e1
  cases ra; cases rb
  exact op_le pins s σ H _ _ v u Q I rx ry ⟨_, _, rfl, rfl, Fin.atom f hs ⟨rfl, rfl⟩⟩
theorem op_geV : OpR X (compareOp .GtE) (rV X.K (fB geD)) := fun pins s σ H x y v u Q I rx ry ⟨H0, a, b, r, hs, ra, rb, e, f⟩ => by
  obtain ⟨k, e1, rfl⟩ := fB_some e
  unfold geD at e1
  split at e1 <;> cases e1
  cases ra; cases rb
  exact op_ge pins s σ H _ _ v u Q I rx ry ⟨_, _, rfl, rfl, Fin.atom f hs ⟨rfl, rfl⟩⟩

/-! ### subscripts -/
def keyOf : D → Option Key
  | .int i => some (.inl i)
  | .str z => some (.inr z)
  | _ => none
theorem keyOf_rep {K : PySem.W.Frag} {H : Hp} {d : D} {k : Key} {v : V} (h : keyOf d = some k) (r : Rep K H d v) : v = kV k := by
  cases d <;> simp only [keyOf] at h <;> first | (cases h; done) | skip
  · cases h; cases r; rfl
  · cases h; cases r; rfl
def ixD : D → D → Option FD
  | .lst xs, .int i => (atI xs i).map sh
  | .tup xs, .int i => (atI xs i).map sh
  | .scr ns, .int i => (atI ns i).map fun n => (.T, .int n)
  | .str z, .int i => if z.length ≤ sizeLine then (atI z.cps.toList i).map fun c => (.T, .str ⟨#[c]⟩) else none
  | .dct kds, k => (keyOf k).bind fun k => (look kds k).map sh
  | _, _ => none
theorem Reps.atI {K : PySem.W.Frag} {H : Hp} {ds : List D} {vs : List V} {i : Int} {d : D} (r : Reps K H ds vs) (h : atI ds i = some d) : ∃ v, L2.atI vs i = some v ∧ Rep K H d v := by
  unfold L2.atI at h ⊢
  rw [← r.length]
  cases e : ixN ds.length i with
  | none => rw [e] at h; cases h
  | some j => rw [e] at h; exact r.get h
theorem ix_dictV (hu : X.A.units + 1 < cLine) : IxR X (fun x y H Q => ∃ a v, x = .ref a ∧ DGet H a y (some v) ∧ Q v H) := by
  intro value slice pins s σ H x y v u Q I rx ry h hs
  obtain ⟨a, v', rfl, g, q⟩ := h
  cases rx
  have hT := dict_typeIs I g
  unfold subscriptTail
  refine wpAny_bind ?_
  rw [getitemInPython_of_ne hT.not_modules]
  refine wpAny_bind (wpAny_specialOf hT PySem.F.slot_dict_getitem.lookup ?_)
  have fin : wpAny (model X.prog X.w) X.A (subscripted slice false (.ref a) u) (fun r s₃ => wpAny (model X.prog X.w) X.A (letTemporaryGo value (.ref a) r >>= fun _ => pure r) (EP X pins σ Q) X.xe s₃) X.xe s := by
    rw [hs]
    exact wpAny_operating (wpAny_mono (d_getItem hu I g ry fun w' s3 I3 rw' => (⟨v', H, I3, rw', q⟩ : EP X pins σ Q w' s3)) (fun r s₃ h₃ => wpAny_bind (wpAny_letTemporaryGo (wpAny_pure h₃))) fun _ _ x => x)
  first
    | exact wpAny_pure (wpAny_bind fin)
    | exact wpAny_bind (wpAny_pure (wpAny_bind fin))
    | exact wpAny_bind fin
theorem ix_V (hu : X.A.units + 64 < cLine) : IxR X (rV X.K ixD) := fun value slice pins s σ H x y v u Q I rx ry ⟨H0, a, b, r, hs, ra, rb, e, f⟩ hh => by
  unfold ixD at e
  split at e
  · obtain ⟨d, e1, rfl⟩ := Option.map_eq_some_iff.mp e
    obtain ⟨p, vs, rfl, h1, z1, r1⟩ := ra
    cases rb
    obtain ⟨w, e2, rw2⟩ := r1.atI e1
    exact ix_list value slice pins s σ H _ _ v u Q I rx ry ⟨_, _, _, _, rfl, rfl, SqL.of (hs _ _ h1), e2, Fin.here f hs rw2⟩ hh
  · obtain ⟨d, e1, rfl⟩ := Option.map_eq_some_iff.mp e
    obtain ⟨p, vs, rfl, h1, z1, r1⟩ := ra
    cases rb
    obtain ⟨w, e2, rw2⟩ := r1.atI e1
    exact ix_tup value slice pins s σ H _ _ v u Q I rx ry ⟨_, _, _, _, rfl, rfl, same_seqT hs h1, e2, Fin.here f hs rw2⟩ hh
  · obtain ⟨d, e1, rfl⟩ := Option.map_eq_some_iff.mp e
    obtain ⟨p, rfl, h1⟩ := ra
    cases rb
    refine ix_list value slice pins s σ H _ _ v u Q I rx ry ⟨_, _, _, .int d, rfl, rfl, hs.seq h1, ?_, Fin.atom f hs ⟨rfl, rfl⟩⟩ hh
    unfold L2.atI at e1 ⊢
    rw [List.length_map]
    cases e3 : ixN _ _ with
    | none => rw [e3] at e1; cases e1
    | some j =>
      rw [e3, Option.bind_some] at e1
      rw [Option.bind_some, List.getElem?_map, e1]; rfl
  · split at e
    · rename_i hz
      obtain ⟨d, e1, rfl⟩ := Option.map_eq_some_iff.mp e
      cases ra; cases rb
      exact ix_str value slice pins s σ H _ _ v u Q I rx ry ⟨_, _, _, rfl, rfl, hz, e1, Fin.atom f hs ⟨rfl, rfl⟩⟩ hh
    · cases e
  · obtain ⟨k, e1, e⟩ := Option.bind_eq_some_iff.mp e
    obtain ⟨d, e2, rfl⟩ := Option.map_eq_some_iff.mp e
    obtain ⟨p, kvs, rfl, h1, z1, r1⟩ := ra
    have ey := keyOf_rep e1 rb
    subst ey
    rcases r1.look k with ⟨e3, _⟩ | ⟨d', v', e3, e4, r2⟩
    · rw [e2] at e3; cases e3
    · rw [e2] at e3; cases e3
      exact ix_dictV (by omega) value slice pins s σ H _ _ v u Q I rx ry ⟨_, v', rfl, .inl ⟨kvs, k, same_rd hs h1, rfl, e4.symm⟩, Fin.here f hs r2⟩ hh
  · cases e
theorem ev_ix {W : WX} {a b : Expr} {pos : Pos} {ga gb : GE} (hu : X.A.units + 64 < cLine) (ha : PE X a (tE (Md.of X) W ga)) (hb : PE X b (tE (Md.of X) W gb)) (hs : PlainIx b) :
    PE X (.Subscript a b pos) (tE (Md.of X) W (g2 ga gb fun x y => ofO (ixD x.2 y.2))) := (pe_ix (ix_V hu) ha hb hs).imp fun σ H Q h => two (f := fun a b => ofO (ixD a b)) (Q := Q) h fun x y H1 H01 a b hs ra rb q => by
  have q : Out (Md.of X) W σ H01 H1 (ofO (ixD a b)) _ := q
  cases e : ixD a b with
  | none => rw [e] at q; exact q.elim
  | some r => rw [e] at q; exact ⟨H01, a, b, r, hs, ra, rb, e, q⟩
end
end VL
end

section
set_option Elab.async false
set_option maxRecDepth 100000
set_option linter.all false
/-! The value layer, 5: calls, built-ins. -/
namespace VL
open PySem PySem.Spec PyProof.Rows L2

def rVs (K : PySem.W.Frag) (f : List D → Option FD) : List V → Hp → VK → Prop := fun xs H Q => ∃ H0 ds r, Same H0 H ∧ Reps K H0 ds xs ∧ f ds = some r ∧ Fin K H0 H r Q
def gCall (k : List (Option D) → Res (List D)) (f : List D → Res FD) : GE := fun ρ => (k ρ).bind f

/-! ### what lists of atoms are -/
def atoms (ds : List D) : Bool := ds.all D.atom
mutual
theorem Rep.tree {K : PySem.W.Frag} {H H' : Hp} : ∀ {d : D} {v : V}, d.atom = true → Rep K H d v → Tree H' d v []
  | .non, _, _, r => ⟨r, rfl⟩
  | .bl _, _, _, r => ⟨r, rfl⟩
  | .int _, _, _, r => ⟨r, rfl⟩
  | .str _, _, _, r => ⟨r, rfl⟩
end
theorem Reps.trees {K : PySem.W.Frag} {H H' : Hp} : ∀ {ds : List D} {vs : List V}, atoms ds = true → Reps K H ds vs → Trees H' ds vs []
  | [], _, _, r => ⟨r, rfl⟩
  | d :: ds, _, h, ⟨v, t, e, s, q⟩ => by
    simp only [atoms, List.all_cons, Bool.and_eq_true] at h
    exact ⟨v, t, [], [], e, rfl, s.tree h.1, Reps.trees h.2 q⟩
def flL (ds : List D) : Fl := if atoms ds then .T else .R
/-- a new list, tuple of what is shared -/
theorem Fin.newLst {K : PySem.W.Frag} {H0 H : Hp} {ds : List D} {vs : List V} {Q : VK} {p : Addr} (f : Fin K H0 H (flL ds, .lst ds) Q) (h : Same H0 H) (r : Reps K H0 ds vs) (z : ds.length ≤ sizeLine) (hp : H p = none) : Q (.ref p) (upd H p (.lst vs)) := by
  unfold flL at f
  split at f
  · rename_i a
    exact f.newT h ⟨p, vs, [], rfl, rfl, upd_same, z, r.trees a⟩ hp
  · exact f.newR h ⟨vs, rfl, z, r⟩ hp
theorem Fin.newTup {K : PySem.W.Frag} {H0 H : Hp} {ds : List D} {vs : List V} {Q : VK} {p : Addr} (f : Fin K H0 H (flL ds, .tup ds) Q) (h : Same H0 H) (r : Reps K H0 ds vs) (z : ds.length ≤ sizeLine) (hp : H p = none) : Q (.ref p) (upd H p (.tup vs)) := by
  unfold flL at f
  split at f
  · rename_i a
    exact f.newT h ⟨p, vs, [], rfl, rfl, upd_same, z, r.trees a⟩ hp
  · exact f.newR h ⟨vs, rfl, z, r⟩ hp

/-! ### sorted -/
def leStr (a b : Str) : Bool := !decide (b.cps.toList < a.cps.toList)
def sortStr (ks : List Str) : List Str := ks.mergeSort leStr
def leInt (a b : Int) : Bool := decide (a ≤ b)
def sortInt (ks : List Int) : List Int := ks.mergeSort leInt
theorem ltCps_iff (a b : List Nat) : ltCps a b = decide (a < b) := by
  first
    | rfl
    | (induction a generalizing b with
       | nil => cases b <;> simp [ltCps]
       | cons x xs ih => cases b <;> simp [ltCps, ih, List.cons_lt_cons_iff]; rw [Bool.beq_eq_decide_eq])
theorem leStr_tot (a b : Str) : (leStr a b || leStr b a) = true := by
  unfold leStr
  by_cases h : b.cps.toList < a.cps.toList
  · have : ¬ a.cps.toList < b.cps.toList := fun q => List.lt_irrefl _ (List.lt_trans h q)
    simp [this]
  · simp [h]
theorem leStr_trans (a b c : Str) (h1 : leStr a b = true) (h2 : leStr b c = true) : leStr a c = true := by
  unfold leStr at *
  simp only [Bool.not_eq_true', decide_eq_false_iff_not] at *
  have h1' : a.cps.toList ≤ b.cps.toList := List.not_lt.mp h1
  have h2' : b.cps.toList ≤ c.cps.toList := List.not_lt.mp h2
  exact List.not_lt.mpr (List.le_trans h1' h2')
theorem leStr_anti (a b : Str) (h1 : leStr a b = true) (h2 : leStr b a = true) : a = b := by
  unfold leStr at *
  simp only [Bool.not_eq_true', decide_eq_false_iff_not] at *
  have e : a.cps.toList = b.cps.toList := List.le_antisymm (List.not_lt.mp h1) (List.not_lt.mp h2)
  obtain ⟨a⟩ := a
  obtain ⟨b⟩ := b
  have := Array.toList_inj.mp e
  simp only at this
  rw [this]
theorem rising_pair : ∀ {p : Str} {ys : List Str}, risingS p ys = true → (∀ y ∈ ys, leStr p y = true) ∧ ys.Pairwise (fun a b => leStr a b = true)
  | _, [], _ => ⟨by simp, .nil⟩
  | p, x :: r, h => by
    unfold risingS at h
    simp only [Bool.and_eq_true, Bool.not_eq_true'] at h
    obtain ⟨h1, h2⟩ := h
    have px : leStr p x = true := by
      unfold leStr
      rw [ltCps_iff] at h1
      rw [h1]; rfl
    obtain ⟨h3, h4⟩ := rising_pair h2
    refine ⟨fun y hy => ?_, .cons h3 h4⟩
    rcases List.mem_cons.mp hy with rfl | hy
    · exact px
    · exact leStr_trans _ _ _ px (h3 y hy)
theorem sortedS_pair {ys : List Str} (h : sortedS ys = true) : ys.Pairwise (fun a b => leStr a b = true) := by
  cases ys with
  | nil => exact .nil
  | cons x r => obtain ⟨h1, h2⟩ := rising_pair h; exact .cons h1 h2
theorem sortStr_of {ys ks : List Str} (p : ys.Perm ks) (s : sortedS ys = true) : ys = sortStr ks :=
  List.Perm.eq_of_pairwise (le := fun a b => leStr a b = true) (fun a b _ _ => leStr_anti a b) (sortedS_pair s) (List.pairwise_mergeSort leStr_trans leStr_tot ks) (p.trans (List.mergeSort_perm ks leStr).symm)
theorem sortInt_of {ys ks : List Int} (p : ys.Perm ks) (s : ys.Pairwise (fun a b => a ≤ b)) : ys = sortInt ks :=
  List.Perm.eq_of_pairwise (le := fun a b => leInt a b = true) (fun a b _ _ h1 h2 => by unfold leInt at *; simp at *; omega) (s.imp fun h => by unfold leInt; simpa using h)
    (List.pairwise_mergeSort (fun a b c h1 h2 => by unfold leInt at *; simp at *; omega) (fun a b => by unfold leInt; simp; omega) ks) (p.trans (List.mergeSort_perm ks leInt).symm)
def asInts : List D → Option (List Int)
  | [] => some []
  | .int i :: r => (asInts r).map (i :: ·)
  | _ => none
def asStrs : List D → Option (List Str)
  | [] => some []
  | .str i :: r => (asStrs r).map (i :: ·)
  | _ => none
def asBls : List D → Option (List Bool)
  | [] => some []
  | .bl i :: r => (asBls r).map (i :: ·)
  | _ => none
def keyInts : List Key → Option (List Int)
  | [] => some []
  | .inl i :: r => (keyInts r).map (i :: ·)
  | _ => none
def keyStrs : List Key → Option (List Str)
  | [] => some []
  | .inr i :: r => (keyStrs r).map (i :: ·)
  | _ => none
theorem asInts_eq : ∀ {ds : List D} {ns : List Int}, asInts ds = some ns → ds = ns.map D.int
  | [], _, h => by cases h; rfl
  | d :: ds, _, h => by
    cases d <;> simp only [asInts] at h <;> first | (cases h; done) | skip
    obtain ⟨a, h1, rfl⟩ := Option.map_eq_some_iff.mp h
    rw [asInts_eq h1]; rfl
theorem asStrs_eq : ∀ {ds : List D} {ns : List Str}, asStrs ds = some ns → ds = ns.map D.str
  | [], _, h => by cases h; rfl
  | d :: ds, _, h => by
    cases d <;> simp only [asStrs] at h <;> first | (cases h; done) | skip
    obtain ⟨a, h1, rfl⟩ := Option.map_eq_some_iff.mp h
    rw [asStrs_eq h1]; rfl
theorem asBls_eq : ∀ {ds : List D} {ns : List Bool}, asBls ds = some ns → ds = ns.map D.bl
  | [], _, h => by cases h; rfl
  | d :: ds, _, h => by
    cases d <;> simp only [asBls] at h <;> first | (cases h; done) | skip
    obtain ⟨a, h1, rfl⟩ := Option.map_eq_some_iff.mp h
    rw [asBls_eq h1]; rfl
theorem keyInts_eq : ∀ {ds : List Key} {ns : List Int}, keyInts ds = some ns → ds = ns.map Sum.inl
  | [], _, h => by cases h; rfl
  | d :: ds, _, h => by
    cases d <;> simp only [keyInts] at h <;> first | (cases h; done) | skip
    obtain ⟨a, h1, rfl⟩ := Option.map_eq_some_iff.mp h
    rw [keyInts_eq h1]; rfl
theorem keyStrs_eq : ∀ {ds : List Key} {ns : List Str}, keyStrs ds = some ns → ds = ns.map Sum.inr
  | [], _, h => by cases h; rfl
  | d :: ds, _, h => by
    cases d <;> simp only [keyStrs] at h <;> first | (cases h; done) | skip
    obtain ⟨a, h1, rfl⟩ := Option.map_eq_some_iff.mp h
    rw [keyStrs_eq h1]; rfl
theorem Reps.ints {K : PySem.W.Frag} {H : Hp} : ∀ {ns : List Int} {vs : List V}, Reps K H (ns.map D.int) vs → vs = ns.map V.int
  | [], _, r => r
  | n :: ns, _, ⟨v, t, e, s, q⟩ => by subst e; cases s; rw [Reps.ints q]; rfl
theorem Reps.strs {K : PySem.W.Frag} {H : Hp} : ∀ {ns : List Str} {vs : List V}, Reps K H (ns.map D.str) vs → vs = ns.map V.str
  | [], _, r => r
  | n :: ns, _, ⟨v, t, e, s, q⟩ => by subst e; cases s; rw [Reps.strs q]; rfl
theorem Reps.bls {K : PySem.W.Frag} {H : Hp} : ∀ {ns : List Bool} {vs : List V}, Reps K H (ns.map D.bl) vs → vs = ns.map V.bl
  | [], _, r => r
  | n :: ns, _, ⟨v, t, e, s, q⟩ => by subst e; cases s; rw [Reps.bls q]; rfl

/-! ### built-ins, by the data of their arguments -/
def lenD : List D → Option FD
  | [.lst xs] => oT (.int xs.length)
  | [.tup xs] => oT (.int xs.length)
  | [.dct xs] => oT (.int xs.length)
  | [.scr xs] => oT (.int xs.length)
  | [.str z] => if z.length ≤ sizeLine then oT (.int z.length) else none
  | _ => none
def intD : List D → Option FD
  | [.bl b] => oT (.int (if b then 1 else 0))
  | [.int i] => oT (.int i)
  | _ => none
def kD : Key → D
  | .inl i => .int i
  | .inr z => .str z
def listD : List D → Option FD
  | [.lst xs] => some (flL xs, .lst xs)
  | [.tup xs] => some (flL xs, .lst xs)
  | _ => none
def tupD : List D → Option FD
  | [.lst xs] => some (flL xs, .tup xs)
  | _ => none
def sortD : List D → Option FD
  | [.lst xs] => match asInts xs, asStrs xs with
    | some ns, _ => oT (.lst ((sortInt ns).map D.int))
    | none, some ss => if ss.length < 64 then oT (.lst ((sortStr ss).map D.str)) else none
    | none, none => none
  | [.dct kds] => match keyStrs (kds.map (·.1)), keyInts (kds.map (·.1)) with
    | some ss, _ => if ss.length < 64 then oT (.lst ((sortStr ss).map D.str)) else none
    | none, some ns => if ns.length < 64 then oT (.lst ((sortInt ns).map D.int)) else none
    | none, none => none
  | _ => none
def minD : List D → Option FD
  | [.int i, .int j] => oT (.int (if j < i then j else i))
  | _ => none
def maxD2 : List D → Option FD
  | [.int i, .int j] => oT (.int (if j > i then j else i))
  | _ => none
def sumD : List D → Option FD
  | [.lst xs] => (asInts xs).bind fun ns => oT (.int ns.sum)
  | _ => none
def allD : List D → Option FD
  | [.lst xs] => (asBls xs).bind fun bs => oT (.bl (bs.all id))
  | _ => none
def anyD : List D → Option FD
  | [.lst xs] => (asBls xs).bind fun bs => oT (.bl (bs.any id))
  | _ => none
section
variable {X : Cx} {W : WX}
theorem call_lenV : CallR X (.builtin "len") (rVs X.K lenD) := fun pins s σ H xs us Q I rx ⟨H0, ds, r, hs, rs, e, f⟩ => by
  unfold lenD at e
  split at e
  · cases e
    obtain ⟨v, t, rfl, ⟨a, vs, rfl, h, z, q⟩, rfl⟩ := rs
    exact call_len pins s σ H _ us Q I rx ⟨_, _, rfl, .inl ⟨_, SqL.of (hs _ _ h), rfl⟩, by rw [← q.length]; exact Fin.atom f hs ⟨rfl, rfl⟩⟩
  · cases e
    obtain ⟨v, t, rfl, ⟨a, vs, rfl, h, z, q⟩, rfl⟩ := rs
    exact call_len pins s σ H _ us Q I rx ⟨_, _, rfl, .inr ⟨_, same_seqT hs h, rfl⟩, by rw [← q.length]; exact Fin.atom f hs ⟨rfl, rfl⟩⟩
  · cases e
    obtain ⟨v, t, rfl, ⟨a, vs, rfl, h, z, q⟩, rfl⟩ := rs
    obtain ⟨u, rfl, rv⟩ := vals1 rx
    cases rv
    exact d_len I (same_rd hs h) fun t s' I' => ⟨.int vs.length, H, I', ⟨t, rfl⟩, by rw [← q.length]; exact Fin.atom f hs ⟨rfl, rfl⟩⟩
  · cases e
    obtain ⟨v, t, rfl, ⟨a, rfl, h⟩, rfl⟩ := rs
    exact call_len pins s σ H _ us Q I rx ⟨_, _, rfl, .inl ⟨_, hs.seq h, rfl⟩, by rw [List.length_map]; exact Fin.atom f hs ⟨rfl, rfl⟩⟩
  · split at e
    · rename_i hz
      cases e
      obtain ⟨v, t, rfl, rfl, rfl⟩ := rs
      exact call_len_str pins s σ H _ us Q I rx ⟨_, rfl, hz, Fin.atom f hs ⟨rfl, rfl⟩⟩
    · cases e
  · cases e
theorem call_intV : CallR X (.type "int") (rVs X.K intD) := fun pins s σ H xs us Q I rx ⟨H0, ds, r, hs, rs, e, f⟩ => by
  unfold intD at e
  split at e
  · cases e
    obtain ⟨v, t, rfl, rfl, rfl⟩ := rs
    exact call_int1 pins s σ H _ us Q I rx (.inr ⟨_, rfl, Fin.atom f hs ⟨rfl, rfl⟩⟩)
  · cases e
    obtain ⟨v, t, rfl, rfl, rfl⟩ := rs
    exact call_int1 pins s σ H _ us Q I rx (.inl ⟨_, rfl, Fin.atom f hs ⟨rfl, rfl⟩⟩)
  · cases e
theorem call_listV : CallR X (.type "list") (rVs X.K listD) := fun pins s σ H xs us Q I rx ⟨H0, ds, r, hs, rs, e, f⟩ => by
  unfold listD at e
  split at e
  · cases e
    obtain ⟨v, t, rfl, ⟨a, vs, rfl, h, z, q⟩, rfl⟩ := rs
    exact call_list_of pins s σ H _ us Q I rx ⟨_, _, rfl, .inl (SqL.of (hs _ _ h)), fun l hl => Fin.newLst f hs q z hl⟩
  · cases e
    obtain ⟨v, t, rfl, ⟨a, vs, rfl, h, z, q⟩, rfl⟩ := rs
    exact call_list_of pins s σ H _ us Q I rx ⟨_, _, rfl, .inr (same_seqT hs h), fun l hl => Fin.newLst f hs q z hl⟩
  · cases e
theorem call_tupV : CallR X (.type "tuple") (rVs X.K tupD) := fun pins s σ H xs us Q I rx ⟨H0, ds, r, hs, rs, e, f⟩ => by
  unfold tupD at e
  split at e
  · cases e
    obtain ⟨v, t, rfl, ⟨a, vs, rfl, h, z, q⟩, rfl⟩ := rs
    exact call_tuple_of pins s σ H _ us Q I rx ⟨_, _, rfl, .inl ⟨SqL.of (hs _ _ h), fun l hl => Fin.newTup f hs q z hl⟩⟩
  · cases e
theorem call_minV (hc : X.calm = true) : CallR X (.builtin "min") (rVs X.K minD) := fun pins s σ H xs us Q I rx ⟨H0, ds, r, hs, rs, e, f⟩ => by
  unfold minD at e
  split at e
  · cases e
    obtain ⟨v, t, rfl, rfl, v2, t2, rfl, rfl, rfl⟩ := rs
    exact call_min2 hc pins s σ H _ us Q I rx ⟨_, _, rfl, Fin.atom f hs ⟨rfl, rfl⟩⟩
  · cases e
theorem call_maxV2 (hc : X.calm = true) : CallR X (.builtin "max") (rVs X.K maxD2) := fun pins s σ H xs us Q I rx ⟨H0, ds, r, hs, rs, e, f⟩ => by
  unfold maxD2 at e
  split at e
  · cases e
    obtain ⟨v, t, rfl, rfl, v2, t2, rfl, rfl, rfl⟩ := rs
    exact call_max2 hc pins s σ H _ us Q I rx ⟨_, _, rfl, Fin.atom f hs ⟨rfl, rfl⟩⟩
  · cases e
theorem call_sumV (hc : X.calm = true) : CallR X (.builtin "sum") (rVs X.K sumD) := fun pins s σ H xs us Q I rx ⟨H0, ds, r, hs, rs, e, f⟩ => by
  unfold sumD at e
  split at e
  · obtain ⟨ns, e1, e⟩ := Option.bind_eq_some_iff.mp e
    cases e
    obtain ⟨v, t, rfl, ⟨a, vs, rfl, h, z, q⟩, rfl⟩ := rs
    rw [asInts_eq e1] at q
    rw [q.ints] at h
    exact cr_sum hc pins s σ H _ us Q I rx ⟨_, _, rfl, SqL.of (hs _ _ h), Fin.atom f hs ⟨rfl, rfl⟩⟩
  · cases e
theorem call_allV (hc : X.calm = true) : CallR X (.builtin "all") (rVs X.K allD) := fun pins s σ H xs us Q I rx ⟨H0, ds, r, hs, rs, e, f⟩ => by
  unfold allD at e
  split at e
  · obtain ⟨ns, e1, e⟩ := Option.bind_eq_some_iff.mp e
    cases e
    obtain ⟨v, t, rfl, ⟨a, vs, rfl, h, z, q⟩, rfl⟩ := rs
    rw [asBls_eq e1] at q
    rw [q.bls] at h
    exact cr_all hc pins s σ H _ us Q I rx ⟨_, _, rfl, SqL.of (hs _ _ h), Fin.atom f hs ⟨rfl, rfl⟩⟩
  · cases e
theorem call_anyV (hc : X.calm = true) : CallR X (.builtin "any") (rVs X.K anyD) := fun pins s σ H xs us Q I rx ⟨H0, ds, r, hs, rs, e, f⟩ => by
  unfold anyD at e
  split at e
  · obtain ⟨ns, e1, e⟩ := Option.bind_eq_some_iff.mp e
    cases e
    obtain ⟨v, t, rfl, ⟨a, vs, rfl, h, z, q⟩, rfl⟩ := rs
    rw [asBls_eq e1] at q
    rw [q.bls] at h
    exact cr_any hc pins s σ H _ us Q I rx ⟨_, _, rfl, SqL.of (hs _ _ h), Fin.atom f hs ⟨rfl, rfl⟩⟩
  · cases e
theorem newInts {K : PySem.W.Frag} {H0 H : Hp} {ns : List Int} {Q : VK} {p : Addr} (f : Fin K H0 H (.T, .lst (ns.map D.int)) Q) (h : Same H0 H) (z : ns.length ≤ sizeLine) (hp : H p = none) : Q (.ref p) (upd H p (.lst (ns.map V.int))) :=
  f.newT h (tree_lst (trees_int ns) (by rw [List.length_map]; exact z)) hp
theorem newStrs {K : PySem.W.Frag} {H0 H : Hp} {ns : List Str} {Q : VK} {p : Addr} (f : Fin K H0 H (.T, .lst (ns.map D.str)) Q) (h : Same H0 H) (z : ns.length ≤ sizeLine) (hp : H p = none) : Q (.ref p) (upd H p (.lst (ns.map V.str))) :=
  f.newT h (tree_lst (trees_str ns) (by rw [List.length_map]; exact z)) hp
theorem sortStr_length (ks : List Str) : (sortStr ks).length = ks.length := (List.mergeSort_perm ks leStr).length_eq
theorem sortInt_length (ks : List Int) : (sortInt ks).length = ks.length := (List.mergeSort_perm ks leInt).length_eq
theorem lt64 {n : Nat} (h : n < 64) : n ≤ sizeLine := Nat.le_of_lt (Nat.lt_of_lt_of_le h (by decide))
theorem call_sortV (hc : X.calm = true) : CallR X (.builtin "sorted") (rVs X.K sortD) := fun pins s σ H xs us Q I rx ⟨H0, ds, r, hs, rs, e, f⟩ => by
  unfold sortD at e
  split at e
  · rename_i xs
    obtain ⟨v, t, rfl, ⟨a, vs, rfl, h, z, q⟩, rfl⟩ := rs
    split at e
    · rename_i ns _ e1
      cases e
      rw [asInts_eq e1] at q
      rw [asInts_eq e1, List.length_map] at z
      rw [q.ints] at h
      exact cr_sortedI pins s σ H _ us Q I rx ⟨_, _, rfl, SqL.of (hs _ _ h), fun ns' p hp hr hn => by
        rw [sortInt_of hp hr]; exact newInts f hs (by rw [sortInt_length]; exact z) hn⟩
    · rename_i ss _ e1
      split at e
      · rename_i hz
        cases e
        rw [asStrs_eq e1] at q
        rw [q.strs] at h
        exact cr_sortedS pins s σ H _ us Q I rx ⟨_, _, rfl, SqL.of (hs _ _ h), hz, fun ns' p hp hr hn => by
          rw [sortStr_of hp hr]; exact newStrs f hs (by rw [sortStr_length]; exact lt64 hz) hn⟩
      · cases e
    · cases e
  · rename_i kds
    obtain ⟨v, t, rfl, ⟨a, vs, rfl, h, z, q⟩, rfl⟩ := rs
    split at e
    · rename_i _ _ ss e1
      split at e
      · rename_i hz
        cases e
        exact call_sortedD hc pins s σ H _ us Q I rx ⟨_, _, ss, rfl, same_rd hs h, by rw [← keyStrs_eq e1]; exact q.keys.symm, hz, fun ns' p hp hr hn => by
          rw [sortStr_of hp hr]; exact newStrs f hs (by rw [sortStr_length]; exact lt64 hz) hn⟩
      · cases e
    · rename_i ns _ e1
      split at e
      · rename_i hz
        cases e
        exact call_sortedDI hc pins s σ H _ us Q I rx ⟨_, _, ns, rfl, same_rd hs h, by rw [← keyInts_eq e1]; exact q.keys.symm, hz, fun ns' p hp hr hn => by
          rw [sortInt_of hp hr]; exact newInts f hs (by rw [sortInt_length]; exact lt64 hz) hn⟩
      · cases e
    · cases e
  · cases e

/-! ### their calls -/
theorem args {σ : L2.St} {H : Hp} {k : List (Option D) → Res (List D)} {f : List D → Res FD} {Q : VK} {R : List V → Hp → Prop} (h : tE (Md.of X) W (gCall k f) σ H Q)
    (c : ∀ vs H1 H01 ds, Same H01 H1 → Reps X.K H01 ds vs → Out (Md.of X) W σ H01 H1 (f ds) (fun r => Fin X.K H01 H1 r Q) → R vs H1) : tA (Md.of X) W k σ H R := by
  obtain ⟨H0, ρ, hs, hr, q⟩ := h
  exact ⟨H0, ρ, hs, hr, (Out.bind q).imp fun ds qd => fun vs H1 H01 e rs => c vs H1 H01 ds e.s1 rs (Out.after e qd fun r q => Fin.after e q)⟩
theorem args_o {σ : L2.St} {H : Hp} {k : List (Option D) → Res (List D)} {f : List D → Option FD} {Q : VK} (h : tE (Md.of X) W (gCall k fun ds => ofO (f ds)) σ H Q) : tA (Md.of X) W k σ H fun vs H1 => rVs X.K f vs H1 Q :=
  args h fun vs H1 H01 ds hs rs q => by
    cases e : f ds with
    | none => rw [e] at q; exact q.elim
    | some r => rw [e] at q; exact ⟨H01, ds, r, hs, rs, e, q⟩
theorem ev_callB {x : Str} {p pos : Pos} {e : Expr} {es : List Expr} {id : String} {f : List D → Option FD} {k : List (Option D) → Res (List D)} (hc : CallR X (.builtin id) (rVs X.K f)) (hg : Gl X x) (hm : X.mg x = none) (hv : bootBuiltins x = some (.builtin id)) (ha : PA X (e :: es) (tA (Md.of X) W k))
    (hn : x ≠ "__name__" := by decide) (hdb : (x == ("__debug__" : Str)) = false := by decide)
    (he : starEach (e :: es) X.env = (false, eval e X.env) :: starEach es X.env := by rfl) (hpl : (backTo pos (starEach es X.env)).any (·.1) = false := by rfl) :
    PE X (.Call (.Name x p) (e :: es) [] pos) (tE (Md.of X) W (gCall k fun ds => ofO (f ds))) := (pe_callB hc hg hm hv ha hn hdb he hpl).imp fun σ H Q q => args_o q
theorem ev_callTy {x : Str} {p pos : Pos} {e : Expr} {es : List Expr} {T : String} {f : List D → Option FD} {k : List (Option D) → Res (List D)} (hc : CallR X (.type T) (rVs X.K f)) (hg : Gl X x) (hm : X.mg x = none) (hv : bootBuiltins x = some (.type T)) (ha : PA X (e :: es) (tA (Md.of X) W k))
    (hn : x ≠ "__name__" := by decide) (hdb : (x == ("__debug__" : Str)) = false := by decide)
    (he : starEach (e :: es) X.env = (false, eval e X.env) :: starEach es X.env := by rfl) (hpl : (backTo pos (starEach es X.env)).any (·.1) = false := by rfl) :
    PE X (.Call (.Name x p) (e :: es) [] pos) (tE (Md.of X) W (gCall k fun ds => ofO (f ds))) := (pe_callTy hc hg hm hv ha hn hdb he hpl).imp fun σ H Q q => args_o q

/-! ### isinstance -/
def tyN : D → String
  | .non => "NoneType"
  | .bl _ => "bool"
  | .int _ => "int"
  | .str _ => "str"
  | .lst _ => "list"
  | .tup _ => "tuple"
  | .dct _ => "dict"
  | .scr _ => "list"
def isT (T : String) (d : D) : Bool := (kitB (tyN d) T).getD false
theorem rep_ty {K : PySem.W.Frag} {H : Hp} : ∀ {d : D} {v : V}, Rep K H d v → TyX K H v (.type (tyN d))
  | .non, _, r => by cases r; exact .base .non
  | .bl b, _, r => by cases r; exact .base (.bl b)
  | .int i, _, r => by cases r; exact .base (.int i)
  | .str z, _, r => by cases r; exact .base (.str z)
  | .lst _, _, ⟨a, vs, e, h, _⟩ => by subst e; exact .base (.lst h)
  | .tup _, _, ⟨a, vs, e, h, _⟩ => by
    subst e
    rcases h with (h | ⟨o, h⟩) | ⟨o, _, _, h, c, _⟩
    · exact .base (.tup h)
    · exact .fTuple h
    · exact .kTuple h c
  | .dct _, _, ⟨a, vs, e, h, _⟩ => by
    subst e
    rcases h with h | ⟨o, h⟩
    · exact .base (.dK h)
    · exact .fDict h
  | .scr _, _, ⟨a, e, h⟩ => by
    subst e
    rcases h with (h | ⟨o, h⟩) | ⟨o, _, _, h, c, _⟩
    · exact .base (.lst h)
    · exact .base (.frz h)
    · exact .kList h c
def kits (T : String) : Bool := ["NoneType", "bool", "int", "str", "list", "tuple", "dict"].all fun t => (kitB t T).isSome
theorem kits_at {T : String} (h : kits T = true) (d : D) : kitB (tyN d) T = some (isT T d) := by
  have : (kitB (tyN d) T).isSome = true := by
    simp only [kits, List.all_cons, List.all_nil, Bool.and_true, Bool.and_eq_true] at h
    obtain ⟨h1, h2, h3, h4, h5, h6, h7⟩ := h
    cases d <;> assumption
  unfold isT
  obtain ⟨b, e⟩ := Option.isSome_iff_exists.mp this
  rw [e]; rfl
def gIsi (T : String) (g : GE) : GE := fun ρ => (g ρ).bind fun x => .ok (.T, .bl (isT T x.2))
theorem ev_isi {p p2 pos : Pos} {e : Expr} {y : Str} {T : String} {g : GE} (hg : Gl X "isinstance") (hm : X.mg "isinstance" = none) (hgT : Gl X y) (hmT : X.mg y = none) (hvT : bootBuiltins y = some (.type T)) (k : kits T = true) (he : PE X e (tE (Md.of X) W g))
    (hs : starEach [e, .Name y p2] X.env = (false, eval e X.env) :: starEach [.Name y p2] X.env := by rfl) (hnT : y ≠ "__name__" := by decide) (hdT : (y == ("__debug__" : Str)) = false := by decide) :
    PE X (.Call (.Name "isinstance" p) [e, .Name y p2] [] pos) (tE (Md.of X) W (gIsi T g)) :=
  (pe_callB call_isi hg hm (by decide +kernel) (pa_cons he (pa_cons (pe_bltn (v := .ty T) hgT hmT hvT rfl hnT hdT) pa_nil) hs) (by decide) (by decide) hs).imp fun σ H Q q => by
    show tE _ _ g σ H fun x H1 => rIsi X.K [x, .ty T] H1 Q
    exact one (f := fun d => .ok (.T, .bl (isT T d))) q fun x H1 H01 a hs ra q =>
      ⟨x, .ty T, _, _, _, rfl, .ty T, rep_ty (Rep.mono hs _ _ ra), kit_ty (kits_at k a), Fin.atom (K := X.K) q hs ⟨rfl, rfl⟩⟩

/-! ### calls of defs -/
/-- what a def promises: its outcome is m's -/
def spD (M : Md) (n : Nat) (m : List D → Res FD) : Sp := fun vs H Q E => ∃ H0 ds, Same H0 H ∧ Reps M.K H0 ds vs ∧ ds.length = n ∧ Out M (fun c d _ H => E c d H) [] H0 H (m ds) fun x => Fin M.K H0 H x Q
theorem spD_len {M : Md} {n : Nat} {m : List D → Res FD} {vs : List V} {H : Hp} {Q : VK} {E : XK} (h : spD M n m vs H Q E) : vs.length = n := by
  obtain ⟨H0, ds, _, r, e, _⟩ := h
  rw [← r.length, e]
theorem ev_call {k n : Nat} {f : Addr} {fd : FuncData} {ps : List Str} {m : List D → Res FD} {x : Str} {p pos : Pos} {e : Expr} {es : List Expr} {g : List (Option D) → Res (List D)}
    (F : FnOk X.prog X.w X.K X.mg X.base (CX X.prog X.w) k f fd ps (spD (Md.of X) n m)) (hr : Room k X.A) (hg : Gl X x) (hm : X.mg x = some (.ref f)) (hk : PySem.W.keepIn X.K (.ref f) = true) (hb : Binds X.K fd ps []) (tk : Takes X W)
    (hl : (e :: es).length = n) (ha : PA X (e :: es) (tA (Md.of X) W g)) (hln : ∀ ρ ds, g ρ = .ok ds → ds.length = (e :: es).length) (hdb : (x == ("__debug__" : Str)) = false := by decide)
    (he : starEach (e :: es) X.env = (false, eval e X.env) :: starEach es X.env := by rfl) (hpl : (backTo pos (starEach es X.env)).any (·.1) = false := by rfl) :
    PE X (.Call (.Name x p) (e :: es) [] pos) (tE (Md.of X) W (gCall g m)) := (pe_callS F hr hg hm hk hb (passAt tk) ha hdb he hpl).imp fun σ H Q ⟨H0, ρ, hs, hr, q⟩ => by
  refine ⟨H0, ρ, hs, hr, ?_⟩
  have q : Out (Md.of X) W σ H0 H ((g ρ).bind m) _ := q
  cases e : g ρ with
  | bad => rw [e] at q; exact q.elim
  | xc c fs => rw [e] at q; exact q
  | ok ds =>
    rw [e] at q
    refine fun vs H1 H01 ex rs => ?_
    refine ⟨H01, ds, ex.s1, rs, (hln ρ ds e).trans hl, ?_⟩
    have q : Out (Md.of X) W σ H0 H (m ds) _ := q
    cases e2 : m ds with
    | bad => rw [e2] at q; exact q.elim
    | ok r => rw [e2] at q; exact Fin.after ex q
    | xc c fs => rw [e2] at q; exact fun C d H' H0' hmC e' xf => q C d H' H0' hmC (ex.trans e') xf
end
theorem gNil_len : ∀ ρ ds, gNil ρ = .ok ds → ds.length = 0 := fun ρ ds h => by cases h; rfl
theorem gCons_len {g : GE} {k : List (Option D) → Res (List D)} {n : Nat} (h : ∀ ρ ds, k ρ = .ok ds → ds.length = n) : ∀ ρ ds, gCons g k ρ = .ok ds → ds.length = n + 1 := fun ρ ds e => by
  unfold gCons at e
  cases e1 : g ρ with
  | bad => rw [e1] at e; cases e
  | xc c fs => rw [e1] at e; cases e
  | ok x =>
    rw [e1, Res.bind_ok] at e
    cases e2 : k ρ with
    | bad => rw [e2] at e; cases e
    | xc c fs => rw [e2] at e; cases e
    | ok xs => rw [e2] at e; cases e; simp [h ρ xs e2]
end VL
end

section
set_option Elab.async false
set_option maxRecDepth 100000
set_option linter.all false
/-! The value layer, 6: the slots of a def, statements. -/
namespace VL
open PySem PySem.Spec PyProof.Rows L2

abbrev DE := List (Option FD)
/-- the grounds: what must stay; the def's entry, a loop's start .. -/
abbrev Bs := List (Hp × Hp)
/-- fresh over all grounds and H0 -/
def FrB (B : Bs) (H0 : Hp) (F : List Addr) : Prop := F.Nodup ∧ ∀ p ∈ F, (∀ b ∈ B, b.2 p = none) ∧ H0 p = none
theorem FrB.nil {B : Bs} {H0 : Hp} : FrB B H0 [] := ⟨List.nodup_nil, by simp⟩
/-- the slots hold ρ: what is shared stands in H0, what is owned at F -/
structure EnvAt (K : PySem.W.Frag) (B : Bs) (σ : L2.St) (ρ : DE) (H H0 : Hp) (F : Nat → List Addr) : Prop where
  s0 : Same H0 H
  ext : ∀ b ∈ B, Ext b.1 b.2 H0 H
  sl : ∀ i x, ρ[i]? = some (some x) → ∃ v, σ[i]? = some (some v) ∧ Sh K H H0 x v (F i)
  fr : ∀ i, FrB B H0 (F i)
  th : ∀ i p, p ∈ F i → H p ≠ none
  dj : ∀ i j, i ≠ j → ∀ p ∈ F i, p ∉ F j
  len : ρ.length = σ.length
def EnvOk (K : PySem.W.Frag) (B : Bs) (σ : L2.St) (ρ : DE) (H : Hp) : Prop := ∃ H0 F, EnvAt K B σ ρ H H0 F

def viewF (vs : List Nat) : Nat → DE → List (Option D)
  | _, [] => []
  | i, none :: r => none :: viewF vs (i + 1) r
  | i, some (fl, d) :: r => (if fl = .S ∨ vs.contains i = true then some d else none) :: viewF vs (i + 1) r
def leakF (vs : List Nat) : Nat → DE → DE
  | _, [] => []
  | i, none :: r => none :: leakF vs (i + 1) r
  | i, some (fl, d) :: r => (if vs.contains i = true then some (sh d) else some (fl, d)) :: leakF vs (i + 1) r
theorem viewF_get {vs : List Nat} : ∀ {ρ : DE} {k i : Nat} {d : D}, (viewF vs k ρ)[i]? = some (some d) → ∃ fl, ρ[i]? = some (some (fl, d)) ∧ (fl = .S ∨ vs.contains (k + i) = true)
  | [], _, _, _, h => by simp [viewF] at h
  | none :: r, k, 0, _, h => by simp [viewF] at h
  | none :: r, k, i + 1, d, h => by
    obtain ⟨fl, h1, h2⟩ := viewF_get (ρ := r) (k := k + 1) (i := i) (d := d) (by simpa [viewF] using h)
    exact ⟨fl, by simpa using h1, by rw [show k + (i + 1) = k + 1 + i by omega]; exact h2⟩
  | some (fl, x) :: r, k, 0, d, h => by
    simp only [viewF, List.getElem?_cons_zero, Option.some.injEq] at h
    split at h
    · rename_i hc
      cases h
      exact ⟨fl, rfl, hc⟩
    · cases h
  | some (fl, x) :: r, k, i + 1, d, h => by
    obtain ⟨fl, h1, h2⟩ := viewF_get (ρ := r) (k := k + 1) (i := i) (d := d) (by simpa [viewF] using h)
    exact ⟨fl, by simpa using h1, by rw [show k + (i + 1) = k + 1 + i by omega]; exact h2⟩
theorem leakF_get {vs : List Nat} : ∀ {ρ : DE} {k i : Nat} {x : FD}, (leakF vs k ρ)[i]? = some (some x) → ∃ y, ρ[i]? = some (some y) ∧ ((vs.contains (k + i) = true ∧ x = sh y.2) ∨ (vs.contains (k + i) = false ∧ x = y))
  | [], _, _, _, h => by simp [leakF] at h
  | none :: r, k, 0, _, h => by simp [leakF] at h
  | none :: r, k, i + 1, d, h => by
    obtain ⟨fl, h1, h2⟩ := leakF_get (ρ := r) (k := k + 1) (i := i) (x := d) (by simpa [leakF] using h)
    exact ⟨fl, by simpa using h1, by rw [show k + (i + 1) = k + 1 + i by omega]; exact h2⟩
  | some (fl, y) :: r, k, 0, d, h => by
    simp only [leakF, List.getElem?_cons_zero, Option.some.injEq] at h
    split at h
    · rename_i hc
      cases h
      exact ⟨(fl, y), rfl, .inl ⟨hc, rfl⟩⟩
    · rename_i hc
      cases h
      exact ⟨_, rfl, .inr ⟨by simpa using hc, rfl⟩⟩
  | some (fl, y) :: r, k, i + 1, d, h => by
    obtain ⟨fl, h1, h2⟩ := leakF_get (ρ := r) (k := k + 1) (i := i) (x := d) (by simpa [leakF] using h)
    exact ⟨fl, by simpa using h1, by rw [show k + (i + 1) = k + 1 + i by omega]; exact h2⟩
theorem viewF_length (vs : List Nat) : ∀ (ρ : DE) (k : Nat), (viewF vs k ρ).length = ρ.length
  | [], _ => rfl
  | none :: r, k => by simp [viewF, viewF_length vs r]
  | some (fl, d) :: r, k => by simp [viewF, viewF_length vs r]
theorem leakF_length (vs : List Nat) : ∀ (ρ : DE) (k : Nat), (leakF vs k ρ).length = ρ.length
  | [], _ => rfl
  | none :: r, k => by simp [leakF, leakF_length vs r]
  | some (fl, d) :: r, k => by simp [leakF, leakF_length vs r]

section
variable {K : PySem.W.Frag} {B : Bs} {H H0 : Hp} {σ : L2.St} {ρ : DE} {F : Nat → List Addr}
theorem EnvAt.free (e : EnvAt K B σ ρ H H0 F) {p : Addr} (h : H p = none) : ∀ b ∈ B, b.2 p = none := fun b hb => (e.ext b hb).s.free h
/-- H0 and what the slots vs own -/
theorem EnvAt.viewExt (e : EnvAt K B σ ρ H H0 F) (vs : List Nat) : ∀ b ∈ B, Ext b.1 b.2 (addF H0 H (vs.flatMap F)) H := fun b hB => by
  have z : ∀ p ∈ vs.flatMap F, (∀ b ∈ B, b.2 p = none) ∧ H0 p = none := fun p hp => by
    obtain ⟨i, _, h⟩ := List.mem_flatMap.mp hp
    exact (e.fr i).2 p h
  exact ⟨(e.ext b hB).s0.trans (addF_same0 fun p hp => (z p hp).2), addF_same e.s0, (e.ext b hB).s, fun p h1 h2 => by
    by_cases hb : p ∈ vs.flatMap F
    · exact (z p hb).1 b hB
    · rw [addF_out hb] at h2; exact (e.ext b hB).new p h1 h2⟩
theorem EnvAt.viewS (e : EnvAt K B σ ρ H H0 F) (vs : List Nat) : Same (addF H0 H (vs.flatMap F)) H := addF_same e.s0
theorem EnvAt.viewSame (e : EnvAt K B σ ρ H H0 F) (vs : List Nat) : Same H0 (addF H0 H (vs.flatMap F)) := addF_same0 fun p hp => by
  obtain ⟨i, _, h⟩ := List.mem_flatMap.mp hp
  exact ((e.fr i).2 p h).2
theorem EnvAt.repAt (e : EnvAt K B σ ρ H H0 F) {vs : List Nat} {i : Nat} {x : FD} {v : V} (s : Sh K H H0 x v (F i)) (h : x.1 = .S ∨ i ∈ vs) : Rep K (addF H0 H (vs.flatMap F)) x.2 v := by
  rcases h with h | h
  · obtain ⟨fl, d⟩ := x
    obtain rfl : fl = .S := h
    exact Rep.mono (e.viewSame vs) _ _ s.2
  · refine Rep.mono (fun b o eb => ?_) _ _ (s.rep fun p hp => ((e.fr i).2 p hp).2)
    by_cases hb : b ∈ F i
    · rw [addF_in hb] at eb
      rw [addF_in (List.mem_flatMap.mpr ⟨i, h, hb⟩)]; exact eb
    · rw [addF_out hb] at eb
      exact e.viewSame vs b o eb
theorem EnvAt.view (e : EnvAt K B σ ρ H H0 F) (vs : List Nat) : RdE K σ (viewF vs 0 ρ) (addF H0 H (vs.flatMap F)) := ⟨by rw [viewF_length]; exact e.len, fun i d h => by
  obtain ⟨fl, h1, h2⟩ := viewF_get h
  obtain ⟨v, h3, h4⟩ := e.sl i _ h1
  rw [Nat.zero_add] at h2
  exact ⟨v, h3, e.repAt h4 (h2.imp id fun q => by simpa using q)⟩⟩
/-- behind an expression: nothing is let go -/
theorem EnvAt.keep (e : EnvAt K B σ ρ H H0 F) {H' : Hp} (h : Same H H') : EnvAt K B σ ρ H' H0 F :=
  ⟨e.s0.trans h, fun b hb => ⟨(e.ext b hb).s0, e.s0.trans h, (e.ext b hb).s.trans h, (e.ext b hb).new⟩, fun i x hx => by
    obtain ⟨v, h1, h2⟩ := e.sl i x hx
    exact ⟨v, h1, h2.mono (Same.refl _) fun p _ o q => h p o q⟩, e.fr, fun i p hp => by
    cases q : H p with
    | none => exact absurd q (e.th i p hp)
    | some o => rw [h p o q]; simp, e.dj, e.len⟩
/-- .. the slots vs are let go -/
theorem EnvAt.leak (e : EnvAt K B σ ρ H H0 F) (vs : List Nat) {H' H0' : Hp} (x : Ext (addF H0 H (vs.flatMap F)) H H0' H') : EnvAt K B σ (leakF vs 0 ρ) H' H0' (fun i => if i ∈ vs then [] else F i) := by
  have k := e.keep x.s
  have nf : ∀ i p, i ∉ vs → p ∈ F i → H0' p = none := fun i p hi hp => by
    cases q : H0' p with
    | none => rfl
    | some o =>
      have hn : p ∉ vs.flatMap F := fun h => by
        obtain ⟨j, hj, hpj⟩ := List.mem_flatMap.mp h
        exact e.dj i j (fun z => hi (z ▸ hj)) p hp hpj
      have := x.new p (by rw [addF_out hn]; exact ((e.fr i).2 p hp).2) (by rw [q]; simp)
      exact absurd this (e.th i p hp)
  refine ⟨x.s1, fun b hb => (e.viewExt vs b hb).trans x, fun i y hy => ?_, fun i => ?_, fun i p hp => ?_, fun i j hij p hp => ?_, by rw [leakF_length]; exact e.len⟩
  · obtain ⟨z, h1, h2⟩ := leakF_get hy
    rw [Nat.zero_add] at h2
    obtain ⟨v, h3, h4⟩ := e.sl i z h1
    refine ⟨v, h3, ?_⟩
    rcases h2 with ⟨hc, rfl⟩ | ⟨hc, rfl⟩
    · have hi : i ∈ vs := by simpa using hc
      simp only [if_pos hi]
      exact sh_ok (Rep.mono x.s0 _ _ (e.repAt h4 (.inr hi)))
    · have hi : i ∉ vs := by simpa using hc
      simp only [if_neg hi]
      exact h4.mono ((e.viewSame vs).trans x.s0) fun p _ o q => x.s p o q
  · by_cases hi : i ∈ vs
    · simp only [if_pos hi]; exact FrB.nil
    · simp only [if_neg hi]
      exact ⟨(e.fr i).1, fun p hp => ⟨((e.fr i).2 p hp).1, nf i p hi hp⟩⟩
  · by_cases hi : i ∈ vs
    · simp only [if_pos hi] at hp; exact absurd hp (by simp)
    · simp only [if_neg hi] at hp; exact k.th i p hp
  · by_cases hi : i ∈ vs
    · simp only [if_pos hi] at hp; exact absurd hp (by simp)
    · simp only [if_neg hi] at hp
      by_cases hj : j ∈ vs
      · simp only [if_pos hj]; simp
      · simp only [if_neg hj]; exact e.dj i j hij p hp
/-- a slot is written -/
theorem EnvAt.set (e : EnvAt K B σ ρ H H0 F) {i : Nat} {x : FD} {v : V} {G : List Addr} (s : Sh K H H0 x v G) (f : FrB B H0 G) (d : ∀ j, j ≠ i → ∀ p ∈ G, p ∉ F j) :
    EnvAt K B (σ.set i (some v)) (ρ.set i (some x)) H H0 (fun j => if j = i then G else F j) := by
  refine ⟨e.s0, e.ext, fun j y hy => ?_, fun j => ?_, fun j p hp => ?_, fun j k hjk p hp => ?_, by simp [e.len]⟩
  · by_cases hj : j = i
    · subst hj
      have hl : j < ρ.length := by
        by_cases hl : j < ρ.length
        · exact hl
        · rw [List.getElem?_eq_none (by simpa using hl)] at hy; cases hy
      rw [List.getElem?_set_self hl] at hy
      cases hy
      simp only [if_pos]
      exact ⟨v, List.getElem?_set_self (by rw [← e.len]; exact hl), s⟩
    · rw [List.getElem?_set_ne (Ne.symm hj)] at hy
      rw [List.getElem?_set_ne (Ne.symm hj)]
      simp only [if_neg hj]
      exact e.sl j y hy
  · by_cases hj : j = i
    · simp only [if_pos hj]; exact f
    · simp only [if_neg hj]; exact e.fr j
  · by_cases hj : j = i
    · simp only [if_pos hj] at hp; exact s.there p hp
    · simp only [if_neg hj] at hp; exact e.th j p hp
  · by_cases hj : j = i
    · simp only [if_pos hj] at hp
      by_cases hk : k = i
      · exact absurd (hj.trans hk.symm) hjk
      · simp only [if_neg hk]; exact d k hk p hp
    · simp only [if_neg hj] at hp
      by_cases hk : k = i
      · simp only [if_pos hk]
        exact fun h => d j hj p h hp
      · simp only [if_neg hk]; exact e.dj j k hjk p hp
theorem EnvAt.unset (e : EnvAt K B σ ρ H H0 F) (i : Nat) : EnvAt K B (σ.set i none) (ρ.set i none) H H0 F :=
  ⟨e.s0, e.ext, fun j y hy => by
    by_cases hj : j = i
    · subst hj
      by_cases hl : j < ρ.length
      · rw [List.getElem?_set_self hl] at hy; cases hy
      · rw [List.getElem?_eq_none (by simpa using hl)] at hy; cases hy
    · rw [List.getElem?_set_ne (Ne.symm hj)] at hy
      rw [List.getElem?_set_ne (Ne.symm hj)]
      exact e.sl j y hy, e.fr, e.th, e.dj, by simp [e.len]⟩
/-- the value of an expression goes to a slot: a fresh tree lets nothing go -/
theorem EnvAt.bindT (e : EnvAt K B σ ρ H H0 F) {vs : List Nat} {i : Nat} {d : D} {v : V} {G : List Addr} {H' H0' : Hp} (x : Ext (addF H0 H (vs.flatMap F)) H H0' H') (s : Sh K H' H0' (.T, d) v G) (f : FrF H H0' G) :
    EnvAt K B (σ.set i (some v)) (ρ.set i (some (.T, d))) H' H0 (fun j => if j = i then G else F j) := by
  refine (e.keep x.s).set (x := (.T, d)) s ⟨f.1, fun p hp => ⟨e.free (f.2 p hp).1, e.s0.free (f.2 p hp).1⟩⟩ fun j _ p hp h => ?_
  exact e.th j p h (f.2 p hp).1
theorem EnvAt.bindS (e : EnvAt K B σ ρ H H0 F) {vs : List Nat} {i : Nat} {x : FD} {v : V} {G : List Addr} {H' H0' : Hp} (y : Ext (addF H0 H (vs.flatMap F)) H H0' H') (s : Sh K H' H0' x v G) (f : FrF H H0' G) :
    EnvAt K B (σ.set i (some v)) ((leakF vs 0 ρ).set i (some x)) H' H0' (fun j => if j = i then G else if j ∈ vs then [] else F j) := by
  refine (e.leak vs y).set s ⟨f.1, fun p hp => ⟨e.free (f.2 p hp).1, (f.2 p hp).2⟩⟩ fun j _ p hp h => ?_
  by_cases hj : j ∈ vs
  · simp only [if_pos hj] at h; exact absurd h (by simp)
  · simp only [if_neg hj] at h; exact e.th j p h (f.2 p hp).1
end

/-! ### statements -/
inductive Fo where
  | nx (ρ : DE) | rt (x : FD) | bk (ρ : DE) | ct (ρ : DE) | xc (c : Str) (fs : List (Str × D)) (ρ : DE) | bad
abbrev GS := DE → Fo
/-- what is wanted of a statement's outcome -/
def OutS (M : Md) (W : WX) (B : Bs) (D : Ends) : Fo → Prop
  | .nx ρ => ∀ σ H, EnvOk M.K B σ ρ H → D.nx σ H
  | .bk ρ => ∀ σ H, EnvOk M.K B σ ρ H → D.bk σ H
  | .ct ρ => ∀ σ H, EnvOk M.K B σ ρ H → D.ct σ H
  | .rt x => ∀ v H H0 F, Same H0 H → (∀ b ∈ B, Ext b.1 b.2 H0 H) → Sh M.K H H0 x v F → FrB B H0 F → D.rt v H
  | .xc c fs ρ => ∀ C d σ H H0 F, M.mg c = some (.ref C) → EnvAt M.K B σ ρ H H0 F → XF M.K H0 H d fs → W (.ref C) d σ H
  | .bad => False
def tS (M : Md) (W : WX) (g : GS) : TS := fun D σ H => ∃ B ρ, EnvOk M.K B σ ρ H ∧ OutS M W B D (g ρ)
/-- from an expression's outcome -/
def viaE {α : Type} (vs : List Nat) (r : Res α) (ρ : DE) (f : α → Fo) : Fo := match r with
  | .ok x => f x
  | .xc c fs => .xc c fs (leakF vs 0 ρ)
  | .bad => .bad
def putV (vs : List Nat) (i : Nat) (ρ : DE) (x : FD) : DE := match x.1 with
  | .T => ρ.set i (some x)
  | _ => (leakF vs 0 ρ).set i (some x)
section
variable {X : Cx} {W : WX} {B : Bs}
theorem via {α : Type} {M : Md} {K : PySem.W.Frag} {H H0 : Hp} {σ : L2.St} {ρ : DE} {F : Nat → List Addr} {vs : List Nat} {r : Res α} {f : α → Fo} {P : α → Prop} {D : Ends} (e : EnvAt M.K B σ ρ H H0 F)
    (q : OutS M W B D (viaE vs r ρ f)) (h : ∀ a, r = .ok a → OutS M W B D (f a) → P a) : Out M W σ (addF H0 H (vs.flatMap F)) H r P := by
  cases r with
  | ok a => exact h a rfl q
  | xc c fs => exact fun C d H' H0' hm x xf => q C d σ H' H0' _ hm (e.leak vs x) xf
  | bad => exact q.elim
def gSet (i : Nat) (vs : List Nat) (g : GE) : GS := fun ρ => viaE vs (g (viewF vs 0 ρ)) ρ fun x => .nx (putV vs i ρ x)
theorem ss_asg {i : Nat} {vs : List Nat} {st : Stmt} {g : GE} (h : PS X st (tAsg (tE (Md.of X) W g) (gName i))) : PS X st (tS (Md.of X) W (gSet i vs g)) := h.imp fun D σ H ⟨B, ρ, ⟨H0, F, e⟩, q⟩ => by
  refine ⟨_, _, e.viewS vs, e.view vs, via (K := X.K) e q fun x _ qx => fun v H' H0' G ex s f => ?_⟩
  obtain ⟨fl, d⟩ := x
  cases fl with
  | T => exact qx _ _ ⟨_, _, e.bindT ex s f⟩
  | S => exact qx _ _ ⟨_, _, e.bindS ex s f⟩
  | R => exact qx _ _ ⟨_, _, e.bindS ex s f⟩
def gRet (vs : List Nat) (g : GE) : GS := fun ρ => viaE vs (g (viewF vs 0 ρ)) ρ fun x => .rt x
theorem ss_ret {vs : List Nat} {st : Stmt} {g : GE} (h : PS X st (tRet (tE (Md.of X) W g))) : PS X st (tS (Md.of X) W (gRet vs g)) := h.imp fun D σ H ⟨B, ρ, ⟨H0, F, e⟩, q⟩ => by
  refine ⟨_, _, e.viewS vs, e.view vs, via (K := X.K) e q fun x _ qx => fun v H' H0' G ex s f => ?_⟩
  exact qx v H' H0' G ex.s1 (fun b hb => (e.viewExt vs b hb).trans ex) s ⟨f.1, fun p hp => ⟨e.free (f.2 p hp).1, (f.2 p hp).2⟩⟩
/-- return x: what the slot owns goes -/
def gRetV (i : Nat) : GS := fun ρ => match ρ[i]? with
  | some (some x) => .rt x
  | _ => .bad
theorem ss_retV {i : Nat} {st : Stmt} (h : PS X st (tRet (tVar i))) : PS X st (tS (Md.of X) W (gRetV i)) := h.imp fun D σ H ⟨B, ρ, ⟨H0, F, e⟩, q⟩ => by
  unfold gRetV at q
  split at q
  · rename_i x hx
    obtain ⟨v, h1, h2⟩ := e.sl i x hx
    exact ⟨v, h1, q v H H0 (F i) e.s0 e.ext h2 (e.fr i)⟩
  · exact q.elim
def gRetN : GS := fun _ => .rt (.T, .non)
theorem ss_retN {st : Stmt} (h : PS X st tRetN) : PS X st (tS (Md.of X) W gRetN) := h.imp fun D σ H ⟨B, ρ, ⟨H0, F, e⟩, q⟩ =>
  q .non H H0 [] e.s0 e.ext ⟨rfl, rfl⟩ FrB.nil
def gPass : GS := fun ρ => .nx ρ
theorem ss_pass {st : Stmt} (h : PS X st tNext) : PS X st (tS (Md.of X) W gPass) := h.imp fun D σ H ⟨B, ρ, e, q⟩ => q σ H e
def gBreak : GS := fun ρ => .bk ρ
theorem ss_break {st : Stmt} (h : PS X st tBreak) : PS X st (tS (Md.of X) W gBreak) := h.imp fun D σ H ⟨B, ρ, e, q⟩ => q σ H e
def gCont : GS := fun ρ => .ct ρ
theorem ss_cont {st : Stmt} (h : PS X st tCont) : PS X st (tS (Md.of X) W gCont) := h.imp fun D σ H ⟨B, ρ, e, q⟩ => q σ H e
/-- an expression whose value is dropped -/
def gDrop (vs : List Nat) (g : GE) : GS := fun ρ => viaE vs (g (viewF vs 0 ρ)) ρ fun x => .nx ρ
theorem ss_drop {vs : List Nat} {st : Stmt} {g : GE} (h : PS X st (tDrop (tE (Md.of X) W g))) : PS X st (tS (Md.of X) W (gDrop vs g)) := h.imp fun D σ H ⟨B, ρ, ⟨H0, F, e⟩, q⟩ => by
  refine ⟨_, _, e.viewS vs, e.view vs, via (K := X.K) e q fun x _ qx => fun v H' H0' G ex s f => ?_⟩
  exact qx _ _ ⟨_, _, e.keep ex.s⟩

/-! blocks -/
def gSeq (g k : GS) : GS := fun ρ => match g ρ with
  | .nx ρ' => k ρ'
  | o => o
theorem sb_nil : PSs X [] (tS (Md.of X) W gPass) := pss_nil.imp fun D σ H ⟨B, ρ, e, q⟩ => q σ H e
theorem sb_one {st : Stmt} {g : GS} (h : PS X st (tS (Md.of X) W g)) : PSs X [st] (tS (Md.of X) W g) := pss_one h
theorem OutS.seq {M : Md} {D : Ends} {g k : GS} {ρ : DE} (q : OutS M W B D (gSeq g k ρ)) : OutS M W B { D with nx := fun σ H => tS M W k D σ H } (g ρ) := by
  unfold gSeq at q
  cases e : g ρ with
  | nx ρ' => rw [e] at q; exact fun σ H h => ⟨B, ρ', h, q⟩
  | rt x => rw [e] at q; exact q
  | bk x => rw [e] at q; exact q
  | ct x => rw [e] at q; exact q
  | xc c fs x => rw [e] at q; exact q
  | bad => rw [e] at q; exact q
theorem sb_cons {st : Stmt} {r : List Stmt} {g k : GS} (h : PS X st (tS (Md.of X) W g)) (h' : PSs X r (tS (Md.of X) W k)) : PSs X (st :: r) (tS (Md.of X) W (gSeq g k)) :=
  (pss_cons h h').imp fun D σ H ⟨B, ρ, e, q⟩ => ⟨B, ρ, e, q.seq⟩
def gIfS (vs : List Nat) (c : GT) (g k : GS) : GS := fun ρ => viaE vs (c (viewF vs 0 ρ)) ρ fun b => if b = true then g ρ else k ρ
theorem ss_if {vs : List Nat} {c : Expr} {a b : List Stmt} {pos : Pos} {gc : GT} {g k : GS} (hc : PT X c (tT (Md.of X) W gc)) (ha : PSs X a (tS (Md.of X) W g)) (hb : PSs X b (tS (Md.of X) W k)) :
    PS X (.If c a b pos) (tS (Md.of X) W (gIfS vs gc g k)) := (ps_if hc ha hb).imp fun D σ H ⟨B, ρ, ⟨H0, F, e⟩, q⟩ => by
  refine ⟨_, _, e.viewS vs, e.view vs, via (K := X.K) e q fun b _ qb => fun H' H0' ex => ?_⟩
  cases b with
  | true => exact ⟨B, ρ, ⟨_, _, e.keep ex.s⟩, qb⟩
  | false => exact ⟨B, ρ, ⟨_, _, e.keep ex.s⟩, qb⟩
end
end VL
end

section
set_option Elab.async false
set_option maxRecDepth 100000
set_option linter.all false
/-! The value layer, 7: what a slot owns is changed. -/
namespace VL
open PySem PySem.Spec PyProof.Rows L2
section
variable {K : PySem.W.Frag} {B : Bs} {H H0 : Hp} {σ : L2.St} {ρ : DE} {F : Nat → List Addr}
/-- the object at a, a slot's own, is changed -/
theorem EnvAt.mut (e : EnvAt K B σ ρ H H0 F) {i : Nat} {a : Addr} {o : HO} {x : FD} {G : List Addr} (hi : σ[i]? = some (some (.ref a))) (ha : a ∈ F i) (s : Sh K (upd H a o) H0 x (.ref a) G) (f : FrB B H0 G) (d : ∀ j, j ≠ i → ∀ p ∈ G, p ∉ F j) :
    EnvAt K B σ (ρ.set i (some x)) (upd H a o) H0 (fun j => if j = i then G else F j) := by
  have hn := (e.fr i).2 a ha
  have k : EnvAt K B σ (ρ.set i none) (upd H a o) H0 (fun j => if j = i then [] else F j) := by
    have s0' : Same H0 (upd H a o) := fun b u q => by rw [upd_ne (fun z => by subst z; rw [hn.2] at q; cases q)]; exact e.s0 b u q
    refine ⟨s0', fun c hc => ⟨(e.ext c hc).s0, s0', fun b u q => by rw [upd_ne (fun z => by subst z; rw [hn.1 c hc] at q; cases q)]; exact (e.ext c hc).s b u q, (e.ext c hc).new⟩,
      fun j y hy => ?_, fun j => ?_, fun j p hp => ?_, fun j l hjl p hp => ?_, by simp [e.len]⟩
    · by_cases hj : j = i
      · subst hj
        by_cases hl : j < ρ.length
        · rw [List.getElem?_set_self hl] at hy; cases hy
        · rw [List.getElem?_eq_none (by simpa using hl)] at hy; cases hy
      · rw [List.getElem?_set_ne (Ne.symm hj)] at hy
        obtain ⟨v, h1, h2⟩ := e.sl j y hy
        simp only [if_neg hj]
        refine ⟨v, h1, h2.mono (Same.refl _) fun p hp u q => ?_⟩
        rw [upd_ne (fun z => by subst z; exact e.dj j i hj p hp ha)]
        exact q
    · by_cases hj : j = i
      · simp only [if_pos hj]; exact FrB.nil
      · simp only [if_neg hj]; exact e.fr j
    · by_cases hj : j = i
      · simp only [if_pos hj] at hp; exact absurd hp (by simp)
      · simp only [if_neg hj] at hp
        rw [upd_ne (fun z => by subst z; exact e.dj j i hj p hp ha)]
        exact e.th j p hp
    · by_cases hj : j = i
      · simp only [if_pos hj] at hp; exact absurd hp (by simp)
      · simp only [if_neg hj] at hp
        by_cases hl : l = i
        · simp only [if_pos hl]; simp
        · simp only [if_neg hl]; exact e.dj j l hjl p hp
  have q := k.set (i := i) s f fun j hj p hp => by simp only [if_neg hj]; exact d j hj p hp
  have hil : i < σ.length := by
    by_cases hl : i < σ.length
    · exact hl
    · rw [List.getElem?_eq_none (by simpa using hl)] at hi; cases hi
  have e1 : σ.set i (some (.ref a)) = σ := by
    apply List.ext_getElem?
    intro j
    by_cases hj : j = i
    · subst hj; rw [List.getElem?_set_self hil, hi]
    · rw [List.getElem?_set_ne (Ne.symm hj)]
  rw [e1, List.set_set] at q
  refine ⟨q.s0, q.ext, fun j y hy => ?_, fun j => ?_, fun j p hp => ?_, fun j l hjl p hp => ?_, q.len⟩
  · obtain ⟨v, h1, h2⟩ := q.sl j y hy
    refine ⟨v, h1, ?_⟩
    by_cases hj : j = i
    · simp only [if_pos hj] at h2 ⊢; exact h2
    · simp only [if_neg hj] at h2 ⊢; exact h2
  · have := q.fr j
    by_cases hj : j = i
    · simp only [if_pos hj] at this ⊢; exact this
    · simp only [if_neg hj] at this ⊢; exact this
  · have := q.th j p
    by_cases hj : j = i
    · simp only [if_pos hj] at this hp; exact this hp
    · simp only [if_neg hj] at this hp; exact this hp
  · have := q.dj j l hjl p
    by_cases hj : j = i
    · by_cases hl : l = i
      · exact absurd (hj.trans hl.symm) hjl
      · simp only [if_pos hj, if_neg hl] at this hp ⊢; exact this hp
    · by_cases hl : l = i
      · simp only [if_neg hj, if_pos hl] at this hp ⊢; exact this hp
      · simp only [if_neg hj, if_neg hl] at this hp ⊢; exact this hp
/-- nobody's objects are let go -/
theorem EnvAt.addG (e : EnvAt K B σ ρ H H0 F) {G : List Addr} (z : ∀ p ∈ G, (∀ b ∈ B, b.2 p = none) ∧ H0 p = none) (d : ∀ j, ∀ p ∈ G, p ∉ F j) : EnvAt K B σ ρ H (addF H0 H G) F := by
  have s := addF_same0 (H := H) fun p hp => (z p hp).2
  refine ⟨addF_same e.s0, fun c hc => ⟨(e.ext c hc).s0.trans s, addF_same e.s0, (e.ext c hc).s, fun b h1 h2 => ?_⟩, fun i x hx => ?_, fun i => ⟨(e.fr i).1, fun p hp => ⟨((e.fr i).2 p hp).1, ?_⟩⟩, e.th, e.dj, e.len⟩
  · by_cases hb : b ∈ G
    · exact (z b hb).1 c hc
    · rw [addF_out hb] at h2; exact (e.ext c hc).new b h1 h2
  · obtain ⟨v, h1, h2⟩ := e.sl i x hx
    exact ⟨v, h1, h2.mono s fun p _ o q => q⟩
  · rw [addF_out (fun h => d i p h hp)]
    exact ((e.fr i).2 p hp).2
/-- an owned container: from here on what is in it is shared -/
theorem EnvAt.toR (e : EnvAt K B σ ρ H H0 F) {i : Nat} {fl : Fl} {d : D} (hx : ρ[i]? = some (some (fl, d))) (hfl : fl ≠ .S) (ha : d.atom = false) :
    ∃ H0' F' a o, EnvAt K B σ (ρ.set i none) H H0' F' ∧ Same H0 H0' ∧ σ[i]? = some (some (.ref a)) ∧ F' i = [a] ∧ H a = some o ∧ Root K H0' d o := by
  obtain ⟨v, h1, h2⟩ := e.sl i _ hx
  have drop : ∀ {H0' F'}, EnvAt K B σ ρ H H0' F' → EnvAt K B σ (ρ.set i none) H H0' F' := fun {H0' F'} e => by
    refine ⟨e.s0, e.ext, fun j y hy => ?_, e.fr, e.th, e.dj, by simp [e.len]⟩
    by_cases hj : j = i
    · subst hj
      by_cases hl : j < ρ.length
      · rw [List.getElem?_set_self hl] at hy; cases hy
      · rw [List.getElem?_eq_none (by simpa using hl)] at hy; cases hy
    · rw [List.getElem?_set_ne (Ne.symm hj)] at hy
      exact e.sl j y hy
  cases fl with
  | S => exact absurd rfl hfl
  | R =>
    obtain ⟨a, o, rfl, hF, h3, h4⟩ := h2
    exact ⟨H0, F, a, o, drop e, Same.refl _, h1, hF, h3, h4⟩
  | T =>
    -- the root stays, the rest goes
    have go : ∀ (a : Addr) (G : List Addr), F i = a :: G → ∃ F', EnvAt K B σ (ρ.set i none) H (addF H0 H G) F' ∧ F' i = [a] := fun a G hF => by
      have fi := e.fr i
      rw [hF] at fi
      obtain ⟨nd, fz⟩ := fi
      obtain ⟨n1, n2⟩ := List.nodup_cons.mp nd
      have e2 : EnvAt K B σ (ρ.set i none) H H0 (fun j => if j = i then [a] else F j) := by
        have e' := drop e
        refine ⟨e'.s0, e'.ext, fun j y hy => ?_, fun j => ?_, fun j p hp => ?_, fun j l hjl p hp => ?_, e'.len⟩
        · by_cases hj : j = i
          · subst hj
            by_cases hl : j < ρ.length
            · rw [List.getElem?_set_self hl] at hy; cases hy
            · rw [List.getElem?_eq_none (by simpa using hl)] at hy; cases hy
          · simp only [if_neg hj]; exact e'.sl j y hy
        · by_cases hj : j = i
          · simp only [if_pos hj]; exact ⟨by simp, fun p hp => fz p (by rw [List.mem_singleton.mp hp]; exact List.mem_cons_self)⟩
          · simp only [if_neg hj]; exact e.fr j
        · by_cases hj : j = i
          · simp only [if_pos hj] at hp
            exact e.th i p (by rw [hF, List.mem_singleton.mp hp]; exact List.mem_cons_self)
          · simp only [if_neg hj] at hp; exact e.th j p hp
        · by_cases hj : j = i
          · simp only [if_pos hj] at hp
            by_cases hl : l = i
            · exact absurd (hj.trans hl.symm) hjl
            · simp only [if_neg hl]
              subst hj
              exact e.dj j l hjl p (by rw [hF, List.mem_singleton.mp hp]; exact List.mem_cons_self)
          · simp only [if_neg hj] at hp
            by_cases hl : l = i
            · simp only [if_pos hl]
              subst hl
              intro h
              exact e.dj j l hjl p hp (by rw [hF, List.mem_singleton.mp h]; exact List.mem_cons_self)
            · simp only [if_neg hl]; exact e.dj j l hjl p hp
      refine ⟨_, e2.addG (G := G) (fun p hp => fz p (List.mem_cons_of_mem _ hp)) fun j p hp => ?_, by simp⟩
      by_cases hj : j = i
      · simp only [if_pos hj]
        intro h
        rw [List.mem_singleton.mp h] at hp
        exact n1 hp
      · simp only [if_neg hj]
        exact e.dj i j (Ne.symm hj) p (by rw [hF]; exact List.mem_cons_of_mem _ hp)
    have z : ∀ (a : Addr) (G : List Addr), F i = a :: G → ∀ p ∈ G, H0 p = none := fun a G hF p hp => ((e.fr i).2 p (by rw [hF]; exact List.mem_cons_of_mem _ hp)).2
    cases d with
    | lst ds =>
      obtain ⟨a, vs, G, rfl, hF, h3, hz, t⟩ := h2
      obtain ⟨F', e', hF'⟩ := go a G hF
      exact ⟨_, F', a, _, e', addF_same0 (z a G hF), h1, hF', h3, vs, rfl, hz, Trees.rep _ _ _ (fun p hp o q => by rw [addF_in hp]; exact q) t⟩
    | tup ds =>
      obtain ⟨a, vs, G, rfl, hF, h3, hz, t⟩ := h2
      obtain ⟨F', e', hF'⟩ := go a G hF
      exact ⟨_, F', a, _, e', addF_same0 (z a G hF), h1, hF', h3, vs, rfl, hz, Trees.rep _ _ _ (fun p hp o q => by rw [addF_in hp]; exact q) t⟩
    | dct ds =>
      obtain ⟨a, vs, G, rfl, hF, h3, hz, t⟩ := h2
      obtain ⟨F', e', hF'⟩ := go a G hF
      exact ⟨_, F', a, _, e', addF_same0 (z a G hF), h1, hF', h3, vs, rfl, hz, TreeK.rep _ _ _ (fun p hp o q => by rw [addF_in hp]; exact q) t⟩
    | scr _ => exact h2.elim
    | _ => simp [D.atom] at ha
/-- behind the expression that is put into slot i's container -/
def envP (vs : List Nat) (ρ : DE) (y : FD) : DE := match y.1 with
  | .T => ρ
  | _ => leakF vs 0 ρ
theorem EnvAt.ready (e : EnvAt K B σ ρ H H0 F) {vs : List Nat} {i : Nat} {fl : Fl} {d : D} {y : FD} {v : V} {G : List Addr} {H' H0' : Hp} (hx : ρ[i]? = some (some (fl, d))) (hfl : fl ≠ .S) (ha : d.atom = false) (hy : y.1 = .T ∨ vs.contains i = false)
    (x : Ext (addF H0 H (vs.flatMap F)) H H0' H') (s : Sh K H' H0' y v G) (f : FrF H H0' G) :
    ∃ H1 F1 a o, EnvAt K B σ ((envP vs ρ y).set i none) H' H1 F1 ∧ σ[i]? = some (some (.ref a)) ∧ F1 i = [a] ∧ H' a = some o ∧ Root K H1 d o ∧ Rep K H1 y.2 v := by
  have fresh : ∀ j, ∀ p ∈ G, p ∉ F j := fun j p hp h => e.th j p h (f.2 p hp).1
  obtain ⟨yf, yd⟩ := y
  -- behind the expression
  have step : ∀ {ρ1 : DE} {H1 : Hp} {F1 : Nat → List Addr}, EnvAt K B σ ρ1 H' H1 F1 → ρ1[i]? = some (some (fl, d)) → (∀ p ∈ G, (∀ b ∈ B, b.2 p = none) ∧ H1 p = none) → (∀ j, ∀ p ∈ G, p ∉ F1 j) → Sh K H' H1 (yf, yd) v G →
      ∃ H2 F2 a o, EnvAt K B σ (ρ1.set i none) H' H2 F2 ∧ σ[i]? = some (some (.ref a)) ∧ F2 i = [a] ∧ H' a = some o ∧ Root K H2 d o ∧ Rep K H2 yd v := fun {ρ1 H1 F1} e1 h1 z dj s1 => by
    have r := s1.rep fun p hp => (z p hp).2
    obtain ⟨H2, F2, a, o, e3, sm, h2, h3, h4, h5⟩ := (e1.addG z dj).toR h1 hfl ha
    exact ⟨H2, F2, a, o, e3, h2, h3, h4, h5, Rep.mono sm _ _ r⟩
  cases yf with
  | T =>
    refine step (ρ1 := ρ) (e.keep x.s) hx (fun p hp => ⟨e.free (f.2 p hp).1, e.s0.free (f.2 p hp).1⟩) fresh s
  | _ =>
    have hc : vs.contains i = false := hy.resolve_left (by intro z; cases z)
    have hi : i ∉ vs := by simpa using hc
    refine step (ρ1 := leakF vs 0 ρ) (e.leak vs x) ?_ (fun p hp => ⟨e.free (f.2 p hp).1, (f.2 p hp).2⟩) (fun j p hp h => ?_) s
    · have : ∀ (ρ : DE) (k i : Nat), ρ[i]? = some (some (fl, d)) → vs.contains (k + i) = false → (leakF vs k ρ)[i]? = some (some (fl, d)) := by
        intro ρ
        induction ρ with
        | nil => intro k i h; simp at h
        | cons o r ih =>
          intro k i h hc
          cases i with
          | zero =>
            simp at h; subst h
            simp only [Nat.add_zero] at hc
            have hc' : k ∉ vs := by simpa using hc
            simp [leakF, hc']
          | succ i =>
            have := ih (k + 1) i (by simpa using h) (by rw [show k + 1 + i = k + (i + 1) by omega]; exact hc)
            cases o with
            | none => simpa [leakF] using this
            | some p => obtain ⟨a, b⟩ := p; simpa [leakF] using this
      exact this ρ 0 i hx (by rw [Nat.zero_add]; exact hc)
    · by_cases hj : j ∈ vs
      · simp only [if_pos hj] at h; exact absurd h (by simp)
      · simp only [if_neg hj] at h; exact fresh j p hp h
end
def mutV (i : Nat) (vs : List Nat) (ρ : DE) (fl : Fl) (y : FD) (d : D) : Fo :=
  if fl = .T ∧ y.1 = .T then .nx (ρ.set i (some (.T, d)))
  else if fl ≠ .S ∧ (y.1 = .T ∨ vs.contains i = false) then .nx ((envP vs ρ y).set i (some (.R, d)))
  else .bad
/-- the root at a is changed to o', over what is shared -/
theorem EnvAt.putR {K : PySem.W.Frag} {B : Bs} {H H0 : Hp} {σ : L2.St} {ρ : DE} {F : Nat → List Addr} (e : EnvAt K B σ (ρ.set i none) H H0 F) {a : Addr} {o' : HO} {d' : D} (hi : σ[i]? = some (some (.ref a))) (hF : F i = [a]) (r : Root K H0 d' o') :
    EnvOk K B σ (ρ.set i (some (.R, d'))) (upd H a o') := by
  have fi := e.fr i
  rw [hF] at fi
  have := e.mut (i := i) (a := a) (o := o') (x := (.R, d')) (G := [a]) hi (by rw [hF]; simp) ⟨a, o', rfl, rfl, upd_same, r⟩ fi fun j hj p hp => by
    exact e.dj i j (Ne.symm hj) p (by rw [hF]; exact hp)
  rw [List.set_set] at this
  exact ⟨_, _, this⟩
section
variable {X : Cx} {W : WX}
/-! ### x.append(e) -/
def gApp (i : Nat) (vs : List Nat) (g : GE) : GS := fun ρ => match ρ[i]? with
  | some (some (fl, .lst ds)) => viaE vs (g (viewF vs 0 ρ)) ρ fun y => if ds.length < sizeLine then mutV i vs ρ fl y (.lst (ds ++ [y.2])) else .bad
  | _ => .bad
theorem ss_app {i : Nat} {vs : List Nat} {st : Stmt} {g : GE} (hp : PS X st (tDrop (tBM X.K "list" rAppend (tVar i) (tCons (tE (Md.of X) W g) tNil)))) : PS X st (tS (Md.of X) W (gApp i vs g)) := hp.imp fun D σ H ⟨B, ρ, ⟨H0, F, e⟩, q⟩ => by
  unfold gApp at q
  split at q
  · rename_i fl ds hx
    obtain ⟨v, h1, h2⟩ := e.sl i _ hx
    -- what stands in the slot, read
    have rd : Sh X.K H H0 (fl, .lst ds) v (F i) → ∃ a vs', v = .ref a ∧ H a = some (.lst vs') ∧ ds.length = vs'.length := fun s => by
      cases fl with
      | S => obtain ⟨_, a, vs', e1, e2, _, r⟩ := s; exact ⟨a, vs', e1, e.s0 _ _ e2, r.length⟩
      | R => obtain ⟨a, o, e1, _, e2, vs', e3, _, r⟩ := s; subst e3; exact ⟨a, vs', e1, e2, r.length⟩
      | T => obtain ⟨a, vs', G, e1, _, e2, _, t⟩ := s; exact ⟨a, vs', e1, e2, t.length⟩
    obtain ⟨a, vs', rfl, ha, hl⟩ := rd h2
    refine ⟨_, h1, .inl ⟨rfl, vs', SqL.of ha⟩, _, _, e.viewS vs, e.view vs, via (K := X.K) e q fun y _ qy => fun w H' H0' G ex s f => ?_⟩
    have ha' := ex.s _ _ ha
    split at qy
    · rename_i hz
      refine ⟨a, vs', w, rfl, rfl, ha', by rw [← hl]; exact hz, ?_⟩
      unfold mutV at qy
      split at qy
      · rename_i hT
        obtain ⟨rfl, hyT⟩ := hT
        obtain ⟨yf, yd⟩ := y
        obtain rfl : yf = .T := hyT
        obtain ⟨a2, vs2, G2, e1, hF, e2, hz2, t⟩ := h2
        cases e1
        rw [ha] at e2; cases e2
        have k := e.keep ex.s
        have fi := e.fr i
        rw [hF] at fi
        obtain ⟨nd, fz⟩ := fi
        obtain ⟨n1, n2⟩ := List.nodup_cons.mp nd
        have aG : a ∉ G := fun h => by rw [(f.2 a h).1] at ha; cases ha
        have gs : ∀ p ∈ G2, ∀ o, H p = some o → (upd H' a (.lst (vs' ++ [w]))) p = some o := fun p hp o q => by
          rw [upd_ne (fun z => n1 (by rw [← z]; exact hp))]; exact ex.s p o q
        have gs' : ∀ p ∈ G, ∀ o, H' p = some o → (upd H' a (.lst (vs' ++ [w]))) p = some o := fun p hp o q => by
          rw [upd_ne (fun z => aG (by rw [← z]; exact hp))]; exact q
        have t1 := Trees.agree _ _ _ gs t
        have t2 := Tree.agree _ _ _ gs' (show Tree H' yd w G from s)
        refine qy _ _ ⟨_, _, k.mut (i := i) (a := a) (G := a :: (G2 ++ G)) (x := (.T, .lst (ds ++ [yd]))) h1 (by rw [hF]; exact List.mem_cons_self) ⟨a, _, _, rfl, rfl, upd_same, by rw [List.length_append]; exact hz, t1.snoc t2⟩ ⟨?_, fun p hp => ?_⟩ fun j hj p hp => ?_⟩
        · refine List.nodup_cons.mpr ⟨fun h => ?_, List.nodup_append.mpr ⟨n2, f.1, fun x hx y hy exy => ?_⟩⟩
          · rcases List.mem_append.mp h with h | h
            · exact n1 h
            · exact aG h
          · subst exy
            exact e.th i x (by rw [hF]; exact List.mem_cons_of_mem _ hx) (f.2 x hy).1
        · rcases List.mem_cons.mp hp with rfl | hp
          · exact fz p List.mem_cons_self
          · rcases List.mem_append.mp hp with hp | hp
            · exact fz p (List.mem_cons_of_mem _ hp)
            · exact ⟨e.free (f.2 p hp).1, e.s0.free (f.2 p hp).1⟩
        · rcases List.mem_cons.mp hp with rfl | hp
          · exact e.dj i j (Ne.symm hj) p (by rw [hF]; exact List.mem_cons_self)
          · rcases List.mem_append.mp hp with hp | hp
            · exact e.dj i j (Ne.symm hj) p (by rw [hF]; exact List.mem_cons_of_mem _ hp)
            · exact fun h => e.th j p h (f.2 p hp).1
      · split at qy
        · rename_i hc
          obtain ⟨H1, F1, a1, o, e1, i1, hF1, h3, h4, h5⟩ := e.ready hx hc.1 rfl hc.2 ex s f
          rw [h1] at i1
          cases i1
          rw [ha'] at h3; cases h3
          obtain ⟨vs2, e2, z2, r2⟩ := h4
          cases e2
          exact qy _ _ (e1.putR h1 hF1 ⟨_, rfl, by rw [List.length_append]; exact hz, r2.snoc h5⟩)
        · exact qy.elim
    · exact qy.elim
  · exact q.elim

/-! ### x[k] = e -/
def rSetV : TSet := fun o i v H Q => rSetL o i v H Q ∨ ∃ a H', o = .ref a ∧ DPut H a i v H' ∧ Q H'
theorem set_V (hu : X.A.units + 1 < cLine) : PSet X rSetV := fun pins s σ H o i v ov iv u Q I ro ri rv h => by
  rcases h with h | ⟨a, H', rfl, h, q⟩
  · exact set_list pins s σ H o i v ov iv u Q I ro ri rv h
  · cases ro
    exact d_setItem hu I h ri rv fun s' I' => ⟨H', I', q⟩
def setD (c k y : D) : Option D := match c with
  | .lst ds => match k with
    | .int j => (ixN ds.length j).map fun n => .lst (ds.set n y)
    | _ => none
  | .dct kds => (keyOf k).bind fun k => if kds.length < sizeLine then some (.dct (putD kds k y)) else none
  | _ => none
def mutR (i : Nat) (vs : List Nat) (ρ : DE) (fl : Fl) (y : FD) (d : D) : Fo :=
  if fl ≠ .S ∧ (y.1 = .T ∨ vs.contains i = false) then .nx ((envP vs ρ y).set i (some (.R, d))) else .bad
def gSetIt (i : Nat) (vs : List Nat) (gk ge : GE) : GS := fun ρ => match ρ[i]? with
  | some (some (fl, c)) => viaE vs (ge (viewF vs 0 ρ)) ρ fun y => viaE vs (gk (viewF vs 0 ρ)) ρ fun k => match setD c k.2 y.2 with
    | some c' => match c with
      | .dct _ => mutV i vs ρ fl y c'
      | _ => mutR i vs ρ fl y c'
    | none => .bad
  | _ => .bad
theorem ss_setIt {i : Nat} {vs : List Nat} {st : Stmt} {gk ge : GE} (hp : PS X st (tAsg (tE (Md.of X) W ge) (gSub (tVar i) (tE (Md.of X) W gk) rSetV))) : PS X st (tS (Md.of X) W (gSetIt i vs gk ge)) := hp.imp fun D σ H ⟨B, ρ, ⟨H0, F, e⟩, q⟩ => by
  unfold gSetIt at q
  split at q
  · rename_i fl c hx
    obtain ⟨v, h1, h2⟩ := e.sl i _ hx
    refine ⟨_, _, e.viewS vs, e.view vs, via (K := X.K) e q fun y _ qy => fun w H' H0' G ex s f => ?_⟩
    show ∃ v, σ[i]? = some (some v) ∧ _
    refine ⟨v, h1, ?_⟩
    -- the key, behind the value
    refine ⟨H0', _, ex.s1, (e.view vs).mono ex.s0, Out.after ex (via (K := X.K) e qy fun k _ qk => ?_) fun _ z => z⟩
    refine fun kv H2 H02 G2 ex2 s2 f2 => ?_
    have exx := ex.trans ex2
    have sy := s.ext ex2
    have fy := FrF.ext f s ex2
    split at qk
    · rename_i c' hc'
      -- over what is shared
      have viaR : c.atom = false → mutR i vs ρ fl y c' = mutR i vs ρ fl y c' → OutS (Md.of X) W B D (mutR i vs ρ fl y c') → (fl ≠ .S → rSetV v kv w H2 fun H3 => D.nx σ H3) := fun hat _ qm hfl => by
        unfold mutR at qm
        split at qm
        · rename_i hcnd
          obtain ⟨H1, F1, a1, o, e1, i1, hF1, h3, h4, h5⟩ := e.ready hx hcnd.1 hat hcnd.2 exx sy fy
          rw [h1] at i1
          cases i1
          have hk : Rep X.K H2 k.2 kv := by
            have := (ex2.letgo s2 f2)
            exact Rep.mono this.1.s1 _ _ this.2
          cases c with
          | lst ds =>
            obtain ⟨vs2, rfl, z2, r2⟩ := h4
            simp only [setD] at hc'
            split at hc'
            · rename_i j hj
              obtain ⟨n, hn, rfl⟩ := Option.map_eq_some_iff.mp hc'
              rw [hj] at hk
              cases hk
              refine .inl ⟨a1, vs2, j, n, rfl, rfl, h3, by rw [← r2.length]; exact hn, ?_⟩
              exact qm _ _ (e1.putR h1 hF1 ⟨_, rfl, by rw [List.length_set]; exact z2, Reps.set h5 n r2⟩)
            · cases hc'
          | dct kds =>
            obtain ⟨vs2, rfl, z2, r2⟩ := h4
            simp only [setD] at hc'
            obtain ⟨ky, hky, hc'⟩ := Option.bind_eq_some_iff.mp hc'
            split at hc'
            · rename_i hz
              cases hc'
              have ek := keyOf_rep hky hk
              subst ek
              refine .inr ⟨a1, _, rfl, .inl ⟨vs2, ky, h3, rfl, by rw [← r2.length]; exact hz, rfl⟩, ?_⟩
              exact qm _ _ (e1.putR h1 hF1 ⟨_, rfl, ⟨Nat.le_trans (putD_length _ _ _) hz, putD_nodup _ _ z2.2⟩, r2.put h5⟩)
            · cases hc'
          | _ => simp [setD] at hc'
        · exact qm.elim
      cases c with
      | dct kds =>
        simp only at qk
        unfold mutV at qk
        split at qk
        · rename_i hT
          obtain ⟨rfl, hyT⟩ := hT
          obtain ⟨yf, yd⟩ := y
          obtain rfl : yf = .T := hyT
          obtain ⟨a2, vs2, G3, e1, hF, e2, hz2, t⟩ := h2
          subst e1
          have k' := e.keep exx.s
          have fi := e.fr i
          rw [hF] at fi
          obtain ⟨nd, fz⟩ := fi
          obtain ⟨n1, n2⟩ := List.nodup_cons.mp nd
          have aG : a2 ∉ G := fun h => by rw [(f.2 a2 h).1] at e2; cases e2
          have hk : Rep X.K H2 k.2 kv := by
            have := (ex2.letgo s2 f2)
            exact Rep.mono this.1.s1 _ _ this.2
          simp only [setD] at hc'
          obtain ⟨ky, hky, hc'⟩ := Option.bind_eq_some_iff.mp hc'
          split at hc'
          · rename_i hz
            cases hc'
            have ek := keyOf_rep hky hk
            subst ek
            refine .inr ⟨a2, _, rfl, .inl ⟨vs2, ky, exx.s _ _ e2, rfl, by rw [← RepK.length (TreeK.rep (K := X.K) _ _ _ (fun p _ o q => q) t)]; exact hz, rfl⟩, ?_⟩
            have gs : ∀ p ∈ G3, ∀ o, H p = some o → (upd H2 a2 (.dK (putK vs2 ky w))) p = some o := fun p hp o q => by
              rw [upd_ne (fun z => n1 (by rw [← z]; exact hp))]; exact exx.s p o q
            have gs' : ∀ p ∈ G, ∀ o, H2 p = some o → (upd H2 a2 (.dK (putK vs2 ky w))) p = some o := fun p hp o q => by
              rw [upd_ne (fun z => aG (by rw [← z]; exact hp))]; exact q
            have t1 := TreeK.agree _ _ _ gs t
            have t2 := Tree.agree _ _ _ gs' (show Tree H2 yd w G from sy)
            obtain ⟨F', tp, ndp, sub⟩ := t1.put (k := ky) t2 hz2.2 (List.nodup_append.mpr ⟨n2, f.1, fun x hx y hy exy => by
              subst exy
              exact e.th i x (by rw [hF]; exact List.mem_cons_of_mem _ hx) (f.2 x hy).1⟩)
            refine qk _ _ ⟨_, _, k'.mut (i := i) (a := a2) (G := a2 :: F') (x := (.T, .dct (putD kds ky yd))) h1 (by rw [hF]; exact List.mem_cons_self) ⟨a2, _, _, rfl, rfl, upd_same, ⟨Nat.le_trans (putD_length _ _ _) hz, putD_nodup _ _ hz2.2⟩, tp⟩ ⟨?_, fun p hp => ?_⟩ fun j hj p hp => ?_⟩
            · refine List.nodup_cons.mpr ⟨fun h => ?_, ndp⟩
              rcases sub _ h with h | h
              · exact n1 h
              · exact aG h
            · rcases List.mem_cons.mp hp with rfl | hp
              · exact fz p List.mem_cons_self
              · rcases sub _ hp with hp | hp
                · exact fz p (List.mem_cons_of_mem _ hp)
                · exact ⟨e.free (f.2 p hp).1, e.s0.free (f.2 p hp).1⟩
            · rcases List.mem_cons.mp hp with rfl | hp
              · exact e.dj i j (Ne.symm hj) p (by rw [hF]; exact List.mem_cons_self)
              · rcases sub _ hp with hp | hp
                · exact e.dj i j (Ne.symm hj) p (by rw [hF]; exact List.mem_cons_of_mem _ hp)
                · exact fun h => e.th j p h (f.2 p hp).1
          · cases hc'
        · split at qk
          · rename_i hcnd
            exact viaR rfl rfl (by unfold mutR; rw [if_pos hcnd]; exact qk) hcnd.1
          · exact qk.elim
      | lst ds =>
        have : fl ≠ .S := by
          intro h; subst h; simp [mutR] at qk; exact qk
        exact viaR rfl rfl qk this
      | _ => simp [setD] at hc'
    · exact qk.elim
  · exact q.elim
end
end VL
end

section
set_option Elab.async false
set_option maxRecDepth 100000
set_option linter.all false
/-! The value layer, 8: what is walked; for; comprehensions. -/
namespace VL
open PySem PySem.Spec PyProof.Rows L2
theorem _root_.L2.PI.imp {X : Cx} {tg e : Expr} {t t' : TI} (h : PI X tg e t) (i : ∀ σ H R, t' σ H R → t σ H R) : PI X tg e t' := ⟨fun pins s σ H R I q => h.run pins s σ H R I (i _ _ _ q)⟩

/-- J walks the items xs, over H0 -/
structure Walks (K : PySem.W.Frag) (J : It) (H0 : Hp) (xs : List FD) : Prop where
  go : ∀ i H, i < xs.length → Same H0 H → J.go i H
  stop : ∀ i H, xs.length ≤ i → Same H0 H → J.stop i H
  yld : ∀ i x H v H', xs[i]? = some x → Same H0 H → J.yld i H v H' → ∃ F, Same H H' ∧ Sh K H' H0 x v F ∧ FrF H H0 F
def tI (M : Md) (W : WX) (g : GA) : TI := fun σ H R => ∃ H0 ρ, Same H0 H ∧ RdE M.K σ ρ H0 ∧
  Out M W σ H0 H (g ρ) fun xs => ∀ J H1 H01, Ext H0 H H01 H1 → Walks M.K J H01 xs → R J H1
section
variable {X : Cx} {W : WX}
/-- the items of what is read like a list -/
def itemsL : D → Res (List FD)
  | .lst ds => .ok (ds.map sh)
  | .scr ns => .ok (ns.map fun n => sh (.int n))
  | _ => .bad
def gItL (g : GE) : GA := fun ρ => (g ρ).bind fun x => itemsL x.2
theorem items_rep {K : PySem.W.Frag} {H0 : Hp} {d : D} {xs : List FD} {v : V} (h : itemsL d = .ok xs) (r : Rep K H0 d v) : ∃ a vs, v = .ref a ∧ SqL K H0 a vs ∧ Reps K H0 (xs.map (·.2)) vs ∧ xs = (xs.map (·.2)).map sh := by
  cases d <;> simp only [itemsL] at h <;> first | (cases h; done) | skip
  · cases h
    obtain ⟨a, vs, e, s, z, q⟩ := r
    have e1 : ∀ l : List D, (l.map sh).map (·.2) = l := fun l => by rw [List.map_map]; exact List.map_id _
    exact ⟨a, vs, e, SqL.of s, by rw [e1]; exact q, by rw [e1]⟩
  · rename_i ns
    cases h
    obtain ⟨a, e, s⟩ := r
    refine ⟨a, _, e, s, ?_, ?_⟩
    · have : (ns.map fun n => sh (.int n)).map (·.2) = ns.map D.int := by rw [List.map_map]; rfl
      rw [this]
      have : ∀ ns : List Int, Reps K H0 (ns.map D.int) (ns.map V.int) := fun ns => by
        induction ns with
        | nil => rfl
        | cons n r ih => exact ⟨_, _, rfl, rfl, ih⟩
      exact this ns
    · rw [List.map_map, List.map_map]; rfl
theorem walks_list {K : PySem.W.Frag} {H0 : Hp} {a : Addr} {vs : List V} {ds : List D} (s : SqL K H0 a vs) (r : Reps K H0 ds vs) : Walks K (Itl K a) H0 (ds.map sh) := by
  refine ⟨fun i H hi hs => ?_, fun i H hi hs => ⟨vs, hs.seq s, ?_⟩, fun i x H v H' hx hs ⟨e, y⟩ => ?_⟩
  · rw [List.length_map, r.length] at hi
    exact ⟨vs, vs[i], hs.seq s, List.getElem?_eq_getElem hi⟩
  · rw [List.length_map, r.length] at hi; exact hi
  · subst e
    rw [List.getElem?_map] at hx
    obtain ⟨d, hd, rfl⟩ := Option.map_eq_some_iff.mp hx
    obtain ⟨w, hw, rw'⟩ := r.get hd
    have := y vs (hs.seq s)
    rw [hw] at this; cases this
    exact ⟨[], Same.refl _, sh_ok rw', FrF.nil⟩
theorem ei_list {tg l : Expr} {g : GE} (h : PE X l (tE (Md.of X) W g)) : PI X tg l (tI (Md.of X) W (gItL g)) := (pi_list h).imp fun σ H R ⟨H0, ρ, hs, hr, q⟩ => by
  refine ⟨H0, ρ, hs, hr, (Out.bind q).imp fun x qx => fun v H1 H01 F e s fr => ?_⟩
  obtain ⟨e1, r1⟩ := e.letgo s fr
  cases k : itemsL x.2 with
  | bad => rw [k] at qx; exact qx.elim
  | xc c fs => cases hx : x.2 <;> rw [hx] at k <;> simp [itemsL] at k
  | ok xs =>
    rw [k] at qx
    obtain ⟨a, vs, rfl, s1, r2, ex⟩ := items_rep k r1
    exact ⟨a, rfl, ⟨vs, e1.s1.seq s1⟩, qx _ _ _ e1 (by rw [ex]; exact walks_list s1 r2)⟩
/-- range(n), range(a, b) -/
def rngD (a b : Int) : List FD := (List.range (b - a).toNat).map fun (k : Nat) => ((.T, .int (a + (k : Int))) : FD)
def okR (a b : Int) : Bool := decide (-(2 ^ 62) ≤ a ∧ a < 2 ^ 62 ∧ -(2 ^ 62) ≤ b ∧ b < 2 ^ 62 ∧ (b - a).toNat ≤ sizeLine)
def itemsR (a b : Int) : Res (List FD) := if okR a b = true then .ok (rngD a b) else .bad
def gItR1 (g : GE) : GA := fun ρ => (g ρ).bind fun x => match x.2 with
  | .int b => itemsR 0 b
  | _ => .bad
def gItR2 (g k : GE) : GA := fun ρ => (g ρ).bind fun x => (k ρ).bind fun y => match x.2, y.2 with
  | .int a, .int b => itemsR a b
  | _, _ => .bad
theorem walks_range {K : PySem.W.Frag} {H0 : Hp} (a b : Int) : Walks K (Itr a (b - a).toNat) H0 (rngD a b) := by
  have hl : (rngD a b).length = (b - a).toNat := by unfold rngD; rw [List.length_map, List.length_range]
  refine ⟨fun i H hi hs => by rw [hl] at hi; exact hi, fun i H hi hs => by rw [hl] at hi; exact hi, fun i x H v H' hx hs ⟨e, y⟩ => ?_⟩
  subst e; subst y
  unfold rngD at hx
  rw [List.getElem?_map] at hx
  obtain ⟨k, hk, rfl⟩ := Option.map_eq_some_iff.mp hx
  have hi : i < (b - a).toNat := by
    by_cases h : i < (b - a).toNat
    · exact h
    · rw [List.getElem?_eq_none (by simpa using h)] at hk; cases hk
  rw [List.getElem?_range hi] at hk
  cases hk
  exact ⟨[], Same.refl _, ⟨rfl, rfl⟩, FrF.nil⟩
theorem itemsR_ok {M : Md} {σ : L2.St} {H0 H : Hp} {a b : Int} {P : List FD → Prop} (q : Out M W σ H0 H (itemsR a b) P) : -(2 ^ 62) ≤ a ∧ a < 2 ^ 62 ∧ -(2 ^ 62) ≤ b ∧ b < 2 ^ 62 ∧ P (rngD a b) := by
  unfold itemsR at q
  split at q
  · rename_i h
    unfold okR at h
    obtain ⟨h1, h2, h3, h4, _⟩ := of_decide_eq_true h
    exact ⟨h1, h2, h3, h4, q⟩
  · exact q.elim
theorem ei_range1 {tg a : Expr} {p pos : Pos} {g : GE} (hg : Gl X "range") (hm : X.mg "range" = none) (ha : PE X a (tE (Md.of X) W g)) (hs : starEach [a] X.env = [(false, eval a X.env)] := by rfl) :
    PI X tg (.Call (.Name "range" p) [a] [] pos) (tI (Md.of X) W (gItR1 g)) := (pi_range1 hg hm (pa_cons ha pa_nil (by rw [hs]; rfl)) hs).imp fun σ H R ⟨H0, ρ, h0, hr, q⟩ => by
  refine ⟨H0, ρ, h0, hr, (Out.bind q).imp fun x qx => fun v H1 H01 F e s fr => ?_⟩
  obtain ⟨e1, r1⟩ := e.letgo s fr
  split at qx
  · rename_i b hb
    rw [hb] at r1
    cases r1
    obtain ⟨h1, h2, h3, h4, qq⟩ := itemsR_ok qx
    refine ⟨b, rfl, h3, h4, ?_⟩
    have := walks_range (K := X.K) (H0 := addF H01 H1 F) 0 b
    rw [Int.sub_zero] at this
    exact qq _ _ _ e1 this
  · exact qx.elim
theorem ei_range2 {tg a b : Expr} {p pos : Pos} {g k : GE} (hg : Gl X "range") (hm : X.mg "range" = none) (ha : PE X a (tE (Md.of X) W g)) (hb : PE X b (tE (Md.of X) W k))
    (hs : starEach [a, b] X.env = [(false, eval a X.env), (false, eval b X.env)] := by rfl) (hs2 : starEach [b] X.env = [(false, eval b X.env)] := by rfl) :
    PI X tg (.Call (.Name "range" p) [a, b] [] pos) (tI (Md.of X) W (gItR2 g k)) := (pi_range2 hg hm (pa_cons ha (pa_cons hb pa_nil (by rw [hs2]; rfl)) (by rw [hs, hs2])) hs hs2).imp fun σ H R ⟨H0, ρ, h0, hr, q⟩ => by
  refine ⟨H0, ρ, h0, hr, (Out.bind q).imp fun x qx => fun v H1 H01 F e s fr => ?_⟩
  obtain ⟨e1, r1⟩ := e.letgo s fr
  refine ⟨_, ρ, e1.s1, hr.mono e1.s0, Out.after e1 (Out.bind qx) fun y qy => fun u H2 H02 G e' s' fr' => ?_⟩
  obtain ⟨e2, r2⟩ := e'.letgo s' fr'
  split at qy
  · rename_i a b hxa hyb
    rw [hxa] at r1
    rw [hyb] at r2
    cases r1; cases r2
    obtain ⟨h1, h2, h3, h4, qq⟩ := itemsR_ok qy
    exact ⟨a, b, rfl, ⟨h1, h2, h3, h4⟩, qq _ _ _ (e1.trans e2) (walks_range a b)⟩
  · exact qy.elim
/-- reversed(xs) -/
def gItV (g : GE) : GA := fun ρ => (g ρ).bind fun x => (itemsL x.2).bind fun xs => .ok xs.reverse
theorem walks_rev {K : PySem.W.Frag} {H0 : Hp} {a : Addr} {vs : List V} {ds : List D} (s : SqL K H0 a vs) (r : Reps K H0 ds vs) : Walks K (Itv K a vs.length) H0 (ds.map sh).reverse := by
  have hl : (ds.map sh).reverse.length = vs.length := by rw [List.length_reverse, List.length_map, r.length]
  refine ⟨fun i H hi hs => ?_, fun i H hi hs => ?_, fun i x H v H' hx hs ⟨e, y⟩ => ?_⟩
  · rw [hl] at hi
    exact ⟨hi, vs, vs[vs.length - 1 - i], hs.seq s, List.getElem?_eq_getElem (by omega)⟩
  · rw [hl] at hi; exact hi
  · subst e
    have hi : i < vs.length := by
      by_cases h : i < vs.length
      · exact h
      · rw [List.getElem?_eq_none (by rw [hl]; omega)] at hx; cases hx
    rw [List.getElem?_reverse (by rw [List.length_map, r.length]; exact hi), List.length_map, r.length, List.getElem?_map] at hx
    obtain ⟨d, hd, rfl⟩ := Option.map_eq_some_iff.mp hx
    obtain ⟨w, hw, rw'⟩ := r.get hd
    have := y vs (hs.seq s)
    rw [hw] at this; cases this
    exact ⟨[], Same.refl _, sh_ok rw', FrF.nil⟩
theorem ei_rev {tg l : Expr} {p pos : Pos} {g : GE} (hg : Gl X "reversed") (hm : X.mg "reversed" = none) (h : PE X l (tE (Md.of X) W g)) (hs : starEach [l] X.env = [(false, eval l X.env)] := by rfl) :
    PI X tg (.Call (.Name "reversed" p) [l] [] pos) (tI (Md.of X) W (gItV g)) := (pi_reversed hg hm (pa_cons h pa_nil (by rw [hs]; rfl)) hs).imp fun σ H R ⟨H0, ρ, hs, hr, q⟩ => by
  refine ⟨H0, ρ, hs, hr, (Out.bind q).imp fun x qx => fun v H1 H01 F e s fr => ?_⟩
  obtain ⟨e1, r1⟩ := e.letgo s fr
  cases k : itemsL x.2 with
  | bad => rw [k] at qx; exact qx.elim
  | xc c fs => cases hx : x.2 <;> rw [hx] at k <;> simp [itemsL] at k
  | ok xs =>
    rw [k] at qx
    obtain ⟨a, vs, rfl, s1, r2, ex⟩ := items_rep k r1
    refine ⟨a, vs, rfl, e1.s1.seq s1, qx _ _ _ e1 ?_⟩
    rw [ex]
    exact walks_rev s1 r2
/-- enumerate(xs) -/
def enumD : Nat → List D → List FD
  | _, [] => []
  | i, d :: ds => ((if d.atom then .T else .R, .tup [.int (i : Int), d]) : FD) :: enumD (i + 1) ds
def gItE (g : GE) : GA := fun ρ => (g ρ).bind fun x => (itemsL x.2).bind fun xs => .ok (enumD 0 (xs.map (·.2)))
theorem enumD_length : ∀ (ds : List D) (i : Nat), (enumD i ds).length = ds.length
  | [], _ => rfl
  | d :: ds, i => by simp [enumD, enumD_length ds]
theorem enumD_get : ∀ (ds : List D) (k i : Nat) (x : FD), (enumD k ds)[i]? = some x → ∃ d, ds[i]? = some d ∧ x = (if d.atom then .T else .R, .tup [.int ((k + i : Nat) : Int), d])
  | [], _, _, _, h => by simp [enumD] at h
  | d :: ds, k, 0, x, h => by simp [enumD] at h; exact ⟨d, rfl, by rw [← h]; simp⟩
  | d :: ds, k, i + 1, x, h => by
    obtain ⟨d', h1, h2⟩ := enumD_get ds (k + 1) i x (by simpa [enumD] using h)
    exact ⟨d', by simpa using h1, by rw [h2, show k + 1 + i = k + (i + 1) by omega]⟩
theorem walks_enum {K : PySem.W.Frag} {H0 : Hp} {a : Addr} {vs : List V} {ds : List D} (s : SqL K H0 a vs) (r : Reps K H0 ds vs) : Walks K (Ite K a) H0 (enumD 0 ds) := by
  refine ⟨fun i H hi hs => ?_, fun i H hi hs => ⟨vs, hs.seq s, ?_⟩, fun i x H v H' hx hs ⟨T, w, e1, hT, e2, y⟩ => ?_⟩
  · rw [enumD_length, r.length] at hi
    exact ⟨vs, vs[i], hs.seq s, List.getElem?_eq_getElem hi⟩
  · rw [enumD_length, r.length] at hi; exact hi
  · subst e1; subst e2
    obtain ⟨d, hd, rfl⟩ := enumD_get ds 0 i x hx
    rw [Nat.zero_add]
    obtain ⟨u, hu, ru⟩ := r.get hd
    have := y vs (hs.seq s)
    rw [hu] at this; cases this
    refine ⟨[T], fun b o q => by rw [upd_ne (ne_of_none q hT)]; exact q, ?_, ⟨by simp, fun p hp => by rw [List.mem_singleton.mp hp]; exact ⟨hT, hs.free hT⟩⟩⟩
    have two : (2 : Nat) ≤ sizeLine := by decide
    cases ha : d.atom with
    | true => exact ⟨T, _, [], rfl, rfl, upd_same, two, _, _, [], [], rfl, rfl, ⟨rfl, rfl⟩, _, _, [], [], rfl, rfl, ru.tree ha, rfl, rfl⟩
    | false => exact ⟨T, _, rfl, rfl, upd_same, _, rfl, two, _, _, rfl, rfl, _, _, rfl, ru, rfl⟩
theorem ei_enum {l : Expr} {p pos tpos : Pos} {elts : List Expr} {kk : Nat} {g : GE} (hg : Gl X "enumerate") (hm : X.mg "enumerate" = none) (h : PE X l (tE (Md.of X) W g)) (hs : starEach [l] X.env = [(false, eval l X.env)] := by rfl) :
    PI X (.Tuple elts kk tpos) (.Call (.Name "enumerate" p) [l] [] pos) (tI (Md.of X) W (gItE g)) := (pi_enum hg hm (pa_cons h pa_nil (by rw [hs]; rfl)) hs).imp fun σ H R ⟨H0, ρ, hs, hr, q⟩ => by
  refine ⟨H0, ρ, hs, hr, (Out.bind q).imp fun x qx => fun v H1 H01 F e s fr => ?_⟩
  obtain ⟨e1, r1⟩ := e.letgo s fr
  cases k : itemsL x.2 with
  | bad => rw [k] at qx; exact qx.elim
  | xc c fs => cases hx : x.2 <;> rw [hx] at k <;> simp [itemsL] at k
  | ok xs =>
    rw [k] at qx
    obtain ⟨a, vs, rfl, s1, r2, ex⟩ := items_rep k r1
    exact ⟨a, vs, rfl, e1.s1.seq s1, qx _ _ _ e1 (walks_enum s1 r2)⟩

/-! ### targets -/
def setsV : L2.St → List Nat → List V → L2.St
  | σ, i :: is, v :: vs => setsV (σ.set i (some v)) is vs
  | σ, _, _ => σ
/-- a target, read: to which slots the parts of a thing go -/
structure Tgt (K : PySem.W.Frag) (g : TG) (is : List Nat) (t : D → Option (List D)) : Prop where
  run : ∀ d as v σ H H0 Q, t d = some as → Same H0 H → Rep K H0 d v → (∀ vs, Reps K H0 as vs → as.length = is.length → Q (setsV σ is vs) H) → g v σ H Q
def t1 : D → Option (List D) := fun d => some [d]
theorem tgt1 {K : PySem.W.Frag} {i : Nat} : Tgt K (gName i) [i] t1 := ⟨fun d as v σ H H0 Q h hs r q => by
  cases h
  exact q [v] ⟨v, [], rfl, r, rfl⟩ rfl⟩
def t2 : D → Option (List D)
  | .tup [a, b] => some [a, b]
  | _ => none
theorem tgt2 {K : PySem.W.Frag} {i j : Nat} : Tgt K (gTup K 2 (L2.gCons (gName i) (L2.gCons (gName j) L2.gNil))) [i, j] t2 := ⟨fun d as v σ H H0 Q h hs r q => by
  unfold t2 at h
  split at h <;> cases h
  obtain ⟨a, vs, rfl, s, z, w, t, e, r1, w2, t2, e2, r2, e3⟩ := r
  subst e3; subst e2; subst e
  exact ⟨a, _, rfl, same_seqT hs s, rfl, _, _, rfl, _, _, rfl, rfl, q [w, w2] ⟨w, _, rfl, r1, w2, [], rfl, r2, rfl⟩ rfl⟩⟩
def setsD : List (Option D) → List Nat → List D → List (Option D)
  | ρ, i :: is, d :: ds => setsD (ρ.set i (some d)) is ds
  | ρ, _, _ => ρ
def setsF : DE → List Nat → List D → DE
  | ρ, i :: is, d :: ds => setsF (ρ.set i (some (sh d))) is ds
  | ρ, _, _ => ρ
def wipeD (ρ : List (Option D)) : List Nat → List (Option D)
  | [] => ρ
  | i :: is => (wipeD ρ is).set i none
theorem rde_set {K : PySem.W.Frag} {σ : L2.St} {ρ : List (Option D)} {H0 : Hp} {i : Nat} {d : D} {v : V} (h : RdE K σ ρ H0) (r : Rep K H0 d v) : RdE K (σ.set i (some v)) (ρ.set i (some d)) H0 := ⟨by simp [h.1], fun j x hx => by
  by_cases hj : i = j
  · subst hj
    have hi : i < ρ.length := by
      by_cases h : i < ρ.length
      · exact h
      · rw [List.getElem?_eq_none (by simpa using h)] at hx; cases hx
    rw [List.getElem?_set_self hi] at hx
    cases hx
    exact ⟨v, List.getElem?_set_self (by rw [← h.1]; exact hi), r⟩
  · rw [List.getElem?_set_ne hj] at hx ⊢
    exact h.2 j x hx⟩
theorem rde_sets {K : PySem.W.Frag} {H0 : Hp} : ∀ {is : List Nat} {ds : List D} {vs : List V} {σ : L2.St} {ρ : List (Option D)}, RdE K σ ρ H0 → Reps K H0 ds vs → RdE K (setsV σ is vs) (setsD ρ is ds) H0
  | [], _, _, _, _, h, _ => by unfold setsV setsD; exact h
  | i :: is, [], _, _, _, h, r => by cases r; exact h
  | i :: is, d :: ds, _, σ, ρ, h, ⟨v, t, e, r1, r2⟩ => by
    subst e
    show RdE K (setsV (σ.set i (some v)) is t) (setsD (ρ.set i (some d)) is ds) H0
    exact rde_sets (rde_set h r1) r2
theorem wipeD_length (ρ : List (Option D)) : ∀ is, (wipeD ρ is).length = ρ.length
  | [] => rfl
  | i :: is => by simp [wipeD, wipeD_length ρ is]
theorem rde_wipe {K : PySem.W.Frag} {H0 : Hp} {σ : L2.St} {ρ : List (Option D)} (h : RdE K σ ρ H0) : ∀ is, RdE K (wipe σ is) (wipeD ρ is) H0
  | [] => h
  | i :: is => ⟨by rw [wipeD_length, wipe_length]; exact h.1, fun j x hx => by
    unfold wipeD at hx
    by_cases hj : i = j
    · subst hj
      by_cases hi : i < (wipeD ρ is).length
      · rw [List.getElem?_set_self hi] at hx; cases hx
      · rw [List.getElem?_eq_none (by simpa using hi)] at hx; cases hx
    · rw [List.getElem?_set_ne hj] at hx
      obtain ⟨v, h1, h2⟩ := (rde_wipe h is).2 j x hx
      refine ⟨v, ?_, h2⟩
      unfold wipe
      rw [List.getElem?_set_ne hj]
      exact h1⟩
end
end VL
end

section
set_option Elab.async false
set_option maxRecDepth 100000
set_option linter.all false
/-! The value layer, 9: for; comprehensions. -/
namespace VL
open PySem PySem.Spec PyProof.Rows L2

/-! ### [e for x in xs if c] -/
/-- nothing raised is let through -/
def Res.nox {α : Type} (r : Res α) : Res α := match r with
  | .ok a => .ok a
  | _ => .bad
@[simp] theorem Res.nox_ok {α : Type} (a : α) : (Res.ok a).nox = .ok a := rfl
@[simp] theorem Res.nox_bad {α : Type} : (Res.bad : Res α).nox = .bad := rfl
@[simp] theorem Res.nox_xc {α : Type} (c : Str) (fs : List (Str × D)) : (Res.xc c fs : Res α).nox = .bad := rfl
/-- each item: its test, its element -/
def compL (t : D → Option (List D)) (is : List Nat) (c : GT) (g : GE) (ρ : List (Option D)) : List FD → Res (List FD)
  | [] => .ok []
  | x :: xs => match t x.2 with
    | some as => (c (setsD ρ is as)).nox.bind fun b => if b = true then (g (setsD ρ is as)).nox.bind fun y => (compL t is c g ρ xs).bind fun ys => .ok (y :: ys) else compL t is c g ρ xs
    | none => .bad
def gComp (own is : List Nat) (k : GA) (t : D → Option (List D)) (c : GT) (g : GE) : GE := fun ρ => (k ρ).bind fun xs =>
  if xs.length ≤ sizeLine then (compL t is c g (wipeD ρ own) xs).bind fun ys => .ok (mkL ys) else .bad
def cYes : GT := fun _ => .ok true
abbrev W0 : WX := fun _ _ _ _ => False
theorem wipe_setsV : ∀ (own is : List Nat) (σ : L2.St) (vs : List V), (∀ i ∈ is, i ∈ own) → wipe (setsV (wipe σ own) is vs) own = wipe σ own
  | own, [], σ, vs, _ => by
    unfold setsV
    exact wipe_twice own σ
  | own, i :: is, σ, [], _ => by
    unfold setsV
    exact wipe_twice own σ
  | own, i :: is, σ, v :: vs, h => by
    have : ∀ (σ' : L2.St) (is : List Nat) (vs : List V), (∀ i ∈ is, i ∈ own) → wipe σ' own = wipe σ own → wipe (setsV σ' is vs) own = wipe σ own := by
      intro σ' is
      induction is generalizing σ' with
      | nil => intro vs _ h; cases vs <;> exact h
      | cons j js ih =>
        intro vs hj h
        cases vs with
        | nil => exact h
        | cons w ws =>
          refine ih _ ws (fun i hi => hj i (List.mem_cons_of_mem _ hi)) ?_
          rw [← h]
          exact wipe_set own (hj j List.mem_cons_self) σ' _
    exact this _ _ _ h (wipe_twice own σ)
where
  wipe_set : ∀ (own : List Nat) {j : Nat} (hj : j ∈ own) (σ : L2.St) (v : Option V), wipe (σ.set j v) own = wipe σ own
    | k :: ks, j, hj, σ, v => by
      unfold wipe
      by_cases h : j ∈ ks
      · rw [wipe_set ks h]
      · have e : j = k := by
          rcases List.mem_cons.mp hj with e | e
          · exact e
          · exact absurd e h
        subst e
        rw [wipe_set_out ks h, List.set_set]
  wipe_set_out : ∀ (own : List Nat) {j : Nat} (hj : j ∉ own) {σ : L2.St} {v : Option V}, wipe (σ.set j v) own = (wipe σ own).set j v
    | [], j, hj, σ, v => rfl
    | k :: ks, j, hj, σ, v => by
      simp only [List.mem_cons, not_or] at hj
      unfold wipe
      rw [wipe_set_out ks hj.2, List.set_comm _ _ hj.1]
  wipe_twice : ∀ (own : List Nat) (σ : L2.St), wipe (wipe σ own) own = wipe σ own
    | [], σ => rfl
    | k :: ks, σ => by
      show (wipe ((wipe σ ks).set k none) ks).set k none = (wipe σ ks).set k none
      by_cases h : k ∈ ks
      · rw [wipe_set ks h, wipe_twice ks]
      · rw [wipe_set_out ks h, wipe_twice ks, List.set_set]

section
variable {X : Cx} {W : WX}
/-- a walk, as the layer wants it -/
theorem comp_core {M : Md} {σ : L2.St} {Hs H1 H01 : Hp} {ρ : List (Option D)} {J : It} {g : TG} {tt : TT} {te : TE} {own is : List Nat} {t : D → Option (List D)} {c : GT} {ge : GE} {xs : List FD} {ys : List FD} {Dd : Addr} {Q : VK}
    (wk : Walks M.K J H01 xs) (tg : Tgt M.K g is t) (hio : ∀ i ∈ is, i ∈ own) (ht : ∀ σ H Q, tT M W0 c σ H Q → tt σ H Q) (he : ∀ σ H Q, tE M W0 ge σ H Q → te σ H Q)
    (hz : xs.length ≤ sizeLine) (hc : compL t is c ge (wipeD ρ own) xs = .ok ys) (hr : RdE M.K σ ρ H01) (hs1 : Same H01 H1) (hsH : Same Hs H1) (hD : H1 Dd = none)
    (hq : ∀ H H0' vs F, Ext H01 Hs H0' H → H Dd = some (.lst vs) → Shs M.K H H0' ys vs F → FrF Hs H0' F → Dd ∉ F → H0' Dd = none → Q (.ref Dd) H) (hnew : ∀ p, H01 p = none → H01 p = none) :
    ∃ Wv : Nat → Nat → Hp → Prop, (∃ m, Wv 0 m (upd H1 Dd (.lst []))) ∧ ∀ i m H, Wv i m H →
      (J.stop i H ∧ Q (.ref Dd) H) ∨ (J.go i H ∧ ∃ Nx : Hp → Prop, (∀ H', Nx H' → ∃ m', m' < m ∧ Wv (i + 1) m' H') ∧ ∀ x H', J.yld i H x H' → g x (wipe σ own) H' fun σ2 H2 => wipe σ2 own = wipe σ own ∧ tt σ2 H2 fun b H3 =>
        if b = true then te σ2 H3 fun y H4 => ∃ acc, H4 Dd = some (.lst acc) ∧ acc.length < sizeLine ∧ Nx (upd H4 Dd (.lst (acc ++ [y]))) else Nx H3) := by
  have hDs : Hs Dd = none := hsH.free hD
  have hD0 : H01 Dd = none := hs1.free hD
  -- behind i turns: zs made so far, the rest of xs makes the rest of ys
  let Pv : Nat → Hp → Prop := fun i H => i ≤ xs.length ∧ ∃ zs rs H0' vs F, compL t is c ge (wipeD ρ own) (xs.drop i) = .ok rs ∧ ys = zs ++ rs ∧ zs.length ≤ i ∧ Ext H01 Hs H0' H ∧ H Dd = some (.lst vs) ∧ Shs M.K H H0' zs vs F ∧ FrF Hs H0' F ∧ Dd ∉ F ∧ H0' Dd = none
  refine ⟨fun i m H => m = xs.length - i ∧ Pv i H, ⟨xs.length, by simp, Nat.zero_le _, [], ys, H01, [], [], hc, rfl, Nat.le_refl _, ⟨Same.refl _, fun b o q => by rw [upd_ne (ne_of_none q hD0)]; exact hs1 b o q, fun b o q => by rw [upd_ne (ne_of_none q hDs)]; exact hsH b o q, fun p h1 h2 => absurd h1 h2⟩, upd_same, ⟨rfl, rfl⟩, FrF.nil, by simp, hD0⟩, ?_⟩
  rintro i m H ⟨rfl, hi, zs, rs, H0', vs, F, hcr, hys, hzl, ex, hDv, sh1, fr, nF, d0⟩
  have sm : Same H01 H := ex.s0.trans ex.s1
  by_cases hlt : i < xs.length
  · refine .inr ⟨wk.go i H hlt sm, Pv (i + 1), fun H' p => ⟨xs.length - (i + 1), by omega, rfl, p⟩, fun x H' hy => ?_⟩
    have hx : xs[i]? = some xs[i] := List.getElem?_eq_getElem hlt
    obtain ⟨G, sH, sx, fx⟩ := wk.yld i _ H x H' hx sm hy
    rw [List.drop_eq_getElem_cons hlt] at hcr
    unfold compL at hcr
    split at hcr
    · rename_i as has
      -- the item let go
      have exI : Ext H01 H H01 H' := ⟨Same.refl _, sm.trans sH, sH, fun p h1 h2 => absurd h1 h2⟩
      obtain ⟨eL, rL⟩ := exI.letgo sx fx
      -- over what is shared by now
      have fx' : ∀ p ∈ G, H0' p = none := fun p hp => by
        exact ex.s1.free (fx.2 p hp).1
      have e2 : Ext H0' H (addF H0' H' G) H' := ⟨addF_same0 fx', addF_same (ex.s1.trans sH), sH, fun b h1 h2 => by
        by_cases hb : b ∈ G
        · exact (fx.2 b hb).1
        · rw [addF_out hb] at h2; exact absurd h1 h2⟩
      have r2 : Rep M.K (addF H0' H' G) xs[i].2 x := by
        refine Rep.mono (fun b o q => ?_) _ _ rL
        by_cases hb : b ∈ G
        · rw [addF_in hb] at q ⊢; exact q
        · rw [addF_out hb] at q ⊢; exact ex.s0 b o q
      have Dn : H' Dd = some (.lst vs) := sH _ _ hDv
      refine tg.run xs[i].2 as x (wipe σ own) H' (addF H0' H' G) _ has e2.s1 r2 fun ws rw hlen => ⟨wipe_setsV own is σ ws hio, ?_⟩
      have rde : RdE M.K (setsV (wipe σ own) is ws) (setsD (wipeD ρ own) is as) (addF H0' H' G) := rde_sets (rde_wipe (hr.mono (ex.s0.trans e2.s0)) own) rw
      refine ht _ _ _ ⟨_, _, e2.s1, rde, ?_⟩
      cases hb : c (setsD (wipeD ρ own) is as) with
      | bad => rw [hb] at hcr; cases hcr
      | xc => rw [hb] at hcr; cases hcr
      | ok b =>
        rw [hb, Res.nox_ok, Res.bind_ok] at hcr
        refine fun H3 H03 e3 => ?_
        have d03 : H03 Dd = none := by
          cases q : H03 Dd with
          | none => rfl
          | some o =>
            have z1 : (addF H0' H' G) Dd = none := by rw [addF_out (fun h => by have := (fx.2 _ h).1; rw [hDv] at this; cases this)]; exact d0
            have := e3.new Dd z1 (by rw [q]; simp)
            rw [Dn] at this; cases this
        have exAll : Ext H01 Hs H03 H3 := by
          refine ex.trans (Ext.trans ⟨e2.s0, e2.s1, e2.s, e2.new⟩ e3)
        have shs3 : Shs M.K H3 H03 zs vs F := (sh1.ext e2).ext e3
        have ff3 : FrF Hs H03 F := by
          refine ⟨fr.1, fun p hp => ⟨(fr.2 p hp).1, ?_⟩⟩
          cases q : H03 p with
          | none => rfl
          | some o =>
            have z1 : (addF H0' H' G) p = none := by
              rw [addF_out (fun h => by have := (fx.2 _ h).1; exact absurd this (sh1.there p hp))]
              exact (fr.2 p hp).2
            have := e3.new p z1 (by rw [q]; simp)
            have z3 := sh1.there p hp
            exact absurd (sH.free this) z3
        cases b with
        | false =>
          simp only [Bool.false_eq_true, if_false] at hcr ⊢
          exact ⟨hlt, zs, rs, H03, vs, F, hcr, hys, Nat.le_succ_of_le hzl, exAll, e3.s _ _ Dn, shs3, ff3, nF, d03⟩
        | true =>
          simp only [if_true] at hcr ⊢
          refine he _ _ _ ⟨H03, _, e3.s1, rde.mono e3.s0, ?_⟩
          cases hg : ge (setsD (wipeD ρ own) is as) with
          | bad => rw [hg] at hcr; cases hcr
          | xc => rw [hg] at hcr; cases hcr
          | ok y =>
            rw [hg, Res.nox_ok, Res.bind_ok] at hcr
            cases hk : compL t is c ge (wipeD ρ own) (xs.drop (i + 1)) with
            | bad => rw [hk] at hcr; cases hcr
            | xc => rw [hk] at hcr; cases hcr
            | ok rs' =>
              rw [hk, Res.bind_ok] at hcr
              cases hcr
              refine fun v H4 H04 Gy e4 s4 f4 => ?_
              have D3 := e3.s _ _ Dn
              have D4 := e4.s _ _ D3
              have nGy : Dd ∉ Gy := fun h => by have := (f4.2 _ h).1; rw [D3] at this; cases this
              have d04 : H04 Dd = none := by
                cases q : H04 Dd with
                | none => rfl
                | some o => have := e4.new Dd d03 (by rw [q]; simp); rw [D3] at this; cases this
              have lv : vs.length = zs.length := sh1.length.symm
              refine ⟨vs, D4, by omega, hlt, zs ++ [y], rs', H04, vs ++ [v], F ++ Gy, hk, by rw [hys]; simp, by simp; omega, ?_, upd_same, ?_, ?_, ?_, d04⟩
              · have eA := exAll.trans e4
                exact ⟨eA.s0, fun b o q => by rw [upd_ne (ne_of_none q d04)]; exact eA.s1 b o q, fun b o q => by rw [upd_ne (ne_of_none q hDs)]; exact eA.s b o q, eA.new⟩
              · have shs4 := (shs3.ext e4).snoc s4
                refine shs_agree (fun p hp o q => ?_) shs4
                rw [upd_ne (fun z => by
                  subst z
                  rcases List.mem_append.mp hp with h | h
                  · exact nF h
                  · exact nGy h)]
                exact q
              · refine ⟨List.nodup_append.mpr ⟨fr.1, f4.1, fun a ha b hb hab => ?_⟩, fun p hp => ?_⟩
                · subst hab
                  exact shs3.there a ha (f4.2 a hb).1
                · rcases List.mem_append.mp hp with h | h
                  · refine ⟨(fr.2 p h).1, ?_⟩
                    cases q : H04 p with
                    | none => rfl
                    | some o => exact absurd (e4.new p (ff3.2 p h).2 (by rw [q]; simp)) (shs3.there p h)
                  · exact ⟨exAll.s.free (f4.2 p h).1, (f4.2 p h).2⟩
              · intro h
                rcases List.mem_append.mp h with h | h
                · exact nF h
                · exact nGy h
    · cases hcr
  · have hi' : i = xs.length := by omega
    refine .inl ⟨wk.stop i H (by omega) sm, ?_⟩
    rw [hi', List.drop_length] at hcr
    cases hcr
    rw [List.append_nil] at hys
    subst hys
    exact hq H H0' vs F ex hDv sh1 fr nF d0
where
  shs_agree : ∀ {K : PySem.W.Frag} {H H' H0 : Hp} {xs : List FD} {vs : List V} {F : List Addr}, (∀ p ∈ F, ∀ o, H p = some o → H' p = some o) → Shs K H H0 xs vs F → Shs K H' H0 xs vs F
    | _, _, _, _, [], _, _, _, r => r
    | _, _, _, _, x :: xs, _, _, h, ⟨v, r, G1, G2, e, f, s, q⟩ => by
      subst f
      exact ⟨v, r, G1, G2, e, rfl, s.mono (Same.refl _) fun p hp => h p (List.mem_append_left _ hp), shs_agree (fun p hp => h p (List.mem_append_right _ hp)) q⟩
end
end VL
end

section
set_option Elab.async false
set_option maxRecDepth 100000
set_option linter.all false
/-! The value layer, 10: the rules for comprehensions and for. -/
namespace VL
open PySem PySem.Spec PyProof.Rows L2
section
variable {X : Cx} {W : WX} {B : Bs}
theorem md_blk (s : Shared) (H : Hp) (scope : Scope) (cenv : Env) (fp : List Addr) : Md.of (X.blk s H scope cenv fp) = Md.of X := rfl
/-- a made list's end -/
theorem comp_end {K : PySem.W.Frag} {H0 Hs H0' H : Hp} {ys : List FD} {vs : List V} {F : List Addr} {Dd : Addr} {Q : VK} (f : Fin K H0 Hs (mkL ys) Q) (z : ys.length ≤ sizeLine) (e : Ext H0 Hs H0' H) (hD : H Dd = some (.lst vs)) (s : Shs K H H0' ys vs F) (fr : FrF Hs H0' F) (nF : Dd ∉ F) (d0 : H0' Dd = none) (hDs : Hs Dd = none) : Q (.ref Dd) H := by
  unfold mkL at f
  have zl : (ys.map (·.2)).length ≤ sizeLine := by rw [List.length_map]; exact z
  by_cases a : allT ys = true
  · rw [if_pos a] at f
    refine f (.ref Dd) H H0' (Dd :: F) e ⟨Dd, vs, F, rfl, rfl, hD, zl, s.trees a⟩ ⟨List.nodup_cons.mpr ⟨nF, fr.1⟩, fun b hb => ?_⟩
    rcases List.mem_cons.mp hb with rfl | hb
    · exact ⟨hDs, d0⟩
    · exact fr.2 b hb
  · rw [if_neg a] at f
    have z0 : ∀ b ∈ F, H0' b = none := fun b hb => (fr.2 b hb).2
    have e1 : Ext H0 Hs (addF H0' H F) H := ⟨e.s0.trans (addF_same0 z0), addF_same e.s1, e.s, fun b h1 h2 => by
      by_cases hb : b ∈ F
      · exact (fr.2 b hb).1
      · rw [addF_out hb] at h2; exact e.new b h1 h2⟩
    refine f (.ref Dd) H (addF H0' H F) [Dd] e1 ⟨Dd, .lst vs, rfl, rfl, hD, vs, rfl, zl, Shs.rep (addF_same0 z0) z0 (fun b hb => addF_in hb) s⟩ ⟨by simp, fun b hb => ?_⟩
    rw [List.mem_singleton.mp hb, addF_out nF]
    exact ⟨hDs, d0⟩
theorem compL_le {t : D → Option (List D)} {is : List Nat} {c : GT} {g : GE} {ρ : List (Option D)} : ∀ {xs ys : List FD}, compL t is c g ρ xs = .ok ys → ys.length ≤ xs.length
  | [], ys, h => by cases h; exact Nat.le_refl _
  | x :: xs, ys, h => by
    unfold compL at h
    split at h
    · cases hb : c _ with
      | bad => rw [hb] at h; cases h
      | xc => rw [hb] at h; cases h
      | ok b =>
        rw [hb, Res.nox_ok, Res.bind_ok] at h
        cases b with
        | false => exact Nat.le_succ_of_le (compL_le h)
        | true =>
          simp only [if_true] at h
          cases hg : g _ with
          | bad => rw [hg] at h; cases h
          | xc => rw [hg] at h; cases h
          | ok y =>
            rw [hg, Res.nox_ok, Res.bind_ok] at h
            cases hk : compL t is c g ρ xs with
            | bad => rw [hk] at h; cases h
            | xc => rw [hk] at h; cases h
            | ok zs => rw [hk] at h; cases h; exact Nat.succ_le_succ (compL_le hk)
    · cases h
theorem compL_nox {t : D → Option (List D)} {is : List Nat} {c : GT} {g : GE} {ρ : List (Option D)} {n : Str} {fs : List (Str × D)} : ∀ {xs : List FD}, compL t is c g ρ xs ≠ .xc n fs
  | [], h => by cases h
  | x :: xs, h => by
    unfold compL at h
    split at h
    · cases hb : c _ with
      | bad => rw [hb] at h; cases h
      | xc => rw [hb] at h; cases h
      | ok b =>
        rw [hb, Res.nox_ok, Res.bind_ok] at h
        cases b with
        | false => exact compL_nox h
        | true =>
          simp only [if_true] at h
          cases hg : g _ with
          | bad => rw [hg] at h; cases h
          | xc => rw [hg] at h; cases h
          | ok y =>
            rw [hg, Res.nox_ok, Res.bind_ok] at h
            cases hk : compL t is c g ρ xs with
            | bad => rw [hk] at h; cases h
            | xc => exact compL_nox hk
            | ok zs => rw [hk] at h; cases h
    · cases h
/-- what a comprehension's reading wants -/
theorem tLc_of {σ : L2.St} {H : Hp} {k : GA} {wi : TI} {g : TG} {tt : TT} {te : TE} {own is : List Nat} {t : D → Option (List D)} {c : GT} {ge : GE} {Q : VK}
    (hw : ∀ σ H R, tI (Md.of X) W k σ H R → wi σ H R) (tg : Tgt X.K g is t) (hio : ∀ i ∈ is, i ∈ own) (ht : ∀ σ H Q, tT (Md.of X) W0 c σ H Q → tt σ H Q) (he : ∀ σ H Q, tE (Md.of X) W0 ge σ H Q → te σ H Q)
    (h : tE (Md.of X) W (gComp own is k t c ge) σ H Q) : tLc wi g tt te own σ H Q := by
  obtain ⟨H0, ρ, hs, hr, q⟩ := h
  refine hw _ _ _ ⟨H0, ρ, hs, hr, ?_⟩
  have q : Out (Md.of X) W σ H0 H ((k ρ).bind _) _ := q
  cases hk : k ρ with
  | bad => rw [hk] at q; exact q.elim
  | xc n fs => rw [hk] at q; exact q
  | ok xs =>
    rw [hk] at q
    intro J H1 H01 e wk Dd hD
    have q : Out (Md.of X) W σ H0 H (if xs.length ≤ sizeLine then _ else _) _ := q
    split at q
    · rename_i hz
      cases hcr : compL t is c ge (wipeD ρ own) xs with
      | bad => rw [hcr] at q; exact q.elim
      | xc n fs => exact absurd hcr compL_nox
      | ok ys =>
        rw [hcr] at q
        have q : Fin X.K H0 H (mkL ys) Q := q
        exact comp_core (M := Md.of X) wk tg hio ht he hz hcr (hr.mono e.s0) e.s1 e.s hD (fun H' H0' vs F ex hDv sh fr nF d0 =>
          comp_end q (Nat.le_trans (compL_le hcr) hz) ⟨e.s0.trans ex.s0, ex.s1, ex.s, fun p h1 h2 => by
            by_cases hp : H01 p = none
            · exact ex.new p hp h2
            · exact e.new p h1 hp⟩ hDv sh fr nF d0 (e.s.free hD)) (fun p h => h)
    · exact q.elim
/-- the tests of a comprehension -/
structure Tst (X : Cx) (ifs : List Expr) (c : GT) : Prop where
  ok : ∃ tt, (∀ σ H Q, tT (Md.of X) W0 c σ H Q → tt σ H Q) ∧ PTs X ifs tt
theorem ev_comp {elt tg iter : Expr} {ifs : List Expr} {scope : Scope} {own : List (Str × Nat)} {pos : Pos} {g : TG} {is : List Nat} {t : D → Option (List D)} {k : GA} {c : GT} {ge : GE} {tt : TT} (hc : X.calm = true) (hN : X.N.Nodup) (hi : PI X tg iter (tI (Md.of X) W k)) (ok : BlkOk X.N X.env.scope scope own)
    (tgt : Tgt X.K g is t) (hio : ∀ i ∈ is, i ∈ own.map (·.2))
    (hg : ∀ (s : Shared) (H : Hp) (C : Addr) (cl : List (Str × Addr)) (fp : List Addr), PG (X.blk s H scope (compEnvC scope cl C X.env) fp) tg g)
    (htt : ∀ σ H Q, tT (Md.of X) W0 c σ H Q → tt σ H Q) (ht : ∀ (s : Shared) (H : Hp) (C : Addr) (cl : List (Str × Addr)) (fp : List Addr), PTs (X.blk s H scope (compEnvC scope cl C X.env) fp) ifs tt)
    (he : ∀ (s : Shared) (H : Hp) (C : Addr) (cl : List (Str × Addr)) (fp : List Addr), PE (X.blk s H scope (compEnvC scope cl C X.env) fp) elt (tE (Md.of X) W0 ge)) (hs : ∀ x, foldedSetIterable iter X.env x = pure x := by intro _; rfl) :
    PE X (.ListComp elt [⟨tg, iter, ifs, 0⟩] scope pos) (tE (Md.of X) W (gComp (own.map (·.2)) is k t c ge)) :=
  (pe_lc hc hN hi ok hg ht he hs).imp fun σ H Q q => tLc_of (fun _ _ _ x => x) tgt hio htt (fun _ _ _ x => x) q
theorem tt_yes : ∀ σ H Q, tT (Md.of X) W0 cYes σ H Q → tYes σ H Q := fun σ H Q ⟨H0, ρ, hs, hr, q⟩ => q H H0 (Ext.refl hs)
/-- y = [..] -/
theorem ss_setLc {i : Nat} {y : Str} {py : Pos} {elt tg iter : Expr} {ifs : List Expr} {scope : Scope} {own : List (Str × Nat)} {pos spos : Pos} {vs : List Nat} {g : TG} {is : List Nat} {t : D → Option (List D)} {k : GA} {c : GT} {ge : GE} {tt : TT} (hc : X.calm = true) (hN : X.N.Nodup) (hy : X.N[i]? = some y) (hyl : X.env.scope.names.lookup y = some .local)
    (hsw : swapsWith (.ListComp elt [⟨tg, iter, ifs, 0⟩] scope pos) (some (.Name y py)) spos.line X.env = pure true) (hi : PI X tg iter (tI (Md.of X) W k)) (ok : BlkOk X.N X.env.scope scope own)
    (tgt : Tgt X.K g is t) (hio : ∀ i ∈ is, i ∈ own.map (·.2))
    (hg : ∀ (s : Shared) (H : Hp) (C : Addr) (cl : List (Str × Addr)) (fp : List Addr), PG (X.blk s H scope (compEnvC scope cl C X.env) fp) tg g)
    (htt : ∀ σ H Q, tT (Md.of X) W0 c σ H Q → tt σ H Q) (ht : ∀ (s : Shared) (H : Hp) (C : Addr) (cl : List (Str × Addr)) (fp : List Addr), PTs (X.blk s H scope (compEnvC scope cl C X.env) fp) ifs tt)
    (he : ∀ (s : Shared) (H : Hp) (C : Addr) (cl : List (Str × Addr)) (fp : List Addr), PE (X.blk s H scope (compEnvC scope cl C X.env) fp) elt (tE (Md.of X) W0 ge)) (hs : ∀ x, foldedSetIterable iter X.env x = pure x := by intro _; rfl) :
    PS X (.Assign [.Name y py] (.ListComp elt [⟨tg, iter, ifs, 0⟩] scope pos) spos) (tS (Md.of X) W (gSet i vs (gComp (own.map (·.2)) is k t c ge))) :=
  ss_asg ((ps_setLc hc hN hy hyl hsw hi ok hg ht he hs).imp fun D σ H (q : tE (Md.of X) W _ σ H _) => (tLc_of (fun _ _ _ x => x) tgt hio htt (fun _ _ _ x => x) q : tLc _ _ _ _ _ σ H _))

/-! ### for x in e: body -/
def forL (t : D → Option (List D)) (is : List Nat) (g : GS) : List FD → GS
  | [], ρ => .nx ρ
  | x :: xs, ρ => match t x.2 with
    | some as => match g (setsF ρ is as) with
      | .nx ρ' => forL t is g xs ρ'
      | .ct ρ' => forL t is g xs ρ'
      | .bk ρ' => .nx ρ'
      | o => o
    | none => .bad
def gFor (vs is : List Nat) (k : GA) (t : D → Option (List D)) (g : GS) : GS := fun ρ => viaE vs (k (viewF vs 0 ρ)) ρ fun xs => forL t is g xs (leakF vs 0 ρ)
theorem EnvAt.sets {K : PySem.W.Frag} : ∀ {is : List Nat} {as : List D} {ws : List V} {σ : L2.St} {ρ : DE} {H H0 : Hp} {F : Nat → List Addr}, EnvAt K B σ ρ H H0 F → Reps K H0 as ws → ∃ F', EnvAt K B (setsV σ is ws) (setsF ρ is as) H H0 F'
  | [], as, ws, σ, ρ, H, H0, F, e, r => by unfold setsV setsF; exact ⟨F, e⟩
  | i :: is, [], ws, σ, ρ, H, H0, F, e, r => by cases r; exact ⟨F, e⟩
  | i :: is, d :: ds, _, σ, ρ, H, H0, F, e, ⟨v, t, ev, r1, r2⟩ => by
    subst ev
    show ∃ F', EnvAt K B (setsV (σ.set i (some v)) is t) (setsF (ρ.set i (some (sh d))) is ds) H H0 F'
    exact EnvAt.sets (e.set (i := i) (x := sh d) (sh_ok r1) FrB.nil fun j _ p hp => absurd hp (by simp)) r2
theorem EnvAt.sub {K : PySem.W.Frag} {B' : Bs} {σ : L2.St} {ρ : DE} {H H0 : Hp} {F : Nat → List Addr} (e : EnvAt K B' σ ρ H H0 F) (h : ∀ b ∈ B, b ∈ B') : EnvAt K B σ ρ H H0 F :=
  ⟨e.s0, fun b hb => e.ext b (h b hb), e.sl, fun i => ⟨(e.fr i).1, fun p hp => ⟨fun b hb => ((e.fr i).2 p hp).1 b (h b hb), ((e.fr i).2 p hp).2⟩⟩, e.th, e.dj, e.len⟩
/-- what is shared stays, too -/
theorem EnvAt.ground {K : PySem.W.Frag} {σ : L2.St} {ρ : DE} {H H0 : Hp} {F : Nat → List Addr} (e : EnvAt K B σ ρ H H0 F) : EnvAt K ((H0, H0) :: B) σ ρ H H0 F := by
  refine ⟨e.s0, fun b hb => ?_, e.sl, fun i => ⟨(e.fr i).1, fun p hp => ⟨fun b hb => ?_, ((e.fr i).2 p hp).2⟩⟩, e.th, e.dj, e.len⟩
  · rcases List.mem_cons.mp hb with rfl | hb
    · exact ⟨Same.refl _, e.s0, e.s0, fun p h1 _ => h1⟩
    · exact e.ext b hb
  · rcases List.mem_cons.mp hb with rfl | hb
    · exact ((e.fr i).2 p hp).2
    · exact ((e.fr i).2 p hp).1 b hb
theorem OutS.more {M : Md} {B' : Bs} {D : Ends} {o : Fo} (q : OutS M W B D o) (h : ∀ b ∈ B, b ∈ B') : OutS M W B' D o := by
  cases o with
  | nx ρ => exact fun σ H ⟨H0, F, e⟩ => q σ H ⟨H0, F, e.sub h⟩
  | bk ρ => exact fun σ H ⟨H0, F, e⟩ => q σ H ⟨H0, F, e.sub h⟩
  | ct ρ => exact fun σ H ⟨H0, F, e⟩ => q σ H ⟨H0, F, e.sub h⟩
  | rt x => exact fun v H H0 F s ex sx f => q v H H0 F s (fun b hb => ex b (h b hb)) sx ⟨f.1, fun p hp => ⟨fun b hb => (f.2 p hp).1 b (h b hb), (f.2 p hp).2⟩⟩
  | xc c fs ρ => exact fun C d σ H H0 F hm e xf => q C d σ H H0 F hm (e.sub h) xf
  | bad => exact q
/-- the loop, from a walk on -/
theorem for_core {M : Md} {J : It} {H01 : Hp} {g : TG} {tb : TS} {is : List Nat} {t : D → Option (List D)} {gb : GS} {D' : Ends} {xs : List FD} {σ : L2.St} {ρ : DE} {H1 : Hp} {F : Nat → List Addr}
    (wk : Walks M.K J H01 xs) (tg : Tgt M.K g is t) (hb : ∀ D σ H, tS M W gb D σ H → tb D σ H) (e : EnvAt M.K B σ ρ H1 H01 F) (hq : OutS M W B D' (forL t is gb xs ρ)) :
    ∃ Wv : Nat → Nat → L2.St → Hp → Prop, (∃ m, Wv 0 m σ H1) ∧ ∀ i m σ H, Wv i m σ H →
      (J.stop i H ∧ D'.nx σ H) ∨ (J.go i H ∧ ∃ N : L2.St → Hp → Prop, (∀ σ' H', N σ' H' → ∃ m', m' < m ∧ Wv (i + 1) m' σ' H') ∧ ∀ x H', J.yld i H x H' → g x σ H' fun σ2 H2 => tb { nx := N, rt := D'.rt, bk := D'.nx, ct := N } σ2 H2) := by
  have inc : ∀ b ∈ B, b ∈ (H01, H01) :: B := fun b hb => List.mem_cons_of_mem _ hb
  let Pv : Nat → L2.St → Hp → Prop := fun i σ H => i ≤ xs.length ∧ ∃ ρ' H0' F', EnvAt M.K ((H01, H01) :: B) σ ρ' H H0' F' ∧ OutS M W B D' (forL t is gb (xs.drop i) ρ')
  refine ⟨fun i m σ H => m = xs.length - i ∧ Pv i σ H, ⟨xs.length, by simp, Nat.zero_le _, ρ, H01, F, e.ground, hq⟩, ?_⟩
  rintro i m σ H ⟨rfl, hi, ρ', H0', F', e', q⟩
  have s0 : Same H01 H0' := (e'.ext _ List.mem_cons_self).s0
  have sm : Same H01 H := s0.trans e'.s0
  by_cases hlt : i < xs.length
  · refine .inr ⟨wk.go i H hlt sm, Pv (i + 1), fun σ' H' p => ⟨xs.length - (i + 1), by omega, rfl, p⟩, fun x H' hy => ?_⟩
    have hx : xs[i]? = some xs[i] := List.getElem?_eq_getElem hlt
    obtain ⟨G, sH, sx, fx⟩ := wk.yld i _ H x H' hx sm hy
    rw [List.drop_eq_getElem_cons hlt] at q
    unfold forL at q
    split at q
    · rename_i as has
      have k := e'.keep sH
      have zG : ∀ p ∈ G, (∀ b ∈ (H01, H01) :: B, b.2 p = none) ∧ H0' p = none := fun p hp => ⟨e'.free (fx.2 p hp).1, e'.s0.free (fx.2 p hp).1⟩
      have dG : ∀ j, ∀ p ∈ G, p ∉ F' j := fun j p hp h => e'.th j p h (fx.2 p hp).1
      have k2 := k.addG zG dG
      have r2 : Rep M.K (addF H0' H' G) xs[i].2 x := by
        have := sx.rep fun p hp => (fx.2 p hp).2
        refine Rep.mono (fun b o q => ?_) _ _ this
        by_cases hb : b ∈ G
        · rw [addF_in hb] at q ⊢; exact q
        · rw [addF_out hb] at q ⊢; exact s0 b o q
      refine tg.run xs[i].2 as x σ H' (addF H0' H' G) _ has k2.s0 r2 fun ws rw hlen => ?_
      obtain ⟨F3, e3⟩ := EnvAt.sets (is := is) k2 rw
      refine hb _ _ _ ⟨_, _, ⟨_, _, e3⟩, ?_⟩
      cases ho : gb (setsF ρ' is as) with
      | nx ρ2 =>
        rw [ho] at q
        exact fun σ4 H4 ⟨H04, F4, e4⟩ => ⟨hlt, ρ2, H04, F4, e4, q⟩
      | ct ρ2 =>
        rw [ho] at q
        exact fun σ4 H4 ⟨H04, F4, e4⟩ => ⟨hlt, ρ2, H04, F4, e4, q⟩
      | bk ρ2 =>
        rw [ho] at q
        exact fun σ4 H4 ⟨H04, F4, e4⟩ => q σ4 H4 ⟨H04, F4, e4.sub inc⟩
      | rt x2 =>
        rw [ho] at q
        have := OutS.more (B' := (H01, H01) :: B) q inc
        exact this
      | xc c fs ρ2 =>
        rw [ho] at q
        have := OutS.more (B' := (H01, H01) :: B) q inc
        exact this
      | bad => rw [ho] at q; exact q
    · exact q.elim
  · have hi' : i = xs.length := by omega
    refine .inl ⟨wk.stop i H (by omega) sm, ?_⟩
    rw [hi', List.drop_length] at q
    exact q σ H ⟨H0', F', e'.sub inc⟩
theorem tFor_of {σ : L2.St} {H : Hp} {vs is : List Nat} {k : GA} {wi : TI} {g : TG} {tb : TS} {t : D → Option (List D)} {gb : GS} {D' : Ends} (hw : ∀ σ H R, tI (Md.of X) W k σ H R → wi σ H R) (tg : Tgt X.K g is t)
    (hb : ∀ D σ H, tS (Md.of X) W gb D σ H → tb D σ H) (h : tS (Md.of X) W (gFor vs is k t gb) D' σ H) : tFor wi g tb D' σ H := by
  obtain ⟨B, ρ, ⟨H0, F, e⟩, q⟩ := h
  refine hw _ _ _ ⟨_, _, e.viewS vs, e.view vs, via (K := X.K) e q fun xs _ qx => fun J H1 H01 ex wk => ?_⟩
  exact for_core (M := Md.of X) wk tg hb (e.leak vs ex) qx
theorem ss_for {tg iter : Expr} {body : List Stmt} {pos : Pos} {vs is : List Nat} {k : GA} {g : TG} {t : D → Option (List D)} {gb : GS} (hp : PassesOwn (model X.prog X.w) X.A X.env X.xe) (hc : X.calm = true) (hi : PI X tg iter (tI (Md.of X) W k)) (hg : PG X tg g) (tgt : Tgt X.K g is t)
    (hb : PSs X body (tS (Md.of X) W gb)) (hs : ∀ x, foldedSetIterable iter X.env x = pure x := by intro _; rfl) : PS X (.For tg iter body [] pos) (tS (Md.of X) W (gFor vs is k t gb)) :=
  (ps_for hp hc hi hg hb hs).imp fun D σ H q => tFor_of (fun _ _ _ x => x) tgt (fun _ _ _ x => x) q
end
end VL
end

section
set_option Elab.async false
set_option maxRecDepth 100000
set_option linter.all false
/-! The value layer, 11: dicts that are walked. -/
namespace VL
open PySem PySem.Spec PyProof.Rows L2
def lk (d : Addr) (o : Obj) (X : Hp) : Hp := fun p => if p = d then (X p).map (HO.frz o) else X p
def ulk (d : Addr) (u : HO) (X : Hp) : Hp := fun p => if p = d then (X p).map (fun _ => u) else X p
theorem lk_at {d : Addr} {o : Obj} {X : Hp} : lk d o X d = (X d).map (HO.frz o) := if_pos rfl
theorem lk_ne {d p : Addr} {o : Obj} {X : Hp} (h : p ≠ d) : lk d o X p = X p := if_neg h
theorem ulk_at {d : Addr} {u : HO} {X : Hp} : ulk d u X d = (X d).map (fun _ => u) := if_pos rfl
theorem ulk_ne {d p : Addr} {u : HO} {X : Hp} (h : p ≠ d) : ulk d u X p = X p := if_neg h
theorem lk_upd {d : Addr} {o : Obj} {u : HO} {X : Hp} (h : X d = some u) : lk d o X = upd X d (.frz o u) := by
  funext p
  by_cases hp : p = d
  · subst hp; rw [lk_at, upd_same, h]; rfl
  · rw [lk_ne hp, upd_ne hp]
theorem ulk_upd {d : Addr} {u w : HO} {X : Hp} (h : X d = some w) : ulk d u X = upd X d u := by
  funext p
  by_cases hp : p = d
  · subst hp; rw [ulk_at, upd_same, h]; rfl
  · rw [ulk_ne hp, upd_ne hp]
theorem lk_none {d p : Addr} {o : Obj} {X : Hp} : lk d o X p = none ↔ X p = none := by
  unfold lk; split <;> simp
theorem ulk_none {d p : Addr} {u : HO} {X : Hp} : ulk d u X p = none ↔ X p = none := by
  unfold ulk; split <;> simp
theorem lk_same {d : Addr} {o : Obj} {A C : Hp} (h : Same A C) : Same (lk d o A) (lk d o C) := fun b w e => by
  by_cases hb : b = d
  · subst hb
    rw [lk_at] at e ⊢
    obtain ⟨x, hx, rfl⟩ := Option.map_eq_some_iff.mp e
    rw [h _ _ hx]; rfl
  · rw [lk_ne hb] at e ⊢; exact h b w e
theorem ulk_same {d : Addr} {u : HO} {A C : Hp} (h : Same A C) : Same (ulk d u A) (ulk d u C) := fun b w e => by
  by_cases hb : b = d
  · subst hb
    rw [ulk_at] at e ⊢
    obtain ⟨x, hx, rfl⟩ := Option.map_eq_some_iff.mp e
    rw [h _ _ hx]; rfl
  · rw [ulk_ne hb] at e ⊢; exact h b w e
/-- X knows of d nothing but u -/
def Onl (d : Addr) (u : HO) (X : Hp) : Prop := ∀ w, X d = some w → w = u
theorem Onl.of {d : Addr} {u : HO} {A C : Hp} (h : Same A C) (hc : C d = some u) : Onl d u A := fun w e => by
  have := h _ _ e
  rw [hc] at this; exact (Option.some.inj this).symm
theorem same_unl {d : Addr} {o : Obj} {u : HO} {A C : Hp} (h : Same (lk d o A) C) (n : Onl d u A) : Same A (ulk d u C) := fun b w e => by
  by_cases hb : b = d
  · subst hb
    rw [ulk_at, h b (.frz o w) (by rw [lk_at, e]; rfl), n w e]; rfl
  · rw [ulk_ne hb]
    exact h b w (by rw [lk_ne hb]; exact e)
theorem ext_unl {d : Addr} {o : Obj} {u : HO} {A0 A C0 C : Hp} (h : Ext (lk d o A0) (lk d o A) C0 C) (n0 : Onl d u A0) (n : Onl d u A) : Ext A0 A (ulk d u C0) (ulk d u C) :=
  ⟨same_unl h.s0 n0, ulk_same h.s1, same_unl h.s n, fun p h1 h2 => by
    have := h.new p (lk_none.mpr h1) (fun z => h2 (ulk_none.mpr z))
    exact lk_none.mp this⟩
theorem kp_lk {d : Addr} {o : Obj} {kvs : List (Key × V)} {X : Hp} (h : Onl d (.dK kvs) X) : Kp X (lk d o X) := by
  refine ⟨fun b xs e => ?_, fun b xs e => ?_, fun b xs e => ?_, fun b xs e => ?_⟩
  · rw [lk_ne (fun z => by subst z; cases h _ e)]; exact e
  · rcases e with e | ⟨o', e⟩
    · exact .inl (by rw [lk_ne (fun z => by subst z; cases h _ e)]; exact e)
    · exact .inr ⟨o', by rw [lk_ne (fun z => by subst z; cases h _ e)]; exact e⟩
  · rcases e with e | ⟨o', e⟩
    · exact .inl (by rw [lk_ne (fun z => by subst z; cases h _ e)]; exact e)
    · exact .inr ⟨o', by rw [lk_ne (fun z => by subst z; cases h _ e)]; exact e⟩
  · rcases e with e | ⟨o', e⟩
    · by_cases hb : b = d
      · subst hb; exact .inr ⟨o, by rw [lk_at, e]; rfl⟩
      · exact .inl (by rw [lk_ne hb]; exact e)
    · exact .inr ⟨o', by rw [lk_ne (fun z => by subst z; cases h _ e)]; exact e⟩
theorem kp_ulk {d : Addr} {o : Obj} {kvs : List (Key × V)} {X : Hp} (h : X d = some (.frz o (.dK kvs))) : Kp X (ulk d (.dK kvs) X) := by
  refine ⟨fun b xs e => ?_, fun b xs e => ?_, fun b xs e => ?_, fun b xs e => ?_⟩
  · rw [ulk_ne (fun z => by subst z; rw [h] at e; cases e)]; exact e
  · rcases e with e | ⟨o', e⟩
    · exact .inl (by rw [ulk_ne (fun z => by subst z; rw [h] at e; cases e)]; exact e)
    · exact .inr ⟨o', by rw [ulk_ne (fun z => by subst z; rw [h] at e; cases e)]; exact e⟩
  · rcases e with e | ⟨o', e⟩
    · exact .inl (by rw [ulk_ne (fun z => by subst z; rw [h] at e; cases e)]; exact e)
    · exact .inr ⟨o', by rw [ulk_ne (fun z => by subst z; rw [h] at e; cases e)]; exact e⟩
  · by_cases hb : b = d
    · subst hb
      rcases e with e | ⟨o', e⟩
      · rw [h] at e; cases e
      · rw [h] at e; cases e
        exact .inl (by rw [ulk_at, h]; rfl)
    · rcases e with e | ⟨o', e⟩
      · exact .inl (by rw [ulk_ne hb]; exact e)
      · exact .inr ⟨o', by rw [ulk_ne hb]; exact e⟩
/-- a value's reading under the lock -/
theorem Fin.lock {K : PySem.W.Frag} {H0 H : Hp} {x : FD} {Q : VK} {d : Addr} {o : Obj} {kvs : List (Key × V)} (f : Fin K H0 H x Q) (h0 : H0 d = some (.dK kvs)) (h : H d = some (.dK kvs)) :
    Fin K (lk d o H0) (lk d o H) x fun v H' => H' d = some (.frz o (.dK kvs)) ∧ Q v (upd H' d (.dK kvs)) := fun v H' H0' F e s fr => by
  have d0 : H0' d = some (.frz o (.dK kvs)) := e.s0 _ _ (by rw [lk_at, h0]; rfl)
  have dH : H' d = some (.frz o (.dK kvs)) := e.s1 _ _ d0
  refine ⟨dH, ?_⟩
  rw [← ulk_upd dH]
  have nd : ∀ p ∈ F, p ≠ d := fun p hp z => by
    subst z
    have := (fr.2 _ hp).1
    rw [lk_none, h] at this; cases this
  refine f v _ (ulk d (.dK kvs) H0') F (ext_unl e (fun w q => by rw [h0] at q; exact (Option.some.inj q).symm) (fun w q => by rw [h] at q; exact (Option.some.inj q).symm)) (s.monoK (kp_ulk d0) fun p hp w q => by rw [ulk_ne (nd p hp)]; exact q) ⟨fr.1, fun p hp => ⟨lk_none.mp (fr.2 p hp).1, ulk_none.mpr (fr.2 p hp).2⟩⟩
section
variable {X : Cx} {W : WX} {B : Bs}
theorem pe_or2 {e : Expr} {t u : TE} (h : PE X e t) (h' : PE X e u) : PE X e (fun σ H Q => t σ H Q ∨ u σ H Q) := ⟨fun pins s σ H Q I q => by
  rcases q with q | q
  · exact h.run pins s σ H Q I q
  · exact h'.run pins s σ H Q I q⟩
theorem ps_or2 {e : Stmt} {t u : TS} (h : PS X e t) (h' : PS X e u) : PS X e (fun D σ H => t D σ H ∨ u D σ H) := ⟨fun pins s σ H Q I q => by
  rcases q with q | q
  · exact h.run pins s σ H Q I q
  · exact h'.run pins s σ H Q I q⟩
/-- the keys, the values, the entries of what slot i holds -/
def keysD (kds : List (Key × D)) : List FD := kds.map fun kv => (.T, kD kv.1)
def valsD (kds : List (Key × D)) : List FD := kds.map fun kv => sh kv.2
def itemsD (kds : List (Key × D)) : List FD := kds.map fun kv => (if kv.2.atom then .T else .R, .tup [kD kv.1, kv.2])
theorem tree_key {H : Hp} (k : Key) : Tree H (kD k) (kV k) [] := by
  cases k <;> exact ⟨rfl, rfl⟩
theorem rep_key {K : PySem.W.Frag} {H : Hp} (k : Key) : Rep K H (kD k) (kV k) := by
  cases k <;> rfl
theorem RepK.get {K : PySem.W.Frag} {H : Hp} : ∀ {ds : List (Key × D)} {vs : List (Key × V)} {i : Nat} {kv : Key × D}, RepK K H ds vs → ds[i]? = some kv → ∃ v, vs[i]? = some (kv.1, v) ∧ Rep K H kv.2 v
  | [], _, _, _, _, e => by simp at e
  | (k, d) :: ds, _, 0, kv, ⟨v, t, e, s, q⟩, e' => by subst e; simp at e'; subst e'; exact ⟨v, rfl, s⟩
  | (k, d) :: ds, _, i + 1, kv, ⟨v, t, e, s, q⟩, e' => by
    subst e
    obtain ⟨u, h1, h2⟩ := RepK.get (i := i) (kv := kv) q (by simpa using e')
    exact ⟨u, by simpa using h1, h2⟩
theorem walks_keys {K : PySem.W.Frag} {H0 : Hp} {d : Addr} {o : Obj} {kvs : List (Key × V)} {kds : List (Key × D)} (h : H0 d = some (.frz o (.dK kvs))) (r : RepK K H0 kds kvs) : Walks K (Itk d o kvs) H0 (keysD kds) := by
  have hl : (keysD kds).length = kvs.length := by unfold keysD; rw [List.length_map, r.length]
  refine ⟨fun i H hi hs => ⟨hs _ _ h, by rw [← hl]; exact hi⟩, fun i H hi hs => ⟨hs _ _ h, by rw [← hl]; exact hi⟩, fun i x H v H' hx hs ⟨e, k, w, hk, ev⟩ => ?_⟩
  subst e; subst ev
  unfold keysD at hx
  rw [List.getElem?_map] at hx
  obtain ⟨kv, hkv, rfl⟩ := Option.map_eq_some_iff.mp hx
  obtain ⟨u, hu, _⟩ := r.get hkv
  rw [hk] at hu; cases hu
  exact ⟨[], Same.refl _, tree_key _, FrF.nil⟩
theorem walks_vals {K : PySem.W.Frag} {H0 : Hp} {d : Addr} {o : Obj} {kvs : List (Key × V)} {kds : List (Key × D)} (h : H0 d = some (.frz o (.dK kvs))) (r : RepK K H0 kds kvs)
    (hy : ∀ i H x H', (Itd d o kvs).yld i H x H' → H' = H ∧ ∃ k, kvs[i]? = some (k, x)) (hgo : ∀ i H, (Itd d o kvs).go i H ↔ (H d = some (.frz o (.dK kvs)) ∧ i < kvs.length)) (hst : ∀ i H, (Itd d o kvs).stop i H ↔ (H d = some (.frz o (.dK kvs)) ∧ kvs.length ≤ i)) : Walks K (Itd d o kvs) H0 (valsD kds) := by
  have hl : (valsD kds).length = kvs.length := by unfold valsD; rw [List.length_map, r.length]
  refine ⟨fun i H hi hs => (hgo i H).mpr ⟨hs _ _ h, by rw [← hl]; exact hi⟩, fun i H hi hs => (hst i H).mpr ⟨hs _ _ h, by rw [← hl]; exact hi⟩, fun i x H v H' hx hs y => ?_⟩
  obtain ⟨e, k, hk⟩ := hy i H v H' y
  subst e
  unfold valsD at hx
  rw [List.getElem?_map] at hx
  obtain ⟨kv, hkv, rfl⟩ := Option.map_eq_some_iff.mp hx
  obtain ⟨u, hu, ru⟩ := r.get hkv
  rw [hk] at hu; cases hu
  exact ⟨[], Same.refl _, sh_ok ru, FrF.nil⟩
theorem walks_items {K : PySem.W.Frag} {H0 : Hp} {d : Addr} {o : Obj} {kvs : List (Key × V)} {kds : List (Key × D)} (h : H0 d = some (.frz o (.dK kvs))) (r : RepK K H0 kds kvs) : Walks K (Iti d o kvs) H0 (itemsD kds) := by
  have hl : (itemsD kds).length = kvs.length := by unfold itemsD; rw [List.length_map, r.length]
  refine ⟨fun i H hi hs => ⟨hs _ _ h, by rw [← hl]; exact hi⟩, fun i H hi hs => ⟨hs _ _ h, by rw [← hl]; exact hi⟩, fun i x H v H' hx hs ⟨T, k, w, hk, e1, hT, e2⟩ => ?_⟩
  subst e1; subst e2
  unfold itemsD at hx
  rw [List.getElem?_map] at hx
  obtain ⟨kv, hkv, rfl⟩ := Option.map_eq_some_iff.mp hx
  obtain ⟨u, hu, ru⟩ := r.get hkv
  rw [hk] at hu; cases hu
  refine ⟨[T], fun b o q => by rw [upd_ne (ne_of_none q hT)]; exact q, ?_, ⟨by simp, fun p hp => by rw [List.mem_singleton.mp hp]; exact ⟨hT, hs.free hT⟩⟩⟩
  have two : (2 : Nat) ≤ sizeLine := by decide
  cases ha : kv.2.atom with
  | true => exact ⟨T, _, [], rfl, rfl, upd_same, two, _, _, [], [], rfl, rfl, tree_key _, _, _, [], [], rfl, rfl, ru.tree ha, rfl, rfl⟩
  | false => exact ⟨T, _, rfl, rfl, upd_same, _, rfl, two, _, _, rfl, rep_key _, _, _, rfl, ru, rfl⟩
/-- the entries that slot i's dict holds -/
def gDct (i : Nat) (f : List (Key × D) → List FD) : GA := fun ρ => match ρ[i]? with
  | some (some (.dct kds)) => .ok (f kds)
  | _ => .bad
/-- what walks a dict that is locked: from the dict's address on -/
def WkD (K : PySem.W.Frag) (wi : TI) (i : Nat) (f : List (Key × D) → List FD) : Prop := ∀ σ H R d o kvs, σ[i]? = some (some (.ref d)) → H d = some (.frz o (.dK kvs)) → (∀ J, (∀ H0 kds, H0 d = some (.frz o (.dK kvs)) → RepK K H0 kds kvs → Walks K J H0 (f kds)) → R J H) → wi σ H R
theorem wk_keys {K : PySem.W.Frag} {i : Nat} : WkD K (iKeys (tVar i)) i keysD := fun σ H R d o kvs h1 h2 q => ⟨.ref d, h1, d, o, rfl, .inl ⟨kvs, h2, q _ fun H0 kds h r => walks_keys h r⟩⟩
theorem wk_items {K : PySem.W.Frag} {i : Nat} : WkD K (iItems (tVar i)) i itemsD := fun σ H R d o kvs h1 h2 q => ⟨.ref d, h1, d, o, kvs, rfl, h2, q _ fun H0 kds h r => walks_items h r⟩
theorem wk_vals {K : PySem.W.Frag} {i : Nat} : WkD K (iVals (tVar i)) i valsD := fun σ H R d o kvs h1 h2 q => ⟨.ref d, h1, d, o, kvs, rfl, h2, q _ fun H0 kds h r => walks_vals h r (fun i H x H' y => by
  first
    | exact ⟨y.1, let ⟨k, h⟩ := y.2; ⟨k, h⟩⟩
    | exact y) (fun i H => Iff.rfl) (fun i H => Iff.rfl)⟩
/-- [e for k in d if c]: under the lock, or where another walk holds it -/
theorem ev_compD {elt tg iter : Expr} {ifs : List Expr} {scope : Scope} {own : List (Str × Nat)} {pos : Pos} {g : TG} {is : List Nat} {t : D → Option (List D)} {i : Nat} {f : List (Key × D) → List FD} {wi : TI} {c : GT} {ge : GE} {tt : TT} (hc : X.calm = true) (hN : X.N.Nodup) (hi : PI X tg iter wi) (hw : WkD X.K wi i f) (ok : BlkOk X.N X.env.scope scope own)
    (tgt : Tgt X.K g is t) (hio : ∀ i ∈ is, i ∈ own.map (·.2))
    (hg : ∀ (s : Shared) (H : Hp) (C : Addr) (cl : List (Str × Addr)) (fp : List Addr), PG (X.blk s H scope (compEnvC scope cl C X.env) fp) tg g)
    (htt : ∀ σ H Q, tT (Md.of X) W0 c σ H Q → tt σ H Q) (ht : ∀ (s : Shared) (H : Hp) (C : Addr) (cl : List (Str × Addr)) (fp : List Addr), PTs (X.blk s H scope (compEnvC scope cl C X.env) fp) ifs tt)
    (he : ∀ (s : Shared) (H : Hp) (C : Addr) (cl : List (Str × Addr)) (fp : List Addr), PE (X.blk s H scope (compEnvC scope cl C X.env) fp) elt (tE (Md.of X) W0 ge)) (hs : ∀ x, foldedSetIterable iter X.env x = pure x := by intro _; rfl) :
    PE X (.ListComp elt [⟨tg, iter, ifs, 0⟩] scope pos) (tE (Md.of X) W (gComp (own.map (·.2)) is (gDct i f) t c ge)) := by
  have base := pe_lc (pos := pos) hc hN hi ok hg ht he hs
  refine (pe_or2 base (pe_lock base)).imp fun σ H Q ⟨H0, ρ, hs, hr, q⟩ => ?_
  -- the dict of the slot
  have q : Out (Md.of X) W σ H0 H ((gDct i f ρ).bind _) _ := q
  unfold gDct at q
  split at q
  · rename_i kds hk
    obtain ⟨v, hv, d, kvs, rfl, hd, hz, rk⟩ := hr.2 i _ hk
    have q : Out (Md.of X) W σ H0 H (if (f kds).length ≤ sizeLine then _ else _) _ := q
    split at q
    · rename_i hzf
      cases hcr : compL t is c ge (wipeD ρ (own.map (·.2))) (f kds) with
      | bad => rw [hcr] at q; exact q.elim
      | xc n fs => exact absurd hcr compL_nox
      | ok ys =>
        rw [hcr] at q
        have q : Fin X.K H0 H (mkL ys) Q := q
        have go : ∀ (A0 A : Hp) (o : Obj) (Q : VK), Fin X.K A0 A (mkL ys) Q → Same A0 A → RdE X.K σ ρ A0 → RepK X.K A0 kds kvs → A0 d = some (.frz o (.dK kvs)) → tLc wi g tt (tE (Md.of X) W0 ge) (own.map (·.2)) σ A Q := fun A0 A o Q fin hsA rdA rkA hdA => by
          refine hw σ A _ d o kvs hv (hsA _ _ hdA) fun J wk Dd hD => ?_
          exact comp_core (M := Md.of X) (wk A0 kds hdA rkA) tgt hio htt (fun _ _ _ x => x) hzf hcr rdA hsA (Same.refl _) hD (fun H' H0' vs F ex hDv sh fr nF d0 =>
            comp_end fin (Nat.le_trans (compL_le hcr) hzf) ex hDv sh fr nF d0 hD) (fun p h => h)
        rcases hd with hd | ⟨o, hd⟩
        · right
          refine ⟨d, .dK kvs, hs _ _ hd, trivial, fun od => ?_⟩
          rw [← lk_upd (hs _ _ hd)]
          have on : Onl d (.dK kvs) H0 := fun w q => by rw [hd] at q; exact (Option.some.inj q).symm
          exact go (lk d od H0) (lk d od H) od _ (q.lock hd (hs _ _ hd)) (lk_same hs) (hr.monoK (kp_lk on)) (RepK.monoK (kp_lk on) _ _ rk) (by rw [lk_at, hd]; rfl)
        · left
          exact go H0 H o Q q hs hr rk hd
    · exact q.elim
  · exact q.elim
def Fo.nox : Fo → Fo
  | .xc _ _ _ => .bad
  | o => o
def gForD (i : Nat) (vs is : List Nat) (f : List (Key × D) → List FD) (t : D → Option (List D)) (g : GS) : GS := fun ρ => match ρ[i]? with
  | some (some (_, .dct kds)) => if vs.contains i = true then (forL t is g (f kds) (leakF vs 0 ρ)).nox else .bad
  | _ => .bad
def lkB (d : Addr) (o : Obj) (B : Bs) : Bs := B.map fun b => (lk d o b.1, lk d o b.2)
theorem EnvAt.lock {K : PySem.W.Frag} {σ : L2.St} {ρ : DE} {H H0 : Hp} {F : Nat → List Addr} {d : Addr} {o : Obj} {kvs : List (Key × V)} (e : EnvAt K B σ ρ H H0 F) (h0 : H0 d = some (.dK kvs)) : EnvAt K (lkB d o B) σ ρ (lk d o H) (lk d o H0) F := by
  have on : Onl d (.dK kvs) H0 := fun w q => by rw [h0] at q; exact (Option.some.inj q).symm
  have nd : ∀ i, ∀ p ∈ F i, p ≠ d := fun i p hp z => by
    subst z
    have := ((e.fr i).2 _ hp).2
    rw [h0] at this; cases this
  refine ⟨lk_same e.s0, fun b hb => ?_, fun i x hx => ?_, fun i => ⟨(e.fr i).1, fun p hp => ⟨fun b hb => ?_, lk_none.mpr ((e.fr i).2 p hp).2⟩⟩, fun i p hp z => e.th i p hp (lk_none.mp z), e.dj, e.len⟩
  · obtain ⟨c, hc, rfl⟩ := List.mem_map.mp hb
    have x := e.ext c hc
    exact ⟨lk_same x.s0, lk_same x.s1, lk_same x.s, fun p h1 h2 => lk_none.mpr (x.new p (lk_none.mp h1) fun z => h2 (lk_none.mpr z))⟩
  · obtain ⟨v, h1, h2⟩ := e.sl i x hx
    exact ⟨v, h1, h2.monoK (kp_lk on) fun p hp w q => by rw [lk_ne (nd i p hp)]; exact q⟩
  · obtain ⟨c, hc, rfl⟩ := List.mem_map.mp hb
    exact lk_none.mpr (((e.fr i).2 p hp).1 c hc)
theorem EnvAt.unlock {K : PySem.W.Frag} {σ : L2.St} {ρ : DE} {H H0 : Hp} {F : Nat → List Addr} {d : Addr} {o : Obj} {kvs : List (Key × V)} (e : EnvAt K (lkB d o B) σ ρ H H0 F) (h0 : H0 d = some (.frz o (.dK kvs))) (n : ∀ b ∈ B, Onl d (.dK kvs) b.1 ∧ Onl d (.dK kvs) b.2) :
    EnvAt K B σ ρ (upd H d (.dK kvs)) (ulk d (.dK kvs) H0) F := by
  rw [← ulk_upd (e.s0 _ _ h0)]
  have nd : ∀ i, ∀ p ∈ F i, p ≠ d := fun i p hp z => by
    subst z
    have := ((e.fr i).2 _ hp).2
    rw [h0] at this; cases this
  refine ⟨ulk_same e.s0, fun b hb => ?_, fun i x hx => ?_, fun i => ⟨(e.fr i).1, fun p hp => ⟨fun b hb => ?_, ulk_none.mpr ((e.fr i).2 p hp).2⟩⟩, fun i p hp z => e.th i p hp (ulk_none.mp z), e.dj, e.len⟩
  · exact ext_unl (e.ext (lk d o b.1, lk d o b.2) (List.mem_map.mpr ⟨b, hb, rfl⟩)) (n b hb).1 (n b hb).2
  · obtain ⟨v, h1, h2⟩ := e.sl i x hx
    exact ⟨v, h1, h2.monoK (kp_ulk h0) fun p hp w q => by rw [ulk_ne (nd i p hp)]; exact q⟩
  · exact lk_none.mp (((e.fr i).2 p hp).1 (lk d o b.1, lk d o b.2) (List.mem_map.mpr ⟨b, hb, rfl⟩))
theorem ss_forD {tg iter : Expr} {body : List Stmt} {pos : Pos} {i : Nat} {vs is : List Nat} {f : List (Key × D) → List FD} {wi : TI} {g : TG} {t : D → Option (List D)} {gb : GS} (hp : PassesOwn (model X.prog X.w) X.A X.env X.xe) (hc : X.calm = true) (hi : PI X tg iter wi) (hw : WkD X.K wi i f) (hg : PG X tg g) (tgt : Tgt X.K g is t)
    (hb : PSs X body (tS (Md.of X) W gb)) (hs : ∀ x, foldedSetIterable iter X.env x = pure x := by intro _; rfl) : PS X (.For tg iter body [] pos) (tS (Md.of X) W (gForD i vs is f t gb)) := by
  have base := ps_for (pos := pos) hp hc hi hg hb hs
  refine (ps_or2 base (ps_lock base)).imp fun D σ H ⟨B, ρ, ⟨H0, F, e⟩, q⟩ => ?_
  unfold gForD at q
  split at q
  · rename_i fl kds hx
    split at q
    · rename_i hcv
      have iv : i ∈ vs := by simpa using hcv
      have el := e.leak vs (Ext.refl (e.viewS vs))
      obtain ⟨v, hv, sv⟩ := e.sl i _ hx
      have rv := e.repAt sv (.inr iv)
      obtain ⟨d, kvs, rfl, hd, hz, rk⟩ := rv
      generalize hH : addF H0 H (vs.flatMap F) = A0 at el hd rk
      generalize (fun i => if i ∈ vs then [] else F i) = F' at el
      have hF : ∀ o, forL t is gb (f kds) (leakF vs 0 ρ) = o → OutS (Md.of X) W B D o ∧ ∀ n fs r, o ≠ .xc n fs r := fun o ho => by
        rw [ho] at q
        cases o <;> first | exact ⟨q, fun _ _ _ z => by cases z⟩ | exact (show False from q).elim
      rcases hd with hd | ⟨o, hd⟩
      · right
        refine ⟨d, .dK kvs, el.s0 _ _ hd, trivial, fun od => ?_⟩
        rw [← lk_upd (el.s0 _ _ hd)]
        refine hw σ _ _ d od kvs hv (by rw [lk_at, el.s0 _ _ hd]; rfl) fun J wk => ?_
        have e2 := (EnvAt.lock (o := od) el hd).ground
        have ons : ∀ b ∈ B, Onl d (.dK kvs) b.1 ∧ Onl d (.dK kvs) b.2 := fun b hb => ⟨Onl.of (el.ext b hb).s0 hd, Onl.of (el.ext b hb).s (el.s0 _ _ hd)⟩
        have rkl : RepK X.K (lk d od A0) kds kvs := RepK.monoK (kp_lk fun w q => by rw [hd] at q; exact (Option.some.inj q).symm) _ _ rk
        have d0 : (lk d od A0) d = some (.frz od (.dK kvs)) := by rw [lk_at, hd]; rfl
        have sub : ∀ b ∈ lkB d od B, b ∈ (lk d od A0, lk d od A0) :: lkB d od B := fun b hb => List.mem_cons_of_mem _ hb
        refine for_core (M := Md.of X) (W := W) (wk _ kds d0 rkl) tgt (fun _ _ _ x => x) e2 ?_
        have un : ∀ {σ' ρ' H' H0' F''}, EnvAt X.K ((lk d od A0, lk d od A0) :: lkB d od B) σ' ρ' H' H0' F'' → H' d = some (.frz od (.dK kvs)) ∧ EnvAt X.K B σ' ρ' (upd H' d (.dK kvs)) (ulk d (.dK kvs) H0') F'' := fun {σ' ρ' H' H0' F''} e' => by
          have z := (e'.ext _ List.mem_cons_self).s0 _ _ d0
          exact ⟨e'.s0 _ _ z, (e'.sub sub).unlock z ons⟩
        cases ho : forL t is gb (f kds) (leakF vs 0 ρ) with
        | nx ρ2 =>
          obtain ⟨qo, _⟩ := hF _ ho
          exact fun σ4 H4 ⟨H04, F4, e4⟩ => ⟨(un e4).1, qo σ4 _ ⟨_, _, (un e4).2⟩⟩
        | bk ρ2 =>
          obtain ⟨qo, _⟩ := hF _ ho
          exact fun σ4 H4 ⟨H04, F4, e4⟩ => ⟨(un e4).1, qo σ4 _ ⟨_, _, (un e4).2⟩⟩
        | ct ρ2 =>
          obtain ⟨qo, _⟩ := hF _ ho
          exact fun σ4 H4 ⟨H04, F4, e4⟩ => ⟨(un e4).1, qo σ4 _ ⟨_, _, (un e4).2⟩⟩
        | rt x2 =>
          obtain ⟨qo, _⟩ := hF _ ho
          refine fun w H4 H04 F4 s4 x4 sh4 f4 => ?_
          have z := (x4 _ List.mem_cons_self).s0 _ _ d0
          have zH := s4 _ _ z
          refine ⟨zH, ?_⟩
          rw [← ulk_upd zH]
          have nd : ∀ p ∈ F4, p ≠ d := fun p hp h => by
            subst h
            have := (f4.2 _ hp).2
            rw [z] at this; cases this
          refine qo w _ (ulk d (.dK kvs) H04) F4 (ulk_same s4) (fun b hb => ext_unl (x4 (lk d od b.1, lk d od b.2) (sub _ (List.mem_map.mpr ⟨b, hb, rfl⟩))) (ons b hb).1 (ons b hb).2) (sh4.monoK (kp_ulk z) fun p hp u q => by rw [ulk_ne (nd p hp)]; exact q) ⟨f4.1, fun p hp => ⟨fun b hb => ?_, ulk_none.mpr (f4.2 p hp).2⟩⟩
          exact lk_none.mp ((f4.2 p hp).1 (lk d od b.1, lk d od b.2) (sub _ (List.mem_map.mpr ⟨b, hb, rfl⟩)))
        | xc n fs r => exact absurd rfl ((hF _ ho).2 n fs r)
        | bad => exact ((hF _ ho).1 : False)
      · left
        refine hw σ _ _ d o kvs hv (el.s0 _ _ hd) fun J wk => ?_
        refine for_core (M := Md.of X) (W := W) (wk _ kds hd rk) tgt (fun _ _ _ x => x) el ?_
        exact (hF _ rfl).1
    · exact q.elim
  · exact q.elim
end
end VL
end

section
set_option Elab.async false
set_option maxRecDepth 100000
set_option linter.all false
/-! The value layer, 12: defs; more built-ins; raise, try. -/
namespace VL
open PySem PySem.Spec PyProof.Rows L2

/-! ### a def, by its body -/
def enter (n : Nat) (ds : List D) : DE := ds.map (fun d => some (sh d)) ++ List.replicate (n - ds.length) none
def runG (n : Nat) (g : GS) (ds : List D) : Res FD := match g (enter n ds) with
  | .rt x => .ok x
  | .nx _ => .ok (.T, .non)
  | .xc c fs _ => .xc c fs
  | _ => .bad
theorem enter_env {K : PySem.W.Frag} {H0 H : Hp} {N : List Str} {ds : List D} {vs : List V} (hs : Same H0 H) (r : Reps K H0 ds vs) (hl : ds.length ≤ N.length) : EnvAt K [(H0, H)] (L2.start N vs) (enter N.length ds) H H0 (fun _ => []) := by
  refine ⟨hs, fun b hb => ?_, fun i x hx => ?_, fun i => FrB.nil, fun i p hp => absurd hp (by simp), fun i j _ p hp => absurd hp (by simp), ?_⟩
  · rw [List.mem_singleton.mp hb]; exact Ext.refl hs
  · unfold enter at hx
    by_cases hi : i < ds.length
    · rw [List.getElem?_append_left (by simpa using hi), List.getElem?_map] at hx
      obtain ⟨d, hd, e⟩ := Option.map_eq_some_iff.mp hx
      cases e
      obtain ⟨v, hv, rv⟩ := r.get hd
      refine ⟨v, ?_, sh_ok rv⟩
      unfold L2.start
      have hi' : i < vs.length := by rw [← r.length]; exact hi
      rw [List.getElem?_append_left (by simpa using hi'), List.getElem?_map, hv]; rfl
    · rw [List.getElem?_append_right (by simpa using hi), List.getElem?_replicate] at hx
      split at hx <;> cases hx
  · unfold enter L2.start
    simp only [List.length_append, List.length_map, List.length_replicate, r.length]
def WofE (E : XK) : WX := fun c d _ H => E c d H
theorem ok_body {P : Program} {w : World} {K : PySem.W.Frag} {mg : Str → Option Value} {M : Md} {X : Cx} {N : List Str} {n : Nat} {H : Hp} {vs : List V} {Q : VK} {E : XK} {body : List Stmt} {g : GS} (hn : n ≤ N.length) (h : spD M n (runG N.length g) vs H Q E) :
    tS M (WofE E) g { nx := fun _ H' => Q .non H', rt := Q } (L2.start N vs) H := by
  obtain ⟨H0, ds, hs, r, hl, q⟩ := h
  refine ⟨[(H0, H)], enter N.length ds, ⟨H0, _, enter_env hs r (by omega)⟩, ?_⟩
  unfold runG at q
  cases e : g (enter N.length ds) with
  | rt x =>
    rw [e] at q
    exact fun v H' H0' F s x sx f => q v H' H0' F (x _ List.mem_cons_self) sx ⟨f.1, fun p hp => ⟨(f.2 p hp).1 _ List.mem_cons_self, (f.2 p hp).2⟩⟩
  | nx ρ =>
    rw [e] at q
    exact fun σ' H' ⟨H0', F, e'⟩ => q .non H' H0' [] (e'.ext _ List.mem_cons_self) ⟨rfl, rfl⟩ FrF.nil
  | xc c fs ρ =>
    rw [e] at q
    exact fun C d σ' H' H0' F hm e' xf => q C d H' H0' hm (e'.ext _ List.mem_cons_self) xf
  | bk ρ => rw [e] at q; exact (show False from q).elim
  | ct ρ => rw [e] at q; exact (show False from q).elim
  | bad => rw [e] at q; exact q
/-- a def keeps its promise: its body, read -/
theorem ok_def {P : Program} {w : World} {K : PySem.W.Frag} {mg : Str → Option Value} {base : Heap} {x qual : Str} {st : Stmt} {f : Addr} {fd : FuncData} {N ps : List Str} {k : Nat} {g : GS} (F : Fun K x qual st f fd) (S : FnScope N ps (defScope st))
    (hb : ∀ (cdv : Value) (A : Around) (outer : List Env) (s : Shared) (H : Hp) (E : XK), Room k (A.deeper (envOfC qual (defScope st) s.heap.objs.size f cdv)) → PSs (cxOf (L2.CX P w) P w K mg base N qual (defScope st) f cdv A outer s H E) (defBody st) (tS ⟨K, mg⟩ (WofE E) g)) :
    FnOk P w K mg base (L2.CX P w) (k + 1) f fd ps (spD ⟨K, mg⟩ ps.length (runG N.length g)) := by
  have hn : ps.length ≤ N.length := by have := congrArg List.length S.pre; rw [List.length_take] at this; omega
  refine F.okX S (fun vs H Q E h => spD_len h) fun cdv A outer s H vs Q E hr h => ⟨_, hb cdv A outer s H E hr, ok_body (P := P) (w := w) (K := K) (mg := mg) (X := cxOf (L2.CX P w) P w K mg base N qual (defScope st) f cdv A outer s H E) (body := []) hn h⟩
theorem ok_defD {P : Program} {w : World} {K : PySem.W.Frag} {mg : Str → Option Value} {base : Heap} {x qual : Str} {params : Arguments} {body : List Stmt} {scope : Scope} {dvs : List V} {kws : List (Str × V)} {f : Addr} {fd : FuncData} {N ps : List Str} {k : Nat} {g : GS} (F : FunD K x qual params body scope dvs kws f fd) (S : FnScope N ps scope)
    (hb : ∀ (cdv : Value) (A : Around) (outer : List Env) (s : Shared) (H : Hp) (E : XK), Room k (A.deeper (envOfC qual scope s.heap.objs.size f cdv)) → PSs (cxOf (L2.CX P w) P w K mg base N qual scope f cdv A outer s H E) body (tS ⟨K, mg⟩ (WofE E) g)) :
    FnOk P w K mg base (L2.CX P w) (k + 1) f fd ps (spD ⟨K, mg⟩ ps.length (runG N.length g)) := by
  have hn : ps.length ≤ N.length := by have := congrArg List.length S.pre; rw [List.length_take] at this; omega
  refine F.ok S (fun vs H Q E h => spD_len h) fun cdv A outer s H vs Q E hr h => ⟨_, hb cdv A outer s H E hr, ok_body (P := P) (w := w) (K := K) (mg := mg) (X := cxOf (L2.CX P w) P w K mg base N qual scope f cdv A outer s H E) (body := []) hn h⟩
/-- another function that does the same where it is asked -/
theorem FnOk.eq {P : Program} {w : World} {K : PySem.W.Frag} {mg : Str → Option Value} {base : Heap} {M : Md} {k n : Nat} {f : Addr} {fd : FuncData} {ps : List Str} {m m' : List D → Res FD} (F : FnOk P w K mg base (L2.CX P w) k f fd ps (spD M n m)) (h : ∀ ds, m' ds ≠ .bad → m' ds = m ds) : FnOk P w K mg base (L2.CX P w) k f fd ps (spD M n m') :=
  F.imp fun vs H Q E ⟨H0, ds, hs, r, hl, q⟩ => ⟨H0, ds, hs, r, hl, by
    by_cases hb : m' ds = .bad
    · rw [hb] at q; exact q.elim
    · rw [← h ds hb]; exact q⟩

section
variable {X : Cx} {W : WX} {B : Bs}
theorem ev_callD {k n : Nat} {f : Addr} {fd : FuncData} {ps : List Str} {m : List D → Res FD} {x : Str} {p pos : Pos} {e : Expr} {es : List Expr} {g : List (Option D) → Res (List D)} {dds : List D} {dvs : List V} {ds : List Value}
    (F : FnOk X.prog X.w X.K X.mg X.base (CX X.prog X.w) k f fd ps (spD (Md.of X) n m)) (hr : Room k X.A) (hg : Gl X x) (hm : X.mg x = some (.ref f)) (hk : PySem.W.keepIn X.K (.ref f) = true) (hb : Binds X.K fd ps ds) (hd : Vals dvs ds) (hdd : ∀ H, Reps X.K H dds dvs) (tk : Takes X W)
    (hl : (e :: es).length + dds.length = n) (ha : PA X (e :: es) (tA (Md.of X) W g)) (hln : ∀ ρ ds, g ρ = .ok ds → ds.length = (e :: es).length) (hdb : (x == ("__debug__" : Str)) = false := by decide)
    (he : starEach (e :: es) X.env = (false, eval e X.env) :: starEach es X.env := by rfl) (hpl : (backTo pos (starEach es X.env)).any (·.1) = false := by rfl) :
    PE X (.Call (.Name x p) (e :: es) [] pos) (tE (Md.of X) W (gCall g fun ds => m (ds ++ dds))) := (pe_callSD F hr hg hm hk hb hd (passAt tk) ha hdb he hpl).imp fun σ H Q ⟨H0, ρ, hs, hr, q⟩ => by
  refine ⟨H0, ρ, hs, hr, ?_⟩
  have q : Out (Md.of X) W σ H0 H ((g ρ).bind _) _ := q
  cases e : g ρ with
  | bad => rw [e] at q; exact q.elim
  | xc c fs => rw [e] at q; exact q
  | ok ds =>
    rw [e] at q
    refine fun vs H1 H01 ex rs => ?_
    refine ⟨H01, ds ++ dds, ex.s1, rs.append (hdd _), by rw [List.length_append, hln ρ ds e]; exact hl, ?_⟩
    have q : Out (Md.of X) W σ H0 H (m (ds ++ dds)) _ := q
    cases e2 : m (ds ++ dds) with
    | bad => rw [e2] at q; exact q.elim
    | ok r => rw [e2] at q; exact Fin.after ex q
    | xc c fs => rw [e2] at q; exact fun C d H' H0' hmC e' xf => q C d H' H0' hmC (ex.trans e') xf

/-! ### in, not in -/
def D.toV : D → V
  | .non => .non
  | .bl b => .bl b
  | .int i => .int i
  | .str z => .str z
  | _ => .non
theorem rep_atom {K : PySem.W.Frag} {H : Hp} {d : D} {v : V} (h : d.atom = true) (r : Rep K H d v) : v = d.toV := by
  cases d <;> first | (cases r; rfl) | simp [D.atom] at h
theorem reps_atoms {K : PySem.W.Frag} {H : Hp} : ∀ {ds : List D} {vs : List V}, atoms ds = true → Reps K H ds vs → vs = ds.map D.toV
  | [], _, _, r => r
  | d :: ds, _, h, ⟨v, t, e, s, q⟩ => by
    simp only [atoms, List.all_cons, Bool.and_eq_true] at h
    subst e
    rw [rep_atom h.1 s, reps_atoms h.2 q]; rfl
theorem flat_toV {d : D} (h : d.atom = true) : flatV d.toV = true := by
  cases d <;> first | rfl | simp [D.atom] at h
theorem flats_toV : ∀ {ds : List D}, atoms ds = true → (ds.map D.toV).all flatV = true
  | [], _ => rfl
  | d :: ds, h => by
    simp only [atoms, List.all_cons, Bool.and_eq_true] at h
    simp only [List.map_cons, List.all_cons, flat_toV h.1, Bool.true_and]
    exact flats_toV h.2
def inA (d : D) (ds : List D) : Option Bool := if d.atom = true ∧ atoms ds = true then some (ds.any fun y => eqV y.toV d.toV) else none
def inD (d c : D) : Option Bool := match c with
  | .dct kds => (keyOf d).map fun k => (look kds k).isSome
  | .lst ds => inA d ds
  | .tup ds => inA d ds
  | .str z => match d with
    | .str ⟨⟨[c]⟩⟩ => some (decide (c ∈ z.cps.toList))
    | _ => none
  | _ => none
theorem inV_eq {d : D} {ds : List D} : inV d.toV (ds.map D.toV) = ds.any fun y => eqV y.toV d.toV := by
  unfold inV; rw [List.any_map]; rfl
theorem op_inV (hu : X.A.units + 64 < cLine) : OpR X (compareOp .In) (rV X.K (fB inD)) := fun pins s σ H x y v u Q I rx ry ⟨H0, a, b, r, hs, ra, rb, e, f⟩ => by
  obtain ⟨k, e1, rfl⟩ := fB_some e
  unfold inD at e1
  split at e1
  · rename_i kds
    obtain ⟨ky, hk, rfl⟩ := Option.map_eq_some_iff.mp e1
    obtain ⟨p, kvs, rfl, h1, z1, r1⟩ := rb
    have ey := keyOf_rep hk ra
    subst ey
    cases ry
    refine d_in (o := valV kvs ky) (by omega) I (.inl ⟨kvs, ky, same_rd hs h1, rfl, rfl⟩) rx fun s' I' => ⟨.bl _, H, I', rfl, ?_⟩
    have : (valV kvs ky).isSome = (look kds ky).isSome := by
      rcases r1.look ky with ⟨e3, e4⟩ | ⟨d', v', e3, e4, _⟩
      · rw [e3, e4]; rfl
      · rw [e3, e4]; rfl
    rw [this]
    exact Fin.atom f hs ⟨rfl, rfl⟩
  · unfold inA at e1
    split at e1
    · rename_i hc
      cases e1
      obtain ⟨p, vs, rfl, h1, z1, r1⟩ := rb
      rw [rep_atom hc.1 ra] at rx
      rw [reps_atoms hc.2 r1] at h1
      exact op_in_seq pins s σ H _ _ v u Q I rx ry ⟨_, _, rfl, .inl (SqL.of (hs _ _ h1)), flat_toV hc.1, flats_toV hc.2, by rw [if_neg Bool.false_ne_true, inV_eq]; exact Fin.atom f hs ⟨rfl, rfl⟩⟩
    · cases e1
  · unfold inA at e1
    split at e1
    · rename_i hc
      cases e1
      obtain ⟨p, vs, rfl, h1, z1, r1⟩ := rb
      rw [rep_atom hc.1 ra] at rx
      rw [reps_atoms hc.2 r1] at h1
      exact op_in_seq pins s σ H _ _ v u Q I rx ry ⟨_, _, rfl, .inr (same_seqT hs h1), flat_toV hc.1, flats_toV hc.2, by rw [if_neg Bool.false_ne_true, inV_eq]; exact Fin.atom f hs ⟨rfl, rfl⟩⟩
    · cases e1
  · split at e1
    · cases e1; cases ra; cases rb
      exact op_in_sign pins s σ H _ _ v u Q I rx ry ⟨_, _, rfl, rfl, Fin.atom f hs ⟨rfl, rfl⟩⟩
    · cases e1
  · cases e1
theorem op_ninV (hu : X.A.units + 64 < cLine) : OpR X (compareOp .NotIn) (rV X.K (fB fun a b => (inD a b).map (!·))) := fun pins s σ H x y v u Q I rx ry ⟨H0, a, b, r, hs, ra, rb, e, f⟩ => by
  obtain ⟨k, e1, rfl⟩ := fB_some e
  cases e2 : inD a b with
  | none => rw [e2] at e1; cases e1
  | some k0 =>
  rw [e2] at e1; cases e1
  unfold inD at e2
  split at e2
  · rename_i kds
    obtain ⟨ky, hk, rfl⟩ := Option.map_eq_some_iff.mp e2
    obtain ⟨p, kvs, rfl, h1, z1, r1⟩ := rb
    have ey := keyOf_rep hk ra
    subst ey
    cases ry
    refine d_notIn (o := valV kvs ky) (by omega) I (.inl ⟨kvs, ky, same_rd hs h1, rfl, rfl⟩) rx fun s' I' => ⟨.bl _, H, I', rfl, ?_⟩
    have : (valV kvs ky).isSome = (look kds ky).isSome := by
      rcases r1.look ky with ⟨e3, e4⟩ | ⟨d', v', e3, e4, _⟩
      · rw [e3, e4]; rfl
      · rw [e3, e4]; rfl
    rw [this]
    exact Fin.atom f hs ⟨rfl, rfl⟩
  · unfold inA at e2
    split at e2
    · rename_i hc
      cases e2
      obtain ⟨p, vs, rfl, h1, z1, r1⟩ := rb
      rw [rep_atom hc.1 ra] at rx
      rw [reps_atoms hc.2 r1] at h1
      exact op_notIn_seq pins s σ H _ _ v u Q I rx ry ⟨_, _, rfl, .inl (SqL.of (hs _ _ h1)), flat_toV hc.1, flats_toV hc.2, by rw [if_pos rfl, inV_eq]; exact Fin.atom f hs ⟨rfl, rfl⟩⟩
    · cases e2
  · unfold inA at e2
    split at e2
    · rename_i hc
      cases e2
      obtain ⟨p, vs, rfl, h1, z1, r1⟩ := rb
      rw [rep_atom hc.1 ra] at rx
      rw [reps_atoms hc.2 r1] at h1
      exact op_notIn_seq pins s σ H _ _ v u Q I rx ry ⟨_, _, rfl, .inr (same_seqT hs h1), flat_toV hc.1, flats_toV hc.2, by rw [if_pos rfl, inV_eq]; exact Fin.atom f hs ⟨rfl, rfl⟩⟩
    · cases e2
  · split at e2
    · cases e2; cases ra; cases rb
      exact op_notIn_sign pins s σ H _ _ v u Q I rx ry ⟨_, _, rfl, rfl, Fin.atom f hs ⟨rfl, rfl⟩⟩
    · cases e2
  · cases e2

/-! ### slices -/
def cutL {α : Type} (xs : List α) (lo hi : Option Int) : List α := (xs.drop (HT.sIx xs.length 0 lo)).take (HT.sIx xs.length xs.length hi - HT.sIx xs.length 0 lo)
theorem Reps.cut {K : PySem.W.Frag} {H : Hp} {ds : List D} {vs : List V} (r : Reps K H ds vs) (lo hi : Option Int) : Reps K H (cutL ds lo hi) (cutV vs lo hi) := by
  unfold cutL cutV
  rw [r.length]
  exact Reps.take _ (Reps.drop _ r)
theorem cutL_length {α : Type} (xs : List α) (lo hi : Option Int) : (cutL xs lo hi).length ≤ xs.length := by
  unfold cutL
  rw [List.length_take, List.length_drop]; omega
/-- a part of a slice: none, or an int -/
def gPt : Option GE → List (Option D) → Res (Option Int)
  | none, _ => .ok none
  | some g, ρ => (g ρ).bind fun x => match x.2 with
    | .int i => .ok (some i)
    | _ => .bad
def sliceD : D → Option Int → Option Int → Res FD
  | .lst ds, lo, hi => .ok (flL (cutL ds lo hi), .lst (cutL ds lo hi))
  | .str z, lo, hi => if z.length ≤ sizeLine then .ok (.T, .str (cutS z lo hi)) else .bad
  | _, _, _ => .bad
def gSl (g : GE) (a b : Option GE) : GE := fun ρ => (g ρ).bind fun x => (gPt a ρ).bind fun lo => (gPt b ρ).bind fun hi => sliceD x.2 lo hi
/-- a part's reading -/
structure Prt (X : Cx) (W : WX) (e : Option Expr) (g : Option GE) : Prop where
  ok : ∃ t, PO X e t ∧ ∀ σ H (Q : Option Int → Hp → Prop), (∃ H0 ρ, Same H0 H ∧ RdE X.K σ ρ H0 ∧ Out (Md.of X) W σ H0 H (gPt g ρ) fun i => ∀ H' H0', Ext H0 H H0' H' → Q i H') → t σ H Q
theorem prt_none : Prt X W none none := ⟨tNoPart, po_none, fun σ H Q ⟨H0, ρ, hs, hr, q⟩ => q H H0 (Ext.refl hs)⟩
theorem prt_some {e : Expr} {g : GE} (h : PE X e (tE (Md.of X) W g)) : Prt X W (some e) (some g) := ⟨tPart _, po_some h, fun σ H Q ⟨H0, ρ, hs, hr, q⟩ => by
  show tE _ _ g σ H fun x H1 => ∃ i, x = .int i ∧ Q (some i) H1
  refine ⟨H0, ρ, hs, hr, (Out.bind q).imp fun x qx => fun v H1 H01 F e s fr => ?_⟩
  obtain ⟨e1, r1⟩ := e.letgo s fr
  split at qx
  · rename_i i hi
    rw [hi] at r1
    cases r1
    exact ⟨i, rfl, qx _ _ e⟩
  · exact qx.elim⟩
theorem ev_sl {e : Expr} {lo hi : Option Expr} {pos p2 : Pos} {g : GE} {a b : Option GE} (h : PE X e (tE (Md.of X) W g)) (ha : Prt X W lo a) (hb : Prt X W hi b) : PE X (.Subscript e (.Slice lo hi none p2) pos) (tE (Md.of X) W (gSl g a b)) := by
  obtain ⟨tl, hl, ql⟩ := ha.ok
  obtain ⟨th, hh, qh⟩ := hb.ok
  refine (pe_slice (SlR.or sl_list sl_str) h hl hh).imp fun σ H Q ⟨H0, ρ, hs, hr, q⟩ => ?_
  refine ⟨H0, ρ, hs, hr, (Out.bind q).imp fun x qx => fun v H1 H01 F e s fr => ?_⟩
  obtain ⟨e1, r1⟩ := e.letgo s fr
  refine ql _ _ _ ⟨_, ρ, e1.s1, hr.mono e1.s0, Out.after e1 (Out.bind qx) fun i qi => fun H2 H02 e2 => ?_⟩
  refine qh _ _ _ ⟨_, ρ, e2.s1, hr.mono (e1.s0.trans e2.s0), Out.after (e1.trans e2) (Out.bind qi) fun j qj => fun H3 H03 e3 => ?_⟩
  have eA := (e1.trans e2).trans e3
  have r3 := Rep.mono (e2.s0.trans e3.s0) _ _ r1
  unfold sliceD at qj
  split at qj
  · rename_i ds lo hi hd
    rw [hd] at r3
    obtain ⟨p, vs, rfl, h1, z1, r4⟩ := r3
    exact .inl ⟨p, vs, rfl, SqL.of (e3.s1 _ _ h1), fun p hp => Fin.newLst (Fin.after eA qj) e3.s1 (r4.cut _ _) (Nat.le_trans (cutL_length _ _ _) z1) hp⟩
  · rename_i z lo hi hd
    rw [hd] at r3
    cases r3
    split at qj
    · rename_i hz
      exact .inr ⟨_, rfl, hz, Fin.atom (K := X.K) (Fin.after eA qj) e3.s1 ⟨rfl, rfl⟩⟩
    · exact qj.elim
  · exact qj.elim

/-! ### sep.join(xs), xs.index(y) -/
def joinD : D → D → Option FD
  | .str a, .lst ds => (asStrs ds).bind fun ys => if (ys.map fun x => x.length).sum + ys.length * a.length ≤ 16777216 then some (.T, .str (Txt.join a ys)) else none
  | _, _ => none
def gJoin (go ge : GE) : GE := fun ρ => (go ρ).bind fun x => match x.2 with
  | .str a => (ge ρ).bind fun y => ofO (joinD (.str a) y.2)
  | _ => .bad
theorem ev_join {o e : Expr} {apos pos : Pos} {go ge : GE} (ho : PE X o (tE (Md.of X) W go)) (he : PE X e (tE (Md.of X) W ge)) (h1 : starEach [e] X.env = [(false, eval e X.env)] := by rfl) (h2 : attributeBase o "join" X.env (eval o X.env) = eval o X.env := by rfl) (h3 : (apos.endLine == pos.line) = true := by rfl) :
    PE X (.Call (.Attribute o "join" apos) [e] [] pos) (tE (Md.of X) W (gJoin go ge)) := (pe_join ho he h1 h2 h3).imp fun σ H Q ⟨H0, ρ, hs, hr, q⟩ => by
  refine ⟨H0, ρ, hs, hr, (Out.bind q).imp fun x qx => fun v H1 H01 F e s fr => ?_⟩
  obtain ⟨e1, r1⟩ := e.letgo s fr
  split at qx
  · rename_i a hx
    rw [hx] at r1
    cases r1
    refine ⟨⟨a, rfl⟩, _, ρ, e1.s1, hr.mono e1.s0, Out.after e1 (Out.bind qx) fun y qy => fun u H2 H02 G e' s' fr' => ?_⟩
    obtain ⟨e2, r2⟩ := e'.letgo s' fr'
    cases hj : joinD (.str a) y.2 with
    | none => rw [hj] at qy; exact qy.elim
    | some r =>
      rw [hj] at qy
      have qy : Fin X.K H0 H r Q := qy
      cases hy : y.2 with
      | lst ds =>
        rw [hy] at hj r2
        simp only [joinD] at hj
        obtain ⟨ys, hys, hj⟩ := Option.bind_eq_some_iff.mp hj
        split at hj
        · rename_i hz
          cases hj
          obtain ⟨p, vs, rfl, h1, z1, r4⟩ := r2
          rw [asStrs_eq hys] at r4
          rw [r4.strs] at h1
          exact ⟨a, p, ys, rfl, rfl, .inl (SqL.of (e2.s1 _ _ h1)), hz, Fin.atom (K := X.K) (Fin.after (e1.trans e2) qy) e2.s1 ⟨rfl, rfl⟩⟩
        · cases hj
      | _ => rw [hy] at hj; cases hj
  · exact qx.elim
/-- the place of the first that is equal -/
def idxA (ds : List D) (d : D) : Option Nat := ds.findIdx? fun y => eqV y.toV d.toV
def idxD : D → D → Option FD
  | .lst ds, d => if d.atom = true ∧ atoms ds = true then (idxA ds d).map fun j => (.T, .int (j : Int)) else none
  | _, _ => none
def gMt (go ge : GE) (f : D → D → Option FD) : GE := fun ρ => (go ρ).bind fun x => match x.2 with
  | .lst ds => (ge ρ).bind fun y => ofO (f (.lst ds) y.2)
  | _ => .bad
theorem ev_index {o e : Expr} {apos cpos : Pos} {go ge : GE} (ho : PE X o (tE (Md.of X) W go)) (he : PE X e (tE (Md.of X) W ge)) (h1 : attributeBase o "index" X.env (eval o X.env) = eval o X.env := by rfl)
    (h2 : ((((backTo cpos (starEach [e] X.env)).all fun x => !x.1) && (backToKw cpos (keywordEach [] X.env)).all fun x => x.1.isSome) && decide (([e].length + ([] : List Keyword).length + if ([] : List Keyword).isEmpty = true then 0 else 1) < 30)) = true := by rfl)
    (h3 : (apos.endLine == cpos.line) = true := by rfl) (h4 : starEach [e] X.env = (false, eval e X.env) :: starEach [] X.env := by rfl) :
    PE X (.Call (.Attribute o "index" apos) [e] [] cpos) (tE (Md.of X) W (gMt go ge idxD)) := (pe_bm PySem.F.plainAttrs_list PySem.F.slot_list_index PySem.F.type_list_index mt_index ho (pa_cons he pa_nil h4) h1 h2 h3 h4).imp fun σ H Q ⟨H0, ρ, hs, hr, q⟩ => by
  refine ⟨H0, ρ, hs, hr, (Out.bind q).imp fun x qx => fun v H1 H01 F e s fr => ?_⟩
  obtain ⟨e1, r1⟩ := e.letgo s fr
  split at qx
  · rename_i ds hx
    rw [hx] at r1
    obtain ⟨p, vs, rfl, h1, z1, r4⟩ := r1
    refine ⟨.inl ⟨rfl, vs, SqL.of (e1.s1 _ _ h1)⟩, _, ρ, e1.s1, hr.mono e1.s0, Out.after e1 (Out.bind qx) fun y qy => fun u H2 H02 G e' s' fr' => ?_⟩
    obtain ⟨e2, r2⟩ := e'.letgo s' fr'
    simp only [idxD] at qy
    split at qy
    · rename_i hc
      cases hj : idxA ds y.2 with
      | none => rw [hj] at qy; exact qy.elim
      | some j =>
        rw [hj] at qy
        have qy : Fin X.K H0 H (.T, .int (j : Int)) Q := qy
        have ev := rep_atom hc.1 r2
        have evs := reps_atoms hc.2 r4
        obtain ⟨hlt, hj1, hj2⟩ := List.findIdx?_eq_some_iff_getElem.mp hj
        subst ev; subst evs
        refine ⟨p, ds.map D.toV, y.2.toV, j, ds[j].toV, rfl, rfl, SqL.of (e2.s1 _ _ (e2.s0 _ _ h1)), flat_toV hc.1, flats_toV hc.2, by rw [List.getElem?_map, List.getElem?_eq_getElem hlt]; rfl, hj1, fun m z' hm hz => ?_, Fin.atom (K := X.K) (Fin.after (e1.trans e2) qy) e2.s1 ⟨rfl, rfl⟩⟩
        have hml : m < ds.length := by omega
        rw [List.getElem?_map, List.getElem?_eq_getElem hml] at hz
        cases hz
        simpa using hj2 m hm
    · exact qy.elim
  · exact qx.elim

/-! ### dict(pairs), list(d) -/
def asPairs : List D → Option (List (Key × D))
  | [] => some []
  | .tup [k, d] :: r => (keyOf k).bind fun k => (asPairs r).map fun t => (k, d) :: t
  | _ => none
def mergeD (kds more : List (Key × D)) : List (Key × D) := more.foldl (fun acc kv => putD acc kv.1 kv.2) kds
def dictD : List D → Option FD
  | [.lst ds] => (asPairs ds).bind fun kds => some (.R, .dct (mergeD [] kds))
  | _ => none
theorem mergeD_ok {K : PySem.W.Frag} {H : Hp} : ∀ {more : List (Key × D)} {mv : List (Key × V)} {kds : List (Key × D)} {kvs : List (Key × V)}, RepK K H more mv → RepK K H kds kvs → RepK K H (mergeD kds more) (mergeK kvs mv)
  | [], _, _, _, r, q => by cases r; exact q
  | (k, d) :: r, _, _, _, ⟨v, t, e, s, q'⟩, q => by
    subst e
    show RepK K H (mergeD (putD _ k d) r) (mergeK (putK _ k v) t)
    exact mergeD_ok q' (q.put s)
theorem mergeD_nodup : ∀ {more kds : List (Key × D)}, (kds.map (·.1)).Nodup → ((mergeD kds more).map (·.1)).Nodup
  | [], _, h => h
  | (k, d) :: r, kds, h => mergeD_nodup (more := r) (putD_nodup k d h)
theorem mergeD_length : ∀ {more kds : List (Key × D)}, (mergeD kds more).length ≤ kds.length + more.length
  | [], kds => by simp [mergeD]
  | (k, d) :: r, kds => by
    have h1 := mergeD_length (more := r) (kds := putD kds k d)
    have h2 := putD_length kds k d
    show (mergeD (putD kds k d) r).length ≤ _
    simp only [List.length_cons]; omega
theorem asPairs_length : ∀ {ds : List D} {kds : List (Key × D)}, asPairs ds = some kds → kds.length = ds.length
  | [], _, h => by cases h; rfl
  | d :: ds, _, h => by
    unfold asPairs at h
    split at h <;> first | (cases h; done) | skip
    · rename_i heq; cases heq
    · rename_i heq
      cases heq
      obtain ⟨k, hk, h⟩ := Option.bind_eq_some_iff.mp h
      obtain ⟨t, ht, rfl⟩ := Option.map_eq_some_iff.mp h
      simp [asPairs_length ht]
theorem asPairs_rep {K : PySem.W.Frag} {H : Hp} : ∀ {ds : List D} {vs : List V} {kds : List (Key × D)}, asPairs ds = some kds → Reps K H ds vs → ∃ ps kvs, vs = ps.map V.ref ∧ Paired (fun p kv => SqT K H p [kV kv.1, kv.2]) ps kvs ∧ RepK K H kds kvs
  | [], _, _, h, r => by cases h; cases r; exact ⟨[], [], rfl, .nil, rfl⟩
  | d :: ds, _, _, h, ⟨v, t, e, s, q⟩ => by
    subst e
    unfold asPairs at h
    split at h <;> first | (cases h; done) | skip
    · rename_i heq; cases heq
    · rename_i heq
      cases heq
      obtain ⟨k, hk, h⟩ := Option.bind_eq_some_iff.mp h
      obtain ⟨kt, ht, rfl⟩ := Option.map_eq_some_iff.mp h
      obtain ⟨a, vs, rfl, s1, z, w1, t1, e1, r1, w2, t2, e2, r2, e3⟩ := s
      subst e3; subst e2; subst e1
      have := keyOf_rep hk r1
      subst this
      obtain ⟨ps, kvs, rfl, pp, rr⟩ := asPairs_rep ht q
      exact ⟨a :: ps, (k, w2) :: kvs, rfl, .cons s1 pp, w2, kvs, rfl, r2, rr⟩
theorem call_dictV (hc : X.calm = true) : CallR X (.type "dict") (rVs X.K dictD) := fun pins s σ H xs us Q I rx ⟨H0, ds, r, hs, rs, e, f⟩ => by
  unfold dictD at e
  split at e
  · obtain ⟨kds, e1, e⟩ := Option.bind_eq_some_iff.mp e
    cases e
    obtain ⟨v, t, rfl, ⟨a, vs, rfl, h, z, q⟩, rfl⟩ := rs
    obtain ⟨ps, kvs, rfl, pp, rr⟩ := asPairs_rep e1 q
    refine call_dictP hc pins s σ H _ us Q I rx ⟨a, ps, kvs, rfl, SqL.of (hs _ _ h), Paired.mapP pp fun p kv h => same_seqT hs h, fun p hp => ?_⟩
    refine Fin.newR f hs ⟨_, rfl, ⟨?_, mergeD_nodup (by simp)⟩, mergeD_ok rr rfl⟩ hp
    have h1 := mergeD_length (more := kds) (kds := [])
    have h2 := asPairs_length e1
    simp only [List.length_nil] at h1
    omega
  · cases e
theorem trees_keys {H : Hp} : ∀ (kds : List (Key × D)) (kvs : List (Key × V)), kds.map (·.1) = kvs.map (·.1) → Trees H (kds.map fun kv => kD kv.1) (kvs.map fun kv => kV kv.1) []
  | [], [], _ => ⟨rfl, rfl⟩
  | [], _ :: _, h => by simp at h
  | _ :: _, [], h => by simp at h
  | (k, d) :: ds, (j, v) :: vs, h => by
    simp only [List.map_cons, List.cons.injEq] at h
    obtain ⟨h1, h2⟩ := h
    subst h1
    exact ⟨kV k, _, [], [], rfl, rfl, tree_key k, trees_keys ds vs h2⟩
end
end VL
end

section
set_option Elab.async false
set_option maxRecDepth 100000
set_option linter.all false
/-! The value layer, 13: raise, try. -/
namespace VL
open PySem PySem.Spec PyProof.Rows L2
section
variable {X : Cx} {W : WX} {B : Bs}
def gRaise (c : Str) : GS := fun ρ => .xc c [] ρ
theorem ss_raise {c : Str} {C : Addr} {st : Stmt} (hm : X.mg c = some (.ref C)) (h : PS X st (fun _ σ H => W (.ref C) none σ H)) : PS X st (tS (Md.of X) W (gRaise c)) := h.imp fun D σ H ⟨B, ρ, ⟨H0, F, e⟩, q⟩ =>
  q C none σ H H0 F hm e rfl
/-- an exception in hand: its class by name, its fields -/
def tH (M : Md) (c : Str) (fs : List (Str × D)) (cls : Value) (d : Option Addr) (g : GS) : TS := fun D σ H => M.mg c = some cls ∧ ∃ B ρ H0 F, EnvAt M.K B σ ρ H H0 F ∧ XF M.K H0 H d fs ∧ OutS M W0 B D (g ρ)
theorem ps_ex {st : List Stmt} {α : Type} {t : α → TS} (h : ∀ a, PSs X st (t a)) : PSs X st (fun D σ H => ∃ a, t a D σ H) := ⟨fun pins s σ H D I ⟨a, q⟩ => (h a).run pins s σ H D I q⟩
theorem ps_if_ {st : List Stmt} {p : Prop} {t : TS} (h : p → PSs X st t) : PSs X st (fun D σ H => p ∧ t D σ H) := ⟨fun pins s σ H D I ⟨a, q⟩ => (h a).run pins s σ H D I q⟩
/-- which handler, by the exception's name -/
def gTry (i : Nat) (mt : Str → Option Bool) (gb : GS) (h : Str → List (Str × D) → GS) : GS := fun ρ => match gb ρ with
  | .xc c fs ρ' => if i < ρ'.length then match mt c with
    | some true => match h c fs (ρ'.set i none) with
      | .nx ρ2 => .nx (ρ2.set i none)
      | .bk ρ2 => .bk (ρ2.set i none)
      | .ct ρ2 => .ct (ρ2.set i none)
      | .xc _ _ _ => .bad
      | o => o
    | some false => .xc c fs ρ'
    | none => .bad
    else .bad
  | o => o
theorem ss_tryAs {x n : Str} {C : Addr} {i : Nat} {body suite : List Stmt} {b0 : Stmt} {np pos pos' : Pos} {mt : Str → Option Bool} {gb : GS} {hg : Str → List (Str × D) → GS} (hs : X.stack = X.env :: X.outer) (hf : X.env.frame = some X.env.locals) (hN : X.N.Nodup) (hi : X.N[i]? = some n) (hln : X.env.kindOf n = some .local)
    (hc : Names X x (.ref C)) (hmt : ∀ c Cc b, X.mg c = some (.ref Cc) → mt c = some b → PySem.W.exmOne X.K (.ref Cc) (.ref C) = some b) (tk : Takes X W)
    (hb : ∀ (W' : WX) (pn : List (Addr × Obj)) (xe : Value → Shared → Prop), Takes (X.tr pn xe) W' → PassesOwn (model X.prog X.w) X.A X.env xe → PSs (X.tr pn xe) body (tS (Md.of X) W' gb))
    (hsu : ∀ (c : Str) (fs : List (Str × D)) (a : Addr) (oe : Obj) (cls : Value) (d : Option Addr) (pn : List (Addr × Obj)), X.mg c = some cls → Zc cls d oe → (∃ vs, oe.data = .fields vs) → (fs = [] → d = none) → PSs (X.suite a ((a, oe) :: pn)) (b0 :: suite) (fun D σ H => σ[i]? = some (some (.ref a)) ∧ tS (Md.of X) W0 (hg c fs) D σ H)) :
    PS X (.Try body [.ExceptHandler (some (.Name x np)) (some n) (b0 :: suite) pos'] [] [] pos) (tS (Md.of X) W (gTry i mt gb hg)) := by
  refine (ps_try_as (ts := fun a cls d => fun D σ H => ∃ p : Str × List (Str × VL.D), (X.mg p.1 = some cls ∧ (p.2 = [] → d = none)) ∧ σ[i]? = some (some (.ref a)) ∧ tS (Md.of X) W0 (hg p.1 p.2) D σ H) hs hf hN hi hln hc tk hb fun a oe cls d pn hz hv => ps_ex fun p => ps_if_ fun hp => hsu p.1 p.2 a oe cls d pn hp.1 hz hv hp.2).imp fun D σ H ⟨B, ρ, e, q⟩ => ?_
  refine ⟨B, ρ, e, ?_⟩
  unfold gTry at q
  cases hgb : gb ρ with
  | nx r => rw [hgb] at q; exact q
  | rt r => rw [hgb] at q; exact q
  | bk r => rw [hgb] at q; exact q
  | ct r => rw [hgb] at q; exact q
  | bad => rw [hgb] at q; exact q
  | xc c fs ρ' =>
    rw [hgb] at q
    intro Cc d σ' H' H0' F' hm e' xf
    have hfd : fs = [] → d = none := fun h => by subst h; exact xf
    have hil0 : i < ρ'.length := by
      by_cases h : i < ρ'.length
      · exact h
      · have q : OutS (Md.of X) W B D (if i < ρ'.length then _ else .bad) := q
        rw [if_neg h] at q
        exact (show False from q).elim
    have q : OutS (Md.of X) W B D (if i < ρ'.length then _ else .bad) := q
    rw [if_pos hil0] at q
    have hil : i < σ'.length := by rw [← e'.len]; exact hil0
    cases hmc : mt c with
    | none => rw [hmc] at q; exact (show False from q).elim
    | some b =>
      rw [hmc] at q
      refine ⟨b, hmt c Cc b hm hmc, fun hb a ha => ?_, fun hb => ?_⟩
      · subst hb
        -- the handler, its name's slot not read
        have e2 : EnvAt X.K B (σ'.set i (some (.ref a))) (ρ'.set i none) H' H0' F' := by
          refine ⟨e'.s0, e'.ext, fun j y hy => ?_, e'.fr, e'.th, e'.dj, by simp [e'.len]⟩
          by_cases hj : j = i
          · subst hj
            by_cases hl : j < ρ'.length
            · rw [List.getElem?_set_self hl] at hy; cases hy
            · rw [List.getElem?_eq_none (by simpa using hl)] at hy; cases hy
          · rw [List.getElem?_set_ne (Ne.symm hj)] at hy ⊢
            exact e'.sl j y hy
        refine ⟨(c, fs), ⟨hm, hfd⟩, List.getElem?_set_self hil, B, _, ⟨_, _, e2⟩, ?_⟩
        have q : OutS (Md.of X) W B D (match hg c fs (ρ'.set i none) with
          | .nx ρ2 => .nx (ρ2.set i none)
          | .bk ρ2 => .bk (ρ2.set i none)
          | .ct ρ2 => .ct (ρ2.set i none)
          | .xc _ _ _ => .bad
          | o => o) := q
        cases ho : hg c fs (ρ'.set i none) with
        | nx r =>
          rw [ho] at q
          exact fun σ4 H4 ⟨H04, F4, e4⟩ => q _ _ ⟨_, _, e4.unset i⟩
        | bk r =>
          rw [ho] at q
          exact fun σ4 H4 ⟨H04, F4, e4⟩ => q _ _ ⟨_, _, e4.unset i⟩
        | ct r =>
          rw [ho] at q
          exact fun σ4 H4 ⟨H04, F4, e4⟩ => q _ _ ⟨_, _, e4.unset i⟩
        | rt r => rw [ho] at q; exact q
        | xc _ _ _ => rw [ho] at q; exact (show False from q).elim
        | bad => rw [ho] at q; exact q
      · subst hb
        exact q Cc d σ' H' H0' F' hm e' xf
/-- return isinstance(e, C) of the exception in hand -/
theorem ss_retIsE {a D C : Addr} {oe : Obj} {pn : List (Addr × Obj)} {i : Nat} {st : Stmt} {b : Bool} (hk : PySem.W.kitOne X.K (.ref D) (.ref C) = some b)
    (h : PS (X.suite a ((a, oe) :: pn)) st (tRet (tCB (rIsE X.K D a) (tCons (tVar i) (tCons (tC (.ref C)) tNil))))) :
    PS (X.suite a ((a, oe) :: pn)) st (fun D σ H => σ[i]? = some (some (.ref a)) ∧ tS (Md.of X) W0 (fun _ => .rt (.T, .bl b)) D σ H) := h.imp fun D σ H ⟨h1, B, ρ, ⟨H0, F, e⟩, q⟩ =>
  ⟨.ref a, h1, .ref C, .ref C, b, rfl, fun u r => r, hk, q _ _ _ [] e.s0 e.ext ⟨rfl, rfl⟩ FrB.nil⟩
end
end VL
end

section
set_option Elab.async false
set_option maxRecDepth 100000
set_option linter.all false
/-! The value layer, 14: what callers hold of a def; displays of dicts; short words. -/
namespace VL
open PySem PySem.Spec PyProof.Rows L2

/-- a def as its callers see it -/
structure Cal (P : Program) (w : World) (K : PySem.W.Frag) (mg : Str → Option Value) (base : Heap) (k : Nat) (x : Str) (ps : List Str) (m : List D → Res FD) : Prop where
  ex : ∃ (f : Addr) (fd : FuncData), FnOk P w K mg base (L2.CX P w) k f fd ps (spD ⟨K, mg⟩ ps.length m) ∧ mg x = some (.ref f) ∧ PySem.W.keepIn K (.ref f) = true ∧ Binds K fd ps []
theorem Cal.mono {P : Program} {w : World} {K : PySem.W.Frag} {mg : Str → Option Value} {base : Heap} {j k : Nat} {x : Str} {ps : List Str} {m : List D → Res FD} (c : Cal P w K mg base j x ps m) (h : j ≤ k) : Cal P w K mg base k x ps m := by
  obtain ⟨f, fd, a, b⟩ := c.ex
  exact ⟨f, fd, a.mono h, b⟩
theorem Cal.eq {P : Program} {w : World} {K : PySem.W.Frag} {mg : Str → Option Value} {base : Heap} {k : Nat} {x : Str} {ps : List Str} {m m' : List D → Res FD} (c : Cal P w K mg base k x ps m) (h : ∀ ds, m' ds ≠ .bad → m' ds = m ds) : Cal P w K mg base k x ps m' := by
  obtain ⟨f, fd, a, b⟩ := c.ex
  exact ⟨f, fd, VL.FnOk.eq a h, b⟩
/-- a def of the text: where it stands, how it binds -/
structure Dfn (K : PySem.W.Frag) (mg : Str → Option Value) (x : Str) (st : Stmt) (ps : List Str) (f : Addr) (fd : FuncData) : Prop where
  fn : Fun K x x st f fd
  mg : mg x = some (.ref f)
  bd : Binds K fd ps []
theorem Cal.none {P : Program} {w : World} {K : PySem.W.Frag} {mg : Str → Option Value} {base : Heap} {x : Str} {st : Stmt} {ps : List Str} {f : Addr} {fd : FuncData} (d : Dfn K mg x st ps f fd) (k : Nat) : Cal P w K mg base k x ps (fun _ => .bad) :=
  ⟨f, fd, ⟨fun vs H Q E h => spD_len h, fun A outer s H args us vs Q E _ _ _ _ ⟨_, _, _, _, _, q⟩ => q.elim⟩, d.mg, d.fn.kp, d.bd⟩
theorem Cal.of {P : Program} {w : World} {K : PySem.W.Frag} {mg : Str → Option Value} {base : Heap} {x : Str} {st : Stmt} {f : Addr} {fd : FuncData} {N ps : List Str} {k : Nat} {g : GS} (d : Dfn K mg x st ps f fd) (S : FnScope N ps (defScope st))
    (hb : ∀ (cdv : Value) (A : Around) (outer : List Env) (s : Shared) (H : Hp) (E : XK), Room k (A.deeper (envOfC x (defScope st) s.heap.objs.size f cdv)) → PSs (cxOf (L2.CX P w) P w K mg base N x (defScope st) f cdv A outer s H E) (defBody st) (tS ⟨K, mg⟩ (WofE E) g)) :
    Cal P w K mg base (k + 1) x ps (runG N.length g) := ⟨f, fd, ok_def d.fn S hb, d.mg, d.fn.kp, d.bd⟩
/-- .. with defaults -/
structure CalD (P : Program) (w : World) (K : PySem.W.Frag) (mg : Str → Option Value) (base : Heap) (k : Nat) (x : Str) (n : Nat) (dds : List D) (m : List D → Res FD) : Prop where
  ex : ∃ (f : Addr) (fd : FuncData) (ps : List Str) (dvs : List V) (ds : List Value), FnOk P w K mg base (L2.CX P w) k f fd ps (spD ⟨K, mg⟩ n m) ∧ mg x = some (.ref f) ∧ PySem.W.keepIn K (.ref f) = true ∧ Binds K fd ps ds ∧ Vals dvs ds ∧ ∀ H, Reps K H dds dvs
theorem CalD.mono {P : Program} {w : World} {K : PySem.W.Frag} {mg : Str → Option Value} {base : Heap} {j k n : Nat} {x : Str} {dds : List D} {m : List D → Res FD} (c : CalD P w K mg base j x n dds m) (h : j ≤ k) : CalD P w K mg base k x n dds m := by
  obtain ⟨f, fd, ps, dvs, ds, a, b⟩ := c.ex
  exact ⟨f, fd, ps, dvs, ds, a.mono h, b⟩
section
variable {X : Cx} {W : WX} {B : Bs}
theorem ev_fn {k : Nat} {ps : List Str} {m : List D → Res FD} {x : Str} {p pos : Pos} {e : Expr} {es : List Expr} {g : List (Option D) → Res (List D)} (c : Cal X.prog X.w X.K X.mg X.base k x ps m) (hr : Room k X.A) (hg : Gl X x) (tk : Takes X W)
    (hl : (e :: es).length = ps.length) (ha : PA X (e :: es) (tA (Md.of X) W g)) (hln : ∀ ρ ds, g ρ = .ok ds → ds.length = (e :: es).length) (hdb : (x == ("__debug__" : Str)) = false := by decide)
    (he : starEach (e :: es) X.env = (false, eval e X.env) :: starEach es X.env := by rfl) (hpl : (backTo pos (starEach es X.env)).any (·.1) = false := by rfl) :
    PE X (.Call (.Name x p) (e :: es) [] pos) (tE (Md.of X) W (gCall g m)) := by
  obtain ⟨f, fd, F, hm, hk, hb⟩ := c.ex
  exact ev_call F hr hg hm hk hb tk hl ha hln hdb he hpl
theorem ev_fnD {k n : Nat} {m : List D → Res FD} {x : Str} {p pos : Pos} {e : Expr} {es : List Expr} {dds : List D} {g : List (Option D) → Res (List D)} (c : CalD X.prog X.w X.K X.mg X.base k x n dds m) (hr : Room k X.A) (hg : Gl X x) (tk : Takes X W)
    (hl : (e :: es).length + dds.length = n) (ha : PA X (e :: es) (tA (Md.of X) W g)) (hln : ∀ ρ ds, g ρ = .ok ds → ds.length = (e :: es).length) (hdb : (x == ("__debug__" : Str)) = false := by decide)
    (he : starEach (e :: es) X.env = (false, eval e X.env) :: starEach es X.env := by rfl) (hpl : (backTo pos (starEach es X.env)).any (·.1) = false := by rfl) :
    PE X (.Call (.Name x p) (e :: es) [] pos) (tE (Md.of X) W (gCall g fun ds => m (ds ++ dds))) := by
  obtain ⟨f, fd, ps, dvs, ds, F, hm, hk, hb, hd, hdd⟩ := c.ex
  exact ev_callD F hr hg hm hk hb hd hdd tk hl ha hln hdb he hpl
/-- f() -/
theorem ev_fn0 {k : Nat} {m : List D → Res FD} {x : Str} {p pos : Pos} {E : XK} (c : Cal X.prog X.w X.K X.mg X.base k x [] m) (hr : Room k X.A) (hg : Gl X x) (hno : ∀ c fs, m [] ≠ .xc c fs) (hx : Passes (L2.CX X.prog X.w) X E) (hdb : (x == ("__debug__" : Str)) = false := by decide) :
    PE X (.Call (.Name x p) [] [] pos) (tE (Md.of X) W (gCall gNil m)) := by
  obtain ⟨f, fd, F, hm, hk, hb⟩ := c.ex
  refine (pe_call0 F hr hg hm hk hb .nil hx hdb).imp fun σ H Q ⟨H0, ρ, hs, hr, q⟩ => ?_
  refine ⟨H0, [], hs, rfl, rfl, ?_⟩
  have q : Out (Md.of X) W σ H0 H (m []) _ := q
  cases e2 : m [] with
  | bad => rw [e2] at q; exact q.elim
  | ok r => rw [e2] at q; exact q
  | xc c fs => exact absurd e2 (hno c fs)
/-- {} -/
theorem ev_d0 {pos : Pos} : PE X (.Dict [] [] pos) (tE (Md.of X) W (gCon (.dct []))) := pe_dnewK.imp fun σ H Q ⟨H0, ρ, hs, hr, q⟩ p hp =>
  (show Fin X.K H0 H (.T, .dct []) Q from q).newT hs ⟨p, [], [], rfl, rfl, upd_same, ⟨Nat.zero_le _, by simp⟩, rfl, rfl⟩ hp
/-- {k: v}: one entry -/
def gD1 (gk gv : GE) : GE := fun ρ => (gk ρ).bind fun k => (gv ρ).bind fun v => match keyOf k.2 with
  | some ky => .ok (if v.1 = .T then .T else .R, .dct [(ky, v.2)])
  | none => .bad
theorem ev_d1 {ke ve : Expr} {pos : Pos} {gk gv : GE} (hk : PE X ke (tE (Md.of X) W gk)) (hv : PE X ve (tE (Md.of X) W gv)) : PE X (.Dict [some ke] [ve] pos) (tE (Md.of X) W (gD1 gk gv)) :=
  (pe_disp (pps_cons hk hv pps_nil) (by rfl) (by rfl) (fun z => by cases z) (by show 1 ≤ 15; decide)).imp fun σ H Q ⟨H0, ρ, hs, hr, q⟩ p hp => by
  have e0 := Ext.lay0 hs hp (.dK [])
  show tE _ _ gk σ _ fun x H1 => tE _ _ gv σ H1 fun y H2 => _
  refine ⟨H0, ρ, e0.s1, hr, Out.after e0 (Out.bind q) fun k qk => fun kv H1 H01 F e s fr => ?_⟩
  obtain ⟨e1, r1⟩ := e.letgo s fr
  refine ⟨_, ρ, e1.s1, hr.mono e1.s0, Out.after (e0.trans e1) (Out.bind qk) fun v qv => fun vv H2 H02 G e2 s2 fr2 => ?_⟩
  split at qv
  · rename_i ky hky
    have qv : Fin X.K H0 H (if v.1 = .T then .T else .R, .dct [(ky, v.2)]) Q := qv
    have ek := keyOf_rep hky r1
    subst ek
    have eA := (e0.trans e1).trans e2
    have p1 : H1 p = some (.dK []) := e.s _ _ upd_same
    have p2 : H2 p = some (.dK []) := e2.s _ _ p1
    have p0 : H02 p = none := by
      cases z : H02 p with
      | none => rfl
      | some o =>
        have := eA.new p (hs.free hp) (by rw [z]; simp)
        have z2 := e2.s1 _ _ z
        -- it is nobody's but the new dict
        have z3 : (addF H01 H1 F) p = none := by
          rw [addF_out (fun h => by have := (fr.2 p h).1; rw [upd_same] at this; cases this)]
          cases z4 : H01 p with
          | none => rfl
          | some o' => have := e.new p (hs.free hp) (by rw [z4]; simp); rw [upd_same] at this; cases this
        have := e2.new p z3 (by rw [z]; simp)
        rw [p1] at this; cases this
    refine ⟨p2, [(ky, vv)], rfl, by simp, ?_⟩
    show Q (.ref p) (upd H2 p (.dK [(ky, vv)]))
    have pG : p ∉ G := fun h => by have := (fr2.2 p h).1; rw [p1] at this; cases this
    have eB : ∀ {A0 : Hp}, Ext H0 H A0 H2 → A0 p = none → Ext H0 H A0 (upd H2 p (.dK [(ky, vv)])) := fun {A0} x z => ⟨x.s0, fun b o h => by rw [upd_ne (fun y => by subst y; rw [z] at h; cases h)]; exact x.s1 b o h, fun b o h => by rw [upd_ne (ne_of_none h hp)]; exact x.s b o h, x.new⟩
    have one : (1 : Nat) ≤ sizeLine := by decide
    by_cases hT : v.1 = .T
    · rw [if_pos hT] at qv
      obtain ⟨vf, vd⟩ := v
      obtain rfl : vf = .T := hT
      have t2 : Tree (upd H2 p (.dK [(ky, vv)])) vd vv G := Tree.agree _ _ _ (fun b hb o h => by rw [upd_ne (fun y => pG (by rw [← y]; exact hb))]; exact h) s2
      refine qv _ _ H02 (p :: G) (eB eA p0) ⟨p, _, G, rfl, rfl, upd_same, ⟨one, by simp⟩, vv, [], G, [], rfl, by simp, t2, rfl, rfl⟩ ⟨List.nodup_cons.mpr ⟨pG, fr2.1⟩, fun b hb => ?_⟩
      rcases List.mem_cons.mp hb with rfl | hb
      · exact ⟨hp, p0⟩
      · exact ⟨(e0.trans e1).s.free (fr2.2 b hb).1, (fr2.2 b hb).2⟩
    · rw [if_neg hT] at qv
      obtain ⟨e3, r3⟩ := e2.letgo s2 fr2
      have p3 : (addF H02 H2 G) p = none := by rw [addF_out pG]; exact p0
      refine qv _ _ _ [p] (eB ((e0.trans e1).trans e3) p3) ⟨p, _, rfl, rfl, upd_same, _, rfl, ⟨one, by simp⟩, vv, [], rfl, r3, rfl⟩ ⟨by simp, fun b hb => ?_⟩
      rw [List.mem_singleton.mp hb]
      exact ⟨hp, p3⟩
  · exact qv.elim
/-- isinstance(x, (S, T)) -/
def gIsi2 (S T : String) (g : GE) : GE := fun ρ => (g ρ).bind fun x => .ok (.T, .bl (isT S x.2 || isT T x.2))
end
end VL
end

section
set_option Elab.async false
set_option maxRecDepth 100000
set_option linter.all false
/-! The value layer, 15: what is never reached; isinstance of two. -/
namespace VL
open PySem PySem.Spec PyProof.Rows L2
section
variable {X : Cx} {W : WX} {B : Bs}
def gNever : GS := fun _ => .bad
theorem ss_never {st : Stmt} : PS X st (tS (Md.of X) W gNever) := (ps_never (X := X) (st := st)).imp fun D σ H ⟨B, ρ, e, q⟩ => q
theorem kitAny2 {K : PySem.W.Frag} {a S T : String} {b c : Bool} (h1 : kitB a S = some b) (h2 : kitB a T = some c) : PySem.W.kitAny K (.type a) [.type S, .type T] = some (b || c) := by
  simp only [PySem.W.kitAny, kit_ty h1, kit_ty h2]
  cases b <;> cases c <;> rfl
theorem ev_isi2 {p p1 p2 tp pos : Pos} {kk : Nat} {e : Expr} {y z : Str} {S T : String} {g : GE} (hg : Gl X "isinstance") (hm : X.mg "isinstance" = none) (hgS : Gl X y) (hmS : X.mg y = none) (hvS : bootBuiltins y = some (.type S)) (hgT : Gl X z) (hmT : X.mg z = none) (hvT : bootBuiltins z = some (.type T))
    (k1 : kits S = true) (k2 : kits T = true) (he : PE X e (tE (Md.of X) W g))
    (hs : starEach [e, .Tuple [.Name y p1, .Name z p2] kk tp] X.env = (false, eval e X.env) :: starEach [.Tuple [.Name y p1, .Name z p2] kk tp] X.env := by rfl) (hnS : y ≠ "__name__" := by decide) (hdS : (y == ("__debug__" : Str)) = false := by decide) (hnT : z ≠ "__name__" := by decide) (hdT : (z == ("__debug__" : Str)) = false := by decide) :
    PE X (.Call (.Name "isinstance" p) [e, .Tuple [.Name y p1, .Name z p2] kk tp] [] pos) (tE (Md.of X) W (gIsi2 S T g)) :=
  (pe_callB call_isiT hg hm (by decide +kernel) (pa_cons he (pa_cons (pe_tup (pa_cons (pe_bltn (v := .ty S) hgS hmS hvS rfl hnS hdS) (pa_cons (pe_bltn (v := .ty T) hgT hmT hvT rfl hnT hdT) pa_nil))) pa_nil) hs) (by decide) (by decide) hs).imp fun σ H Q q => by
    show tE _ _ g σ H fun x H1 => 2 ≤ sizeLine ∧ ∀ p, H1 p = none → rIsiT X.K [x, .ref p] (upd H1 p (.tup [.ty S, .ty T])) Q
    refine one (f := fun d => .ok (.T, .bl (isT S d || isT T d))) q fun x H1 H01 a hs ra q => ⟨by decide, fun p hp => ?_⟩
    have e := Ext.lay0 hs hp (.tup [.ty S, .ty T])
    refine ⟨x, p, [.ty S, .ty T], _, [.type S, .type T], _, rfl, upd_same, .cons (.ty S) (.cons (.ty T) .nil), rep_ty (Rep.mono e.s1 _ _ ra), kitAny2 (kits_at k1 a) (kits_at k2 a), ?_⟩
    exact Fin.atom (K := X.K) (Fin.after e q) e.s1 ⟨rfl, rfl⟩
/-- an exception class of the text, without an __init__ -/
structure Exc0 (K : PySem.W.Frag) (mg : Str → Option Value) (x : Str) (C : Addr) (bm : List Value) : Prop where
  g : mg x = some (.ref C)
  x : PySem.W.excIn K C bm "ValueError.__new__" = true
  k : PySem.W.keepIn K (.ref C) = true
  b : PySem.W.subIn K (.ref C) (.type "BaseException") = some true
  t : PySem.W.typeIn K (.ref C) = some (.type "type")
end
end VL
end

section
set_option Elab.async false
set_option maxRecDepth 100000
set_option linter.all false
/-! The value layer, 16: trees that a def changes in place. -/
namespace VL
open PySem PySem.Spec PyProof.Rows L2

theorem Trees.at {H : Hp} : ∀ {ds : List D} {vs : List V} {F : List Addr} {i : Nat} {d : D}, Trees H ds vs F → ds[i]? = some d → ∃ v A G C, vs[i]? = some v ∧ F = A ++ (G ++ C) ∧ Tree H d v G ∧
    ∀ (H' : Hp) (d' : D) (G' : List Addr), (∀ p, p ∈ A ∨ p ∈ C → ∀ o, H p = some o → H' p = some o) → Tree H' d' v G' → Trees H' (ds.set i d') vs (A ++ (G' ++ C))
  | [], _, _, _, _, _, e => by simp at e
  | x :: ds, _, _, 0, d, ⟨v, t, G1, G2, e1, e2, s, q⟩, e => by
    subst e1 e2
    simp at e; subst e
    exact ⟨v, [], G1, G2, rfl, rfl, s, fun H' d' G' h t' => ⟨v, _, G', G2, rfl, rfl, t', Trees.agree _ _ _ (fun p hp => h p (.inr hp)) q⟩⟩
  | x :: ds, _, _, i + 1, d, ⟨v, t, G1, G2, e1, e2, s, q⟩, e => by
    subst e1 e2
    obtain ⟨w, A, G, C, h1, rfl, h3, h4⟩ := Trees.at (i := i) (d := d) q (by simpa using e)
    refine ⟨w, G1 ++ A, G, C, by simpa using h1, by simp, h3, fun H' d' G' h t' => ?_⟩
    refine ⟨v, t, G1, A ++ (G' ++ C), rfl, by simp, Tree.agree _ _ _ (fun p hp => h p (.inl (List.mem_append_left _ hp))) s, ?_⟩
    exact h4 H' d' G' (fun p hp => h p (hp.imp (List.mem_append_right _) id)) t'
theorem TreeK.at {H : Hp} {k : Key} {d : D} : ∀ {ds : List (Key × D)} {vs : List (Key × V)} {F : List Addr}, TreeK H ds vs F → (ds.map (·.1)).Nodup → look ds k = some d → ∃ v A G C, valV vs k = some v ∧ F = A ++ (G ++ C) ∧ Tree H d v G ∧
    ∀ (H' : Hp) (d' : D) (G' : List Addr), (∀ p, p ∈ A ∨ p ∈ C → ∀ o, H p = some o → H' p = some o) → Tree H' d' v G' → TreeK H' (putD ds k d') vs (A ++ (G' ++ C))
  | [], _, _, _, _, e => by simp [look] at e
  | (j, x) :: ds, _, _, ⟨v, t, G1, G2, e1, e2, s, q⟩, nd, e => by
    subst e1 e2
    simp only [List.map_cons, List.nodup_cons] at nd
    by_cases hj : j = k
    · subst hj
      have ex : x = d := by
        have : look ((j, x) :: ds) j = some x := by simp [look, List.find?_cons]
        rw [this] at e; exact Option.some.inj e
      subst ex
      refine ⟨v, [], G1, G2, by simp [valV, List.find?_cons], rfl, s, fun H' d' G' h t' => ?_⟩
      have e3 : putD ((j, x) :: ds) j d' = (j, d') :: ds := by
        unfold putD
        rw [if_pos (by simp), List.map_cons, if_pos rfl, repl_none nd.1]
      rw [e3]
      exact ⟨v, _, G', G2, rfl, rfl, t', TreeK.agree _ _ _ (fun p hp => h p (.inr hp)) q⟩
    · have e4 : look ((j, x) :: ds) k = look ds k := by simp [look, List.find?_cons, hj]
      rw [e4] at e
      obtain ⟨w, A, G, C, h1, rfl, h3, h4⟩ := TreeK.at q nd.2 e
      refine ⟨w, G1 ++ A, G, C, by rw [valV_neg hj]; exact h1, by simp, h3, fun H' d' G' h t' => ?_⟩
      have inn : (ds.any fun kv => decide (kv.1 = k)) = true := by
        cases hf : ds.find? fun kv => decide (kv.1 = k) with
        | none => simp [look, hf] at e
        | some p => exact List.any_eq_true.mpr ⟨p, List.mem_of_find?_eq_some hf, List.find?_some (p := fun kv : Key × D => decide (kv.1 = k)) hf⟩
      have e5 : putD ((j, x) :: ds) k d' = (j, x) :: putD ds k d' := by
        unfold putD
        rw [inn, if_pos rfl, if_pos (by rw [List.any_cons, inn, Bool.or_true]), List.map_cons, if_neg hj]
      rw [e5]
      refine ⟨v, t, G1, A ++ (G' ++ C), rfl, by simp, Tree.agree _ _ _ (fun p hp => h p (.inl (List.mem_append_left _ hp))) s, ?_⟩
      exact h4 H' d' G' (fun p hp => h p (hp.imp (List.mem_append_right _) id)) t'
theorem nodup_mid {A G C G' : List Addr} (nf : (A ++ (G ++ C)).Nodup) (ng : G'.Nodup) (h : ∀ p ∈ G', p ∈ G ∨ (p ∉ A ∧ p ∉ C)) : (A ++ (G' ++ C)).Nodup := by
  obtain ⟨n1, n2, n3⟩ := List.nodup_append.mp nf
  obtain ⟨m1, m2, m3⟩ := List.nodup_append.mp n2
  refine List.nodup_append.mpr ⟨n1, List.nodup_append.mpr ⟨ng, m2, fun x hx y hy e => ?_⟩, fun x hx y hy e => ?_⟩
  · subst e
    rcases h x hx with h | h
    · exact m3 x h x hy rfl
    · exact h.2 hy
  · subst e
    rcases List.mem_append.mp hy with hy | hy
    · rcases h x hy with h | h
      · exact n3 x hx x (List.mem_append_left _ h) rfl
      · exact h.1 hx
    · exact n3 x hx x (List.mem_append_right _ hy) rfl
/-- what stands outside F stays -/
def Off (F : List Addr) (H H' : Hp) : Prop := ∀ p o, p ∉ F → H p = some o → H' p = some o
/-- F' is of F, or new -/
def Grown (F : List Addr) (H : Hp) (F' : List Addr) : Prop := ∀ p ∈ F', p ∈ F ∨ H p = none
/-- a def that changes the tree it gets, and tells an int -/
def spIO (m : D → Int → Option (D × Int)) : Sp := fun vs H Q _ => ∃ d v n F d' n', vs = [v, .int n] ∧ Tree H d v F ∧ F.Nodup ∧ m d n = some (d', n') ∧
  ∀ H' F', Tree H' d' v F' → F'.Nodup → Grown F H F' → Off F H H' → Q (.int n') H'
theorem spIO_len {m : D → Int → Option (D × Int)} {vs : List V} {H : Hp} {Q : VK} {E : XK} (h : spIO m vs H Q E) : vs.length = 2 := by
  obtain ⟨_, _, _, _, _, _, e, _⟩ := h
  rw [e]; rfl
structure CalIO (P : Program) (w : World) (K : PySem.W.Frag) (mg : Str → Option Value) (base : Heap) (k : Nat) (x : Str) (ps : List Str) (m : D → Int → Option (D × Int)) : Prop where
  ex : ∃ (f : Addr) (fd : FuncData), FnOk P w K mg base (L2.CX P w) k f fd ps (spIO m) ∧ mg x = some (.ref f) ∧ PySem.W.keepIn K (.ref f) = true ∧ Binds K fd ps []
/-- a slot's tree is changed by a call -/
theorem EnvAt.io {K : PySem.W.Frag} {B : Bs} {σ : L2.St} {ρ : DE} {H H0 H' : Hp} {F : Nat → List Addr} (e : EnvAt K B σ ρ H H0 F) {i : Nat} {d d' : D} {v : V} {G : List Addr} (hρ : ρ[i]? = some (some (.T, d))) (hσ : σ[i]? = some (some v)) (t : Tree H' d' v G) (nd : G.Nodup) (g : Grown (F i) H G) (o : Off (F i) H H') :
    EnvAt K B σ (ρ.set i (some (.T, d'))) H' H0 (fun j => if j = i then G else F j) := by
  have hil : i < ρ.length := by
    by_cases hl : i < ρ.length
    · exact hl
    · rw [List.getElem?_eq_none (by simpa using hl)] at hρ; cases hρ
  have s0 : Same H0 H' := fun p u q => o p u (fun hp => by rw [((e.fr i).2 p hp).2] at q; cases q) (e.s0 p u q)
  have mem : ∀ p ∈ G, (∀ b ∈ B, b.2 p = none) ∧ H0 p = none ∧ ∀ j, j ≠ i → p ∉ F j := fun p hp => by
    rcases g p hp with h | h
    · exact ⟨((e.fr i).2 p h).1, ((e.fr i).2 p h).2, fun j hj hpj => e.dj i j (Ne.symm hj) p h hpj⟩
    · exact ⟨e.free h, e.s0.free h, fun j hj hpj => e.th j p hpj h⟩
  refine ⟨s0, fun b hb => ⟨(e.ext b hb).s0, s0, fun p u q => o p u (fun hp => by rw [((e.fr i).2 p hp).1 b hb] at q; cases q) ((e.ext b hb).s p u q), (e.ext b hb).new⟩, fun j y hy => ?_, fun j => ?_, fun j p hp => ?_, fun j l hjl p hp => ?_, by simp [e.len]⟩
  · by_cases hj : j = i
    · subst hj
      rw [List.getElem?_set_self hil] at hy; cases hy
      exact ⟨v, hσ, by simp only [if_pos]; exact t⟩
    · rw [List.getElem?_set_ne (Ne.symm hj)] at hy
      obtain ⟨w, h1, h2⟩ := e.sl j y hy
      refine ⟨w, h1, ?_⟩
      simp only [if_neg hj]
      exact h2.mono (Same.refl _) fun p hp u q => o p u (fun h => e.dj j i hj p hp h) q
  · by_cases hj : j = i
    · simp only [if_pos hj]; exact ⟨nd, fun p hp => ⟨(mem p hp).1, (mem p hp).2.1⟩⟩
    · simp only [if_neg hj]; exact e.fr j
  · by_cases hj : j = i
    · simp only [if_pos hj] at hp; exact Tree.there _ _ _ t p hp
    · simp only [if_neg hj] at hp
      intro z
      cases q : H p with
      | none => exact e.th j p hp q
      | some u => have := o p u (fun h => e.dj j i hj p hp h) q; rw [z] at this; cases this
  · by_cases hj : j = i
    · simp only [if_pos hj] at hp
      by_cases hl : l = i
      · exact absurd (hj.trans hl.symm) hjl
      · simp only [if_neg hl]; exact (mem p hp).2.2 l hl
    · simp only [if_neg hj] at hp
      by_cases hl : l = i
      · simp only [if_pos hl]; exact fun h => (mem p h).2.2 j hj hp
      · simp only [if_neg hl]; exact e.dj j l hjl p hp
section
variable {X : Cx} {W : WX}
/-- if f(x, 0) != f(y, 0) or not t: .. where f changes what it gets -/
def gIfIO (i j : Nat) (m : D → Int → Option (D × Int)) (vs : List Nat) (c : GT) (g k : GS) : GS := fun ρ => if i = j then .bad else match ρ[i]?, ρ[j]? with
  | some (some (.T, a)), some (some (.T, b)) => match m a 0, m b 0 with
    | some (a', n), some (b', n') =>
      let ρ' := (ρ.set i (some (.T, a'))).set j (some (.T, b'))
      if n = n' then viaE vs (c (viewF vs 0 ρ')) ρ' fun t => if t = true then k ρ' else g ρ' else g ρ'
    | _, _ => .bad
  | _, _ => .bad
theorem ss_ifIO {x : Str} {ps : List Str} {k0 : Nat} {i j : Nat} {m : D → Int → Option (D × Int)} {vs : List Nat} {e1 e2 e3 : Expr} {a b : List Stmt} {p1 p2 p3 p4 pos pc pb pn : Pos} {j1 j2 : Nat} {q1 q2 : Pos} {c : GT} {g k : GS} (C : CalIO X.prog X.w X.K X.mg X.base k0 x ps m) (hr : Room k0 X.A) (hg : Gl X x) (tk : Takes X W)
    (h1 : PE X e1 (tVar i)) (h2 : PE X e2 (tVar j)) (h3 : PT X e3 (tT (Md.of X) W c)) (ha : PSs X a (tS (Md.of X) W g)) (hb : PSs X b (tS (Md.of X) W k)) (hdb : (x == ("__debug__" : Str)) = false := by decide)
    (s1 : starEach [e1, .Constant (.int 0) j1 q1] X.env = (false, eval e1 X.env) :: starEach [.Constant (.int 0) j1 q1] X.env := by rfl) (s2 : starEach [e2, .Constant (.int 0) j2 q2] X.env = (false, eval e2 X.env) :: starEach [.Constant (.int 0) j2 q2] X.env := by rfl) :
    PS X (.If (.BoolOp .Or [.Compare (.Call (.Name x p1) [e1, .Constant (.int 0) j1 q1] [] p2) [.NotEq] [.Call (.Name x p3) [e2, .Constant (.int 0) j2 q2] [] p4] pc, .UnaryOp .Not e3 pn] pb) a b pos) (tS (Md.of X) W (gIfIO i j m vs c g k)) := by
  obtain ⟨f, fd, F, hm, hk, hbd⟩ := C.ex
  have c1 := pe_callS (p := p1) (pos := p2) F hr hg hm hk hbd (passAt tk) (pa_cons h1 (pa_cons (pe_int (i := 0) (j := j1) (pos := q1)) pa_nil (by rfl)) s1) hdb s1 (by rfl)
  have c2 := pe_callS (p := p3) (pos := p4) F hr hg hm hk hbd (passAt tk) (pa_cons h2 (pa_cons (pe_int (i := 0) (j := j2) (pos := q2)) pa_nil (by rfl)) s2) hdb s2 (by rfl)
  refine (ps_if (PW.pt (pw_or (pt_cmpR op_ne c1 c2 (nomark _)) (pw_or1 (pt_not h3)))) ha hb).imp fun D σ H ⟨B, ρ, ⟨H0, F0, e⟩, q⟩ => ?_
  unfold gIfIO at q
  split at q
  · exact q.elim
  · rename_i hij
    split at q
    · rename_i A Bd hx hy
      split at q
      · rename_i A' n B' n' hmA hmB
        obtain ⟨v, hv, tv⟩ := e.sl i _ hx
        obtain ⟨u, hu, tu⟩ := e.sl j _ hy
        -- the first call
        refine ⟨v, hv, A, v, 0, F0 i, A', n, rfl, tv, (e.fr i).1, hmA, fun H1 G1 t1 n1 g1 o1 => ?_⟩
        have e1 := e.io hx hv t1 n1 g1 o1
        have hy1 : (ρ.set i (some (.T, A')))[j]? = some (some (.T, Bd)) := by rw [List.getElem?_set_ne hij]; exact hy
        obtain ⟨u', hu', tu'⟩ := e1.sl j _ hy1
        rw [hu] at hu'; cases hu'
        have hji : ¬ j = i := fun z => hij z.symm
        simp only [if_neg hji] at tu'
        refine ⟨u, hu, Bd, u, 0, F0 j, B', n', rfl, tu', (e.fr j).1, hmB, fun H2 G2 t2 n2 g2 o2 => ?_⟩
        have e2 := e1.io hy1 hu t2 n2 (by simp only [if_neg hji]; exact g2) (by simp only [if_neg hji]; exact o2)
        refine ⟨rfl, _, rfl, ?_⟩
        by_cases hn : n = n'
        · subst hn
          have q : OutS (Md.of X) W B D (if n = n then _ else _) := q
          rw [if_pos rfl] at q
          rw [if_neg (by simp)]
          refine ⟨_, _, e2.viewS vs, e2.view vs, via (K := X.K) e2 q fun t _ qt => fun H3 H03 ex => ?_⟩
          cases t with
          | true => exact ⟨B, _, ⟨_, _, e2.keep ex.s⟩, qt⟩
          | false => exact ⟨B, _, ⟨_, _, e2.keep ex.s⟩, qt⟩
        · have q : OutS (Md.of X) W B D (if n = n' then _ else _) := q
          rw [if_neg hn] at q
          have : (!decide (V.int n = V.int n')) = true := by simp [hn]
          rw [this]
          have fin : tS (Md.of X) W g D σ H2 := ⟨B, _, ⟨_, _, e2⟩, q⟩
          simpa using fin
      · exact q.elim
    · exact q.elim
end
end VL
end

section
set_option Elab.async false
set_option maxRecDepth 100000
set_option linter.all false
/-! The value layer, 17: dict(pairs) of fresh pairs. -/
namespace VL
open PySem PySem.Spec PyProof.Rows L2
theorem keyOf_tree {H : Hp} {d : D} {k : Key} {w : V} {G : List Addr} (hk : keyOf d = some k) (t : Tree H d w G) : w = kV k ∧ G = [] := by
  cases d <;> simp only [keyOf] at hk <;> first | (cases hk; done) | skip
  · cases hk; exact t
  · cases hk; exact t
theorem trees_pairs {K : PySem.W.Frag} {H : Hp} : ∀ {ds : List D} {vs : List V} {F : List Addr} {kds : List (Key × D)}, asPairs ds = some kds → Trees H ds vs F → F.Nodup →
    ∃ ps kvs F', vs = ps.map V.ref ∧ Paired (fun p kv => SqT K H p [kV kv.1, kv.2]) ps kvs ∧ TreeK H kds kvs F' ∧ F'.Nodup ∧ ∀ p ∈ F', p ∈ F
  | [], _, _, _, h, r, _ => by cases h; obtain ⟨rfl, rfl⟩ := r; exact ⟨[], [], [], rfl, .nil, ⟨rfl, rfl⟩, List.nodup_nil, fun p hp => hp⟩
  | d :: ds, _, _, _, h, ⟨v, t, G1, G2, e, e2, s, q⟩, nf => by
    subst e e2
    unfold asPairs at h
    split at h <;> first | (cases h; done) | skip
    · rename_i heq; cases heq
    · rename_i heq
      cases heq
      obtain ⟨k, hk, h⟩ := Option.bind_eq_some_iff.mp h
      obtain ⟨kt, ht, rfl⟩ := Option.map_eq_some_iff.mp h
      obtain ⟨n1, n2, n3⟩ := List.nodup_append.mp nf
      obtain ⟨a, vs, Ga, rfl, rfl, ha, _, w1, t1, Gk, Gr, rfl, rfl, r1, w2, t2, Gd, Ge, rfl, rfl, r2, rfl, rfl⟩ := s
      obtain ⟨ps, kvs, F', rfl, pp, rr, nf', sub⟩ := trees_pairs (K := K) ht q n2
      obtain ⟨rfl, rfl⟩ := keyOf_tree hk r1
      simp only [List.nil_append, List.append_nil] at n1 n3 ⊢
      obtain ⟨m1, m2⟩ := List.nodup_cons.mp n1
      refine ⟨a :: ps, (k, w2) :: kvs, Gd ++ F', rfl, .cons (SqT.of ha) pp, ⟨w2, kvs, Gd, F', rfl, rfl, r2, rr⟩, List.nodup_append.mpr ⟨m2, nf', fun x hx y hy => n3 x (List.mem_cons_of_mem _ hx) y (sub y hy)⟩, fun p hp => ?_⟩
      rcases List.mem_append.mp hp with hp | hp
      · exact List.mem_append_left _ (List.mem_cons_of_mem _ hp)
      · exact List.mem_append_right _ (sub p hp)
theorem mergeD_tree {H : Hp} : ∀ {more : List (Key × D)} {mv : List (Key × V)} {kds : List (Key × D)} {kvs : List (Key × V)} {F G : List Addr}, TreeK H more mv G → TreeK H kds kvs F → (kds.map (·.1)).Nodup → (F ++ G).Nodup →
    ∃ F', TreeK H (mergeD kds more) (mergeK kvs mv) F' ∧ F'.Nodup ∧ ∀ p ∈ F', p ∈ F ∨ p ∈ G
  | [], _, _, _, F, _, r, q, _, nf => by obtain ⟨rfl, rfl⟩ := r; exact ⟨F, q, by simpa using nf, fun p hp => .inl hp⟩
  | (k, d) :: r, _, _, _, F, _, ⟨v, t, G1, G2, e, e2, s, q'⟩, q, nd, nf => by
    subst e e2
    rw [← List.append_assoc] at nf
    obtain ⟨n1, n2, n3⟩ := List.nodup_append.mp nf
    obtain ⟨F1, h1, h2, h3⟩ := q.put s nd n1
    obtain ⟨F2, h4, h5, h6⟩ := mergeD_tree (more := r) q' h1 (putD_nodup k d nd) (List.nodup_append.mpr ⟨h2, n2, fun x hx y hy => n3 x (List.mem_append.mpr (h3 x hx)) y hy⟩)
    refine ⟨F2, h4, h5, fun p hp => ?_⟩
    rcases h6 p hp with h | h
    · exact (h3 p h).imp id (List.mem_append_left _)
    · exact .inr (List.mem_append_right _ h)
def gDictT (g : GE) : GE := fun ρ => (g ρ).bind fun x => match x with
  | (fl, .lst ds) => match asPairs ds with
    | some kds => .ok (if fl = .T then .T else .R, .dct (mergeD [] kds))
    | none => .bad
  | _ => .bad
section
variable {X : Cx} {W : WX}
theorem ev_dictT {x : Str} {p pos : Pos} {e : Expr} {g : GE} (hc : X.calm = true) (hg : Gl X x) (hm : X.mg x = none) (hv : bootBuiltins x = some (.type "dict")) (he0 : PE X e (tE (Md.of X) W g))
    (hn : x ≠ "__name__" := by decide) (hdb : (x == ("__debug__" : Str)) = false := by decide)
    (he : starEach (e :: []) X.env = (false, eval e X.env) :: starEach [] X.env := by rfl) (hpl : (backTo pos (starEach [] X.env)).any (·.1) = false := by rfl) :
    PE X (.Call (.Name x p) [e] [] pos) (tE (Md.of X) W (gDictT g)) := (pe_callTy (call_dictP hc) hg hm hv (pa_cons he0 pa_nil he) hn hdb he hpl).imp fun σ H Q ⟨H0, ρ, hs, hr, q⟩ => by
  refine ⟨H0, ρ, hs, hr, (Out.bind q).imp fun x qx => fun v H1 H01 F e s fr => ?_⟩
  obtain ⟨fl, d⟩ := x
  cases d with
  | lst ds =>
    simp only at qx
    split at qx
    · rename_i kds hk
      have qx : Fin X.K H0 H (if fl = .T then .T else .R, .dct (mergeD [] kds)) Q := qx
      have h1 := mergeD_length (more := kds) (kds := [])
      have h2 := asPairs_length hk
      simp only [List.length_nil] at h1
      by_cases hT : fl = .T
      · subst hT
        rw [if_pos rfl] at qx
        obtain ⟨a, vs, G, rfl, rfl, ha, hz, tr⟩ := s
        obtain ⟨nf, ff⟩ := fr
        obtain ⟨na, nG⟩ := List.nodup_cons.mp nf
        obtain ⟨ps, kvs, F', rfl, pp, rr, nf', sub⟩ := trees_pairs (K := X.K) hk tr nG
        refine ⟨a, ps, kvs, rfl, SqL.of ha, pp, fun p hp => ?_⟩
        obtain ⟨F2, t2, n2, s2⟩ := mergeD_tree rr (kds := []) (kvs := []) (F := []) ⟨rfl, rfl⟩ (by simp) (by simpa using nf')
        have s2' : ∀ q ∈ F2, q ∈ F' := fun q hq => (s2 q hq).elim (fun h => absurd h (by simp)) id
        have pn : p ∉ F2 := fun h => TreeK.there _ _ _ rr p (s2' p h) hp
        have e2 := Ext.lay0 e.s1 hp (.dK (mergeK [] kvs))
        refine qx (.ref p) _ H01 (p :: F2) (e.trans e2) ⟨p, _, F2, rfl, rfl, upd_same, ⟨by omega, mergeD_nodup (by simp)⟩, TreeK.agree _ _ _ (fun q hq o h => ?_) t2⟩ ⟨List.nodup_cons.mpr ⟨pn, n2⟩, fun q hq => ?_⟩
        · rw [upd_ne (fun z => pn (by rw [← z]; exact hq))]; exact h
        · rcases List.mem_cons.mp hq with rfl | hq
          · exact ⟨e.s.free hp, e.s1.free hp⟩
          · exact ff q (List.mem_cons_of_mem _ (sub q (s2' q hq)))
      · rw [if_neg hT] at qx
        obtain ⟨e1, r1⟩ := e.letgo s fr
        obtain ⟨a, vs, rfl, h, z, q⟩ := r1
        obtain ⟨ps, kvs, rfl, pp, rr⟩ := asPairs_rep hk q
        refine ⟨a, ps, kvs, rfl, SqL.of (e1.s1 _ _ h), Paired.mapP pp fun p kv h => same_seqT e1.s1 h, fun p hp => ?_⟩
        exact Fin.newR (Fin.after e1 qx) e1.s1 ⟨_, rfl, ⟨by omega, mergeD_nodup (by simp)⟩, mergeD_ok rr rfl⟩ hp
    · exact qx.elim
  | _ => exact qx.elim
end
end VL
end

section
set_option Elab.async false
set_option maxRecDepth 100000
set_option linter.all false
set_option maxHeartbeats 4000000
namespace G
open PySem PySem.Spec PyProof.Rows L2 VL
def top (i : Nat) : Stmt := PySem.Challenge.pw_cabinet_k74_shown.main.body.getD i (.Pass ⟨0, 0, 0, 0⟩)
structure Txt (K : PySem.W.Frag) (mg : Str → Option Value) (cNoKey cCab : Addr) : Prop where
  b_bool : mg "bool" = none
  b_dict : mg "dict" = none
  b_int : mg "int" = none
  b_isinstance : mg "isinstance" = none
  b_len : mg "len" = none
  b_list : mg "list" = none
  b_min : mg "min" = none
  b_range : mg "range" = none
  b_sorted : mg "sorted" = none
  b_str : mg "str" = none
  b_tuple : mg "tuple" = none
  e_NoKey : Exc0 K mg "NoKey" cNoKey [.type "ValueError", .type "Exception", .type "BaseException", .type "object"]
  m_Cab : mg "CabinetError" = some (.ref cCab)
  x_NoKey : PySem.W.exmOne K (.ref cNoKey) (.ref cCab) = some true
  i_NoKey : PySem.W.kitOne K (.ref cNoKey) (.ref cNoKey) = some true
  c_NoKey : ExcC K cNoKey
section
variable {P : Program} {w : World} {K : PySem.W.Frag} {mg : Str → Option Value} {base : Heap} {k : Nat} {cNoKey cCab : Addr}
/-! copied -/
abbrev s_copied : Stmt := top 1
theorem sc_copied : FnScope ["thing", "found", "name", "one"] ["thing"] (defScope s_copied) := ⟨rfl, rfl, rfl, by decide +kernel, rfl, by decide +kernel, by decide +kernel⟩
def g_copied (m_copied : List D → Res FD) : GS := gSeq (gIfS [0] (gTest (gIsi "list" (gVar 0))) (gRet [0] (gComp [3] [3] (gItL (gVar 0)) t1 (cYes) (gCall (gCons (gVar 3) (gNil)) m_copied))) (gPass)) (gSeq (gIfS [0] (gTest (gIsi "dict" (gVar 0))) (gSeq (gSet 1 [] (gCon (.dct []))) (gSeq (gForD 0 [0] [2, 3] itemsD t2 (gSetIt 1 [2, 3] (gVar 2) (gCall (gCons (gVar 3) (gNil)) m_copied))) (gRetV 1))) (gPass)) (gRetV 0))
theorem ok_copied (T : Txt K mg cNoKey cCab) {f : Addr} {fd : FuncData} (d : Dfn K mg "copied" s_copied ["thing"] f fd) {m_copied : List D → Res FD} (h_copied : Cal P w K mg base k "copied" ["thing"] m_copied) : Cal P w K mg base (k + 1) "copied" ["thing"] (runG 4 (g_copied m_copied)) := by
  refine Cal.of d sc_copied fun cdv A outer s H E hr => ?_
  have nd := sc_copied.nd
  have hu : (cxOf (L2.CX P w) P w K mg base ["thing", "found", "name", "one"] "copied" (defScope s_copied) f cdv A outer s H E).A.units + 64 < cLine := hr.units
  have hu1 : (cxOf (L2.CX P w) P w K mg base ["thing", "found", "name", "one"] "copied" (defScope s_copied) f cdv A outer s H E).A.units + 1 < cLine := Nat.lt_of_le_of_lt (Nat.add_le_add_left (by decide) _) hu
  have hc : (cxOf (L2.CX P w) P w K mg base ["thing", "found", "name", "one"] "copied" (defScope s_copied) f cdv A outer s H E).calm = true := rfl
  have tk : Takes (cxOf (L2.CX P w) P w K mg base ["thing", "found", "name", "one"] "copied" (defScope s_copied) f cdv A outer s H E) (WofE E) := takes_of rfl rfl rfl rfl
  have hp := passes_of (X := cxOf (L2.CX P w) P w K mg base ["thing", "found", "name", "one"] "copied" (defScope s_copied) f cdv A outer s H E) rfl
  exact sb_cons (ss_if (et_val (ev_isi rfl T.b_isinstance rfl T.b_list (by decide +kernel) (by decide +kernel) (ev_var (pv 0)))) (sb_one (ss_ret (ps_ret (ev_comp (own := [("one", 3)]) hc nd (ei_list (ev_var (pv 0))) (blkOk_by (by kernel_rfl)) tgt1 (by decide) (fun _ _ _ _ _ => pg_name (i := 3) nd rfl (Or.inl rfl)) tt_yes (fun _ _ _ _ _ => pts_nil) (fun _ _ _ _ _ => ev_fn h_copied hr rfl takes0 rfl (ea_cons (ev_var (pv 3)) (ea_nil)) (gCons_len gNil_len)))))) (sb_nil)) (sb_cons (ss_if (et_val (ev_isi rfl T.b_isinstance rfl T.b_dict (by decide +kernel) (by decide +kernel) (ev_var (pv 0)))) (sb_cons (ss_asg (ps_set (i := 1) nd rfl (Or.inl rfl) (ev_d0))) (sb_cons (ss_forD hp hc (pi_items (pv 0)) wk_items (pg_tup rfl (pgs_cons (pg_name (i := 2) nd rfl (Or.inl rfl)) (pgs_cons (pg_name (i := 3) nd rfl (Or.inl rfl)) pgs_nil))) tgt2 (sb_one (ss_setIt (ps_asg (ev_fn h_copied hr rfl tk rfl (ea_cons (ev_var (pv 3)) (ea_nil)) (gCons_len gNil_len)) (pg_sub (pv 1) (ev_var (pv 2)) (set_V hu1)))))) (sb_one (ss_retV (ps_ret (pv 1)))))) (sb_nil)) (sb_one (ss_retV (ps_ret (pv 0)))))
/-! leads_on -/
abbrev s_leads_on : Stmt := top 7
theorem sc_leads_on : FnScope ["thing", "step"] ["thing", "step"] (defScope s_leads_on) := ⟨rfl, rfl, rfl, by decide +kernel, rfl, by decide +kernel, by decide +kernel⟩
def g_leads_on  : GS := gSeq (gIfS [1] (gTest (gIsi "str" (gVar 1))) (gRet [0, 1] (gAndV (gIsi "dict" (gVar 0)) (g2 (gVar 1) (gVar 0) (fun x y => ofO ((fB inD) x.2 y.2))))) (gPass)) (gRet [0, 1] (gAndV (gIsi "list" (gVar 0)) (g2 (gVar 1) (gCall (gCons (gVar 0) (gNil)) (fun ds => ofO (lenD ds))) (fun x y => ofO ((fB ltD) x.2 y.2)))))
theorem ok_leads_on (T : Txt K mg cNoKey cCab) {f : Addr} {fd : FuncData} (d : Dfn K mg "leads_on" s_leads_on ["thing", "step"] f fd) : Cal P w K mg base (k + 1) "leads_on" ["thing", "step"] (runG 2 (g_leads_on )) := by
  refine Cal.of d sc_leads_on fun cdv A outer s H E hr => ?_
  have nd := sc_leads_on.nd
  have hu : (cxOf (L2.CX P w) P w K mg base ["thing", "step"] "leads_on" (defScope s_leads_on) f cdv A outer s H E).A.units + 64 < cLine := hr.units
  have hc : (cxOf (L2.CX P w) P w K mg base ["thing", "step"] "leads_on" (defScope s_leads_on) f cdv A outer s H E).calm = true := rfl
  have tk : Takes (cxOf (L2.CX P w) P w K mg base ["thing", "step"] "leads_on" (defScope s_leads_on) f cdv A outer s H E) (WofE E) := takes_of rfl rfl rfl rfl
  exact sb_cons (ss_if (et_val (ev_isi rfl T.b_isinstance rfl T.b_str (by decide +kernel) (by decide +kernel) (ev_var (pv 1)))) (sb_one (ss_ret (ps_ret (ev_and (ev_isi rfl T.b_isinstance rfl T.b_dict (by decide +kernel) (by decide +kernel) (ev_var (pv 0))) (ev_one (ev_cmp (op_inV hu) (ev_var (pv 1)) (ev_var (pv 0)) rfl)))))) (sb_nil)) (sb_one (ss_ret (ps_ret (ev_and (ev_isi rfl T.b_isinstance rfl T.b_list (by decide +kernel) (by decide +kernel) (ev_var (pv 0))) (ev_one (ev_cmp op_ltV (ev_var (pv 1)) (ev_callB call_lenV rfl T.b_len (by decide +kernel) (ea_cons (ev_var (pv 0)) (ea_nil))) (nomark _)))))))
/-! reached -/
abbrev s_reached : Stmt := top 8
theorem sc_reached : FnScope ["thing", "path", "here", "k"] ["thing", "path"] (defScope s_reached) := ⟨rfl, rfl, rfl, by decide +kernel, rfl, by decide +kernel, by decide +kernel⟩
def g_reached (m_leads_on : List D → Res FD) : GS := gSeq (gSet 2 [0] (gVar 0)) (gSeq (gFor [1] [3] (gItR1 (gCall (gCons (gVar 1) (gNil)) (fun ds => ofO (lenD ds)))) t1 (gSeq (gIfS [1, 2, 3] (gNotT (gTest (gCall (gCons (gVar 2) (gCons (g2 (gVar 1) (gVar 3) (fun x y => ofO (ixD x.2 y.2))) (gNil))) m_leads_on))) (gNever) (gPass)) (gSet 2 [1, 2, 3] (g2 (gVar 2) (g2 (gVar 1) (gVar 3) (fun x y => ofO (ixD x.2 y.2))) (fun x y => ofO (ixD x.2 y.2)))))) (gRetV 2))
theorem ok_reached (T : Txt K mg cNoKey cCab) {f : Addr} {fd : FuncData} (d : Dfn K mg "reached" s_reached ["thing", "path"] f fd) {m_leads_on : List D → Res FD} (h_leads_on : Cal P w K mg base k "leads_on" ["thing", "step"] m_leads_on) : Cal P w K mg base (k + 1) "reached" ["thing", "path"] (runG 4 (g_reached m_leads_on)) := by
  refine Cal.of d sc_reached fun cdv A outer s H E hr => ?_
  have nd := sc_reached.nd
  have hu : (cxOf (L2.CX P w) P w K mg base ["thing", "path", "here", "k"] "reached" (defScope s_reached) f cdv A outer s H E).A.units + 64 < cLine := hr.units
  have hc : (cxOf (L2.CX P w) P w K mg base ["thing", "path", "here", "k"] "reached" (defScope s_reached) f cdv A outer s H E).calm = true := rfl
  have tk : Takes (cxOf (L2.CX P w) P w K mg base ["thing", "path", "here", "k"] "reached" (defScope s_reached) f cdv A outer s H E) (WofE E) := takes_of rfl rfl rfl rfl
  have hp := passes_of (X := cxOf (L2.CX P w) P w K mg base ["thing", "path", "here", "k"] "reached" (defScope s_reached) f cdv A outer s H E) rfl
  exact sb_cons (ss_asg (ps_set (i := 2) nd rfl (Or.inl rfl) (ev_var (pv 0)))) (sb_cons (ss_for hp hc (ei_range1 rfl T.b_range (ev_callB call_lenV rfl T.b_len (by decide +kernel) (ea_cons (ev_var (pv 1)) (ea_nil)))) (pg_name (i := 3) nd rfl (Or.inl rfl)) tgt1 (sb_cons (ss_if (et_not (et_val (ev_fn h_leads_on hr rfl tk rfl (ea_cons (ev_var (pv 2)) (ea_cons (ev_ix hu (ev_var (pv 1)) (ev_var (pv 3)) (fun _ _ => rfl)) (ea_nil))) (gCons_len (gCons_len gNil_len))))) (sb_one (ss_never)) (sb_nil)) (sb_one (ss_asg (ps_set (i := 2) nd rfl (Or.inl rfl) (ev_ix hu (ev_var (pv 2)) (ev_ix hu (ev_var (pv 1)) (ev_var (pv 3)) (fun _ _ => rfl)) (fun _ _ => rfl))))))) (sb_one (ss_retV (ps_ret (pv 2)))))
/-! thing_at -/
abbrev s_thing_at : Stmt := top 9
theorem sc_thing_at : FnScope ["thing", "path"] ["thing", "path"] (defScope s_thing_at) := ⟨rfl, rfl, rfl, by decide +kernel, rfl, by decide +kernel, by decide +kernel⟩
def g_thing_at (m_copied : List D → Res FD) (m_reached : List D → Res FD) : GS := gRet [0, 1] (gCall (gCons (gCall (gCons (gVar 0) (gCons (gVar 1) (gNil))) m_reached) (gNil)) m_copied)
theorem ok_thing_at (T : Txt K mg cNoKey cCab) {f : Addr} {fd : FuncData} (d : Dfn K mg "thing_at" s_thing_at ["thing", "path"] f fd) {m_copied : List D → Res FD} (h_copied : Cal P w K mg base k "copied" ["thing"] m_copied) {m_reached : List D → Res FD} (h_reached : Cal P w K mg base k "reached" ["thing", "path"] m_reached) : Cal P w K mg base (k + 1) "thing_at" ["thing", "path"] (runG 2 (g_thing_at m_copied m_reached)) := by
  refine Cal.of d sc_thing_at fun cdv A outer s H E hr => ?_
  have nd := sc_thing_at.nd
  have hu : (cxOf (L2.CX P w) P w K mg base ["thing", "path"] "thing_at" (defScope s_thing_at) f cdv A outer s H E).A.units + 64 < cLine := hr.units
  have hc : (cxOf (L2.CX P w) P w K mg base ["thing", "path"] "thing_at" (defScope s_thing_at) f cdv A outer s H E).calm = true := rfl
  have tk : Takes (cxOf (L2.CX P w) P w K mg base ["thing", "path"] "thing_at" (defScope s_thing_at) f cdv A outer s H E) (WofE E) := takes_of rfl rfl rfl rfl
  exact sb_one (ss_ret (ps_ret (ev_fn h_copied hr rfl tk rfl (ea_cons (ev_fn h_reached hr rfl tk rfl (ea_cons (ev_var (pv 0)) (ea_cons (ev_var (pv 1)) (ea_nil))) (gCons_len (gCons_len gNil_len))) (ea_nil)) (gCons_len gNil_len))))
/-! has -/
abbrev s_has : Stmt := top 10
theorem sc_has : FnScope ["thing", "path", "here", "step"] ["thing", "path"] (defScope s_has) := ⟨rfl, rfl, rfl, by decide +kernel, rfl, by decide +kernel, by decide +kernel⟩
def g_has (m_leads_on : List D → Res FD) : GS := gSeq (gSet 2 [0] (gVar 0)) (gSeq (gFor [1] [3] (gItL (gVar 1)) t1 (gSeq (gIfS [2, 3] (gNotT (gTest (gCall (gCons (gVar 2) (gCons (gVar 3) (gNil))) m_leads_on))) (gRet [] (gCon (.bl false))) (gPass)) (gSet 2 [2, 3] (g2 (gVar 2) (gVar 3) (fun x y => ofO (ixD x.2 y.2)))))) (gRet [] (gCon (.bl true))))
theorem ok_has (T : Txt K mg cNoKey cCab) {f : Addr} {fd : FuncData} (d : Dfn K mg "has" s_has ["thing", "path"] f fd) {m_leads_on : List D → Res FD} (h_leads_on : Cal P w K mg base k "leads_on" ["thing", "step"] m_leads_on) : Cal P w K mg base (k + 1) "has" ["thing", "path"] (runG 4 (g_has m_leads_on)) := by
  refine Cal.of d sc_has fun cdv A outer s H E hr => ?_
  have nd := sc_has.nd
  have hu : (cxOf (L2.CX P w) P w K mg base ["thing", "path", "here", "step"] "has" (defScope s_has) f cdv A outer s H E).A.units + 64 < cLine := hr.units
  have hc : (cxOf (L2.CX P w) P w K mg base ["thing", "path", "here", "step"] "has" (defScope s_has) f cdv A outer s H E).calm = true := rfl
  have tk : Takes (cxOf (L2.CX P w) P w K mg base ["thing", "path", "here", "step"] "has" (defScope s_has) f cdv A outer s H E) (WofE E) := takes_of rfl rfl rfl rfl
  have hp := passes_of (X := cxOf (L2.CX P w) P w K mg base ["thing", "path", "here", "step"] "has" (defScope s_has) f cdv A outer s H E) rfl
  exact sb_cons (ss_asg (ps_set (i := 2) nd rfl (Or.inl rfl) (ev_var (pv 0)))) (sb_cons (ss_for hp hc (ei_list (ev_var (pv 1))) (pg_name (i := 3) nd rfl (Or.inl rfl)) tgt1 (sb_cons (ss_if (et_not (et_val (ev_fn h_leads_on hr rfl tk rfl (ea_cons (ev_var (pv 2)) (ea_cons (ev_var (pv 3)) (ea_nil))) (gCons_len (gCons_len gNil_len))))) (sb_one (ss_ret (ps_ret (ev_con pe_bl)))) (sb_nil)) (sb_one (ss_asg (ps_set (i := 2) nd rfl (Or.inl rfl) (ev_ix hu (ev_var (pv 2)) (ev_var (pv 3)) (fun _ _ => rfl))))))) (sb_one (ss_ret (ps_ret (ev_con pe_bl)))))
/-! found_or -/
abbrev s_found_or : Stmt := top 11
theorem sc_found_or : FnScope ["thing", "path", "other"] ["thing", "path", "other"] (defScope s_found_or) := ⟨rfl, rfl, rfl, by decide +kernel, rfl, by decide +kernel, by decide +kernel⟩
def g_found_or (m_has : List D → Res FD) (m_thing_at : List D → Res FD) (m_copied : List D → Res FD) : GS := gSeq (gIfS [0, 1] (gTest (gCall (gCons (gVar 0) (gCons (gVar 1) (gNil))) m_has)) (gRet [0, 1] (gCall (gCons (gVar 0) (gCons (gVar 1) (gNil))) m_thing_at)) (gPass)) (gRet [2] (gCall (gCons (gVar 2) (gNil)) m_copied))
theorem ok_found_or (T : Txt K mg cNoKey cCab) {f : Addr} {fd : FuncData} {dvs : List V} {kws : List (Str × V)} (d : FunD K "found_or" "found_or" (defArgs s_found_or) (defBody s_found_or) (defScope s_found_or) dvs kws f fd) {m_has : List D → Res FD} (h_has : Cal P w K mg base k "has" ["thing", "path"] m_has) {m_thing_at : List D → Res FD} (h_thing_at : Cal P w K mg base k "thing_at" ["thing", "path"] m_thing_at) {m_copied : List D → Res FD} (h_copied : Cal P w K mg base k "copied" ["thing"] m_copied) : FnOk P w K mg base (L2.CX P w) (k + 1) f fd ["thing", "path", "other"] (spD ⟨K, mg⟩ 3 (runG 3 (g_found_or m_has m_thing_at m_copied))) := by
  refine ok_defD d sc_found_or fun cdv A outer s H E hr => ?_
  have nd := sc_found_or.nd
  have hu : (cxOf (L2.CX P w) P w K mg base ["thing", "path", "other"] "found_or" (defScope s_found_or) f cdv A outer s H E).A.units + 64 < cLine := hr.units
  have hc : (cxOf (L2.CX P w) P w K mg base ["thing", "path", "other"] "found_or" (defScope s_found_or) f cdv A outer s H E).calm = true := rfl
  have tk : Takes (cxOf (L2.CX P w) P w K mg base ["thing", "path", "other"] "found_or" (defScope s_found_or) f cdv A outer s H E) (WofE E) := takes_of rfl rfl rfl rfl
  exact sb_cons (ss_if (et_val (ev_fn h_has hr rfl tk rfl (ea_cons (ev_var (pv 0)) (ea_cons (ev_var (pv 1)) (ea_nil))) (gCons_len (gCons_len gNil_len)))) (sb_one (ss_ret (ps_ret (ev_fn h_thing_at hr rfl tk rfl (ea_cons (ev_var (pv 0)) (ea_cons (ev_var (pv 1)) (ea_nil))) (gCons_len (gCons_len gNil_len)))))) (sb_nil)) (sb_one (ss_ret (ps_ret (ev_fn h_copied hr rfl tk rfl (ea_cons (ev_var (pv 2)) (ea_nil)) (gCons_len gNil_len)))))
/-! shown -/
abbrev s_shown : Stmt := top 13
theorem sc_shown : FnScope ["records", "keys", "paths", "rows", "key", "path"] ["records", "keys", "paths"] (defScope s_shown) := ⟨rfl, rfl, rfl, by decide +kernel, rfl, by decide +kernel, by decide +kernel⟩
def g_shown (m_found_or : List D → Res FD) : GS := gSeq (gSet 3 [] (gLst (lNil))) (gSeq (gFor [1] [4] (gItL (gVar 1)) t1 (gSeq (gIfS [0, 4] (gTest (g2 (gVar 4) (gVar 0) (fun x y => ofO ((fB fun a b => (inD a b).map (!·)) x.2 y.2)))) (gRaise "NoKey") (gPass)) (gApp 3 [0, 2, 4] (gComp [5] [5] (gItL (gVar 2)) t1 (cYes) (gCall (gCons (g2 (gVar 0) (gVar 4) (fun x y => ofO (ixD x.2 y.2))) (gCons (gVar 5) (gNil))) (fun ds => m_found_or (ds ++ [D.non]))))))) (gRetV 3))
theorem ok_shown (T : Txt K mg cNoKey cCab) {f : Addr} {fd : FuncData} (d : Dfn K mg "shown" s_shown ["records", "keys", "paths"] f fd) {m_found_or : List D → Res FD} (h_found_or : CalD P w K mg base k "found_or" 3 [D.non] m_found_or) : Cal P w K mg base (k + 1) "shown" ["records", "keys", "paths"] (runG 6 (g_shown m_found_or)) := by
  refine Cal.of d sc_shown fun cdv A outer s H E hr => ?_
  have nd := sc_shown.nd
  have hu : (cxOf (L2.CX P w) P w K mg base ["records", "keys", "paths", "rows", "key", "path"] "shown" (defScope s_shown) f cdv A outer s H E).A.units + 64 < cLine := hr.units
  have hc : (cxOf (L2.CX P w) P w K mg base ["records", "keys", "paths", "rows", "key", "path"] "shown" (defScope s_shown) f cdv A outer s H E).calm = true := rfl
  have tk : Takes (cxOf (L2.CX P w) P w K mg base ["records", "keys", "paths", "rows", "key", "path"] "shown" (defScope s_shown) f cdv A outer s H E) (WofE E) := takes_of rfl rfl rfl rfl
  have hp := passes_of (X := cxOf (L2.CX P w) P w K mg base ["records", "keys", "paths", "rows", "key", "path"] "shown" (defScope s_shown) f cdv A outer s H E) rfl
  exact sb_cons (ss_asg (ps_set (i := 3) nd rfl (Or.inl rfl) (ev_lst (el_nil)))) (sb_cons (ss_for hp hc (ei_list (ev_var (pv 1))) (pg_name (i := 4) nd rfl (Or.inr rfl)) tgt1 (sb_cons (ss_if (et_cmp (op_ninV hu) (ev_var (pv 4)) (ev_var (pv 0)) rfl) (sb_one (ss_raise T.e_NoKey.g (ps_raise rfl tk (pmk_own PySem.F.excBase_ValueError T.e_NoKey.x T.e_NoKey.g T.e_NoKey.k (raises_own T.e_NoKey.b T.e_NoKey.t) (by exact rfl))))) (sb_nil)) (sb_one (ss_app (ps_expr (pe_bm PySem.F.plainAttrs_list PySem.F.slot_list_append PySem.F.type_list_append mt_append (pv 3) (pa_cons (ev_comp (own := [("path", 5)]) hc nd (ei_list (ev_var (pv 2))) (blkOk_by (by kernel_rfl)) tgt1 (by decide) (fun _ _ _ _ _ => pg_name (i := 5) nd rfl (Or.inl rfl)) tt_yes (fun _ _ _ _ _ => pts_nil) (fun _ _ _ _ _ => ev_fnD h_found_or hr rfl takes0 rfl (ea_cons (ev_ix hu (ev_var (pv 0)) (ev_var (pv 4)) (fun _ _ => rfl)) (ea_cons (ev_var (pv 5)) (ea_nil))) (gCons_len (gCons_len gNil_len)))) pa_nil))))))) (sb_one (ss_retV (ps_ret (pv 3)))))
/-! law_cell -/
abbrev s_law_cell : Stmt := top 15
theorem sc_law_cell : FnScope ["_law_script", "_law_k", "_law_more"] ["_law_script", "_law_k"] (defScope s_law_cell) := ⟨rfl, rfl, rfl, by decide +kernel, rfl, by decide +kernel, by decide +kernel⟩
def g_law_cell  : GS := gSeq (gSet 2 [1] (g2 (gVar 1) (gCon (.int 7919)) (fun x y => ofO (mulD x.2 y.2)))) (gSeq (gIfS [0] (gTest (g2 (gVar 0) (gLst (lNil)) (fun x y => ofO ((fB fun a b => (eqN 32 a b).map (!·)) x.2 y.2)))) (gSeq (gSet 2 [0, 1, 2] (g2 (gVar 2) (g2 (g2 (gVar 1) (gCall (gCons (gVar 0) (gNil)) (fun ds => ofO (lenD ds))) (fun x y => ofO (divD x.2 y.2))) (gCon (.int 104729)) (fun x y => ofO (mulD x.2 y.2))) (fun x y => ofO (addD x.2 y.2)))) (gSet 2 [0, 1, 2] (g2 (g2 (gVar 2) (g2 (g2 (gVar 0) (g2 (gVar 1) (gCall (gCons (gVar 0) (gNil)) (fun ds => ofO (lenD ds))) (fun x y => ofO (modD x.2 y.2))) (fun x y => ofO (ixD x.2 y.2))) (gCon (.int 48271)) (fun x y => ofO (mulD x.2 y.2))) (fun x y => ofO (addD x.2 y.2))) (gCon (.int 1000003)) (fun x y => ofO (modD x.2 y.2))))) (gPass)) (gRet [2] (g2 (g2 (g2 (g2 (gVar 2) (gVar 2) (fun x y => ofO (mulD x.2 y.2))) (gCon (.int 11)) (fun x y => ofO (divD x.2 y.2))) (g2 (gCon (.int 13)) (gVar 2) (fun x y => ofO (mulD x.2 y.2))) (fun x y => ofO (addD x.2 y.2))) (gCon (.int 1000003)) (fun x y => ofO (modD x.2 y.2)))))
theorem ok_law_cell (T : Txt K mg cNoKey cCab) {f : Addr} {fd : FuncData} (d : Dfn K mg "_law_cell" s_law_cell ["_law_script", "_law_k"] f fd) : Cal P w K mg base (k + 1) "_law_cell" ["_law_script", "_law_k"] (runG 3 (g_law_cell )) := by
  refine Cal.of d sc_law_cell fun cdv A outer s H E hr => ?_
  have nd := sc_law_cell.nd
  have hu : (cxOf (L2.CX P w) P w K mg base ["_law_script", "_law_k", "_law_more"] "_law_cell" (defScope s_law_cell) f cdv A outer s H E).A.units + 64 < cLine := hr.units
  have hc : (cxOf (L2.CX P w) P w K mg base ["_law_script", "_law_k", "_law_more"] "_law_cell" (defScope s_law_cell) f cdv A outer s H E).calm = true := rfl
  have tk : Takes (cxOf (L2.CX P w) P w K mg base ["_law_script", "_law_k", "_law_more"] "_law_cell" (defScope s_law_cell) f cdv A outer s H E) (WofE E) := takes_of rfl rfl rfl rfl
  exact sb_cons (ss_asg (ps_set (i := 2) nd rfl (Or.inl rfl) (ev_op op_mulV (ev_var (pv 1)) (ev_con pe_int)))) (sb_cons (ss_if (et_cmp (op_neV hu) (ev_var (pv 0)) (ev_lst (el_nil)) (nomark _)) (sb_cons (ss_asg (ps_set (i := 2) nd rfl (Or.inl rfl) (ev_op op_addV (ev_var (pv 2)) (ev_op op_mulV (ev_op op_divV (ev_var (pv 1)) (ev_callB call_lenV rfl T.b_len (by decide +kernel) (ea_cons (ev_var (pv 0)) (ea_nil)))) (ev_con pe_int))))) (sb_one (ss_asg (ps_set (i := 2) nd rfl (Or.inl rfl) (ev_op op_modV (ev_op op_addV (ev_var (pv 2)) (ev_op op_mulV (ev_ix hu (ev_var (pv 0)) (ev_op op_modV (ev_var (pv 1)) (ev_callB call_lenV rfl T.b_len (by decide +kernel) (ea_cons (ev_var (pv 0)) (ea_nil)))) (fun _ _ => rfl)) (ev_con pe_int))) (ev_con pe_int)))))) (sb_nil)) (sb_one (ss_ret (ps_ret (ev_op op_modV (ev_op op_addV (ev_op op_divV (ev_op op_mulV (ev_var (pv 2)) (ev_var (pv 2))) (ev_con pe_int)) (ev_op op_mulV (ev_con pe_int) (ev_var (pv 2)))) (ev_con pe_int))))))
/-! law_name_by -/
abbrev s_law_name_by : Stmt := top 16
theorem sc_law_name_by : FnScope ["_law_more", "_law_letters", "_law_size", "_law_by", "_law_signs_here", "_law_at", "_law_word", "_law_j"] ["_law_more"] (defScope s_law_name_by) := ⟨rfl, rfl, rfl, by decide +kernel, rfl, by decide +kernel, by decide +kernel⟩
def g_law_name_by  : GS := gSeq (gSet 1 [] (gCon (.str "abcdefghijklmnopqrstuvwxyz0123456789"))) (gSeq (gSet 2 [0] (g2 (gLst (lCons (gCon (.int 1)) (lCons (g2 (gCon (.int 1)) (g2 (g2 (gVar 0) (gCon (.int 3)) (fun x y => ofO (divD x.2 y.2))) (gCon (.int 4)) (fun x y => ofO (modD x.2 y.2))) (fun x y => ofO (addD x.2 y.2))) (lCons (g2 (gCon (.int 1)) (g2 (g2 (gVar 0) (gCon (.int 3)) (fun x y => ofO (divD x.2 y.2))) (gCon (.int 12)) (fun x y => ofO (modD x.2 y.2))) (fun x y => ofO (addD x.2 y.2))) (lNil))))) (g2 (gVar 0) (gCon (.int 3)) (fun x y => ofO (modD x.2 y.2))) (fun x y => ofO (ixD x.2 y.2)))) (gSeq (gIfS [0] (gTest (g2 (g2 (g2 (gVar 0) (gCon (.int 36)) (fun x y => ofO (divD x.2 y.2))) (gCon (.int 2)) (fun x y => ofO (modD x.2 y.2))) (gCon (.int 1)) (fun x y => ofO ((fB (eqN 32)) x.2 y.2)))) (gSeq (gSet 5 [0, 2] (g2 (g2 (gVar 0) (gCon (.int 72)) (fun x y => ofO (divD x.2 y.2))) (gVar 2) (fun x y => ofO (modD x.2 y.2)))) (gSeq (gSet 6 [0, 1, 2, 5] (g2 (g2 (g2 (gCon (.str "a")) (gVar 5) (fun x y => ofO (mulD x.2 y.2))) (g2 (gVar 1) (g2 (g2 (gVar 0) (gCon (.int 864)) (fun x y => ofO (divD x.2 y.2))) (gCon (.int 26)) (fun x y => ofO (modD x.2 y.2))) (fun x y => ofO (ixD x.2 y.2))) (fun x y => ofO (addD x.2 y.2))) (g2 (gCon (.str "a")) (g2 (g2 (gVar 2) (gVar 5) (fun x y => ofO (subD x.2 y.2))) (gCon (.int 1)) (fun x y => ofO (subD x.2 y.2))) (fun x y => ofO (mulD x.2 y.2))) (fun x y => ofO (addD x.2 y.2)))) (gRetV 6))) (gPass)) (gSeq (gSet 3 [0] (g2 (gCon (.int 1)) (g2 (g2 (gVar 0) (gCon (.int 11)) (fun x y => ofO (divD x.2 y.2))) (gCon (.int 35)) (fun x y => ofO (modD x.2 y.2))) (fun x y => ofO (addD x.2 y.2)))) (gSeq (gSet 4 [0, 1, 2, 3] (gComp [7] [7] (gItR1 (g2 (gVar 2) (gCon (.int 1)) (fun x y => ofO (subD x.2 y.2)))) t1 (cYes) (g2 (gVar 1) (g2 (g2 (g2 (gVar 0) (gCon (.int 7)) (fun x y => ofO (divD x.2 y.2))) (g2 (gVar 7) (gVar 3) (fun x y => ofO (mulD x.2 y.2))) (fun x y => ofO (addD x.2 y.2))) (gCon (.int 36)) (fun x y => ofO (modD x.2 y.2))) (fun x y => ofO (ixD x.2 y.2))))) (gRet [0, 1, 4] (g2 (g2 (gVar 1) (g2 (g2 (gVar 0) (gCon (.int 72)) (fun x y => ofO (divD x.2 y.2))) (gCon (.int 26)) (fun x y => ofO (modD x.2 y.2))) (fun x y => ofO (ixD x.2 y.2))) (gJoin (gCon (.str "")) (gVar 4)) (fun x y => ofO (addD x.2 y.2))))))))
theorem ok_law_name_by (T : Txt K mg cNoKey cCab) {f : Addr} {fd : FuncData} (d : Dfn K mg "_law_name_by" s_law_name_by ["_law_more"] f fd) : Cal P w K mg base (k + 1) "_law_name_by" ["_law_more"] (runG 8 (g_law_name_by )) := by
  refine Cal.of d sc_law_name_by fun cdv A outer s H E hr => ?_
  have nd := sc_law_name_by.nd
  have hu : (cxOf (L2.CX P w) P w K mg base ["_law_more", "_law_letters", "_law_size", "_law_by", "_law_signs_here", "_law_at", "_law_word", "_law_j"] "_law_name_by" (defScope s_law_name_by) f cdv A outer s H E).A.units + 64 < cLine := hr.units
  have hc : (cxOf (L2.CX P w) P w K mg base ["_law_more", "_law_letters", "_law_size", "_law_by", "_law_signs_here", "_law_at", "_law_word", "_law_j"] "_law_name_by" (defScope s_law_name_by) f cdv A outer s H E).calm = true := rfl
  have tk : Takes (cxOf (L2.CX P w) P w K mg base ["_law_more", "_law_letters", "_law_size", "_law_by", "_law_signs_here", "_law_at", "_law_word", "_law_j"] "_law_name_by" (defScope s_law_name_by) f cdv A outer s H E) (WofE E) := takes_of rfl rfl rfl rfl
  exact sb_cons (ss_asg (ps_set (i := 1) nd rfl (Or.inr rfl) (ev_con pe_str))) (sb_cons (ss_asg (ps_set (i := 2) nd rfl (Or.inl rfl) (ev_ix hu (ev_lst (el_cons (ev_con pe_int) (el_cons (ev_op op_addV (ev_con pe_int) (ev_op op_modV (ev_op op_divV (ev_var (pv 0)) (ev_con pe_int)) (ev_con pe_int))) (el_cons (ev_op op_addV (ev_con pe_int) (ev_op op_modV (ev_op op_divV (ev_var (pv 0)) (ev_con pe_int)) (ev_con pe_int))) (el_nil))))) (ev_op op_modV (ev_var (pv 0)) (ev_con pe_int)) (fun _ _ => rfl)))) (sb_cons (ss_if (et_cmp (op_eqV hu) (ev_op op_modV (ev_op op_divV (ev_var (pv 0)) (ev_con pe_int)) (ev_con pe_int)) (ev_con pe_int) (nomark _)) (sb_cons (ss_asg (ps_set (i := 5) nd rfl (Or.inl rfl) (ev_op op_modV (ev_op op_divV (ev_var (pv 0)) (ev_con pe_int)) (ev_var (pv 2))))) (sb_cons (ss_asg (ps_set (i := 6) nd rfl (Or.inl rfl) (ev_op op_addV (ev_op op_addV (ev_op op_mulV (ev_con pe_str) (ev_var (pv 5))) (ev_ix hu (ev_var (pv 1)) (ev_op op_modV (ev_op op_divV (ev_var (pv 0)) (ev_con pe_int)) (ev_con pe_int)) (fun _ _ => rfl))) (ev_op op_mulV (ev_con pe_str) (ev_op op_subV (ev_op op_subV (ev_var (pv 2)) (ev_var (pv 5))) (ev_con pe_int)))))) (sb_one (ss_retV (ps_ret (pv 6)))))) (sb_nil)) (sb_cons (ss_asg (ps_set (i := 3) nd rfl (Or.inr rfl) (ev_op op_addV (ev_con pe_int) (ev_op op_modV (ev_op op_divV (ev_var (pv 0)) (ev_con pe_int)) (ev_con pe_int))))) (sb_cons (ss_setLc (i := 4) (own := [("_law_j", 7)]) hc nd rfl rfl (sw_true rfl rfl rfl (by decide +kernel)) (ei_range1 rfl T.b_range (ev_op op_subV (ev_var (pv 2)) (ev_con pe_int))) (blkOk_by (by kernel_rfl)) tgt1 (by decide) (fun _ _ _ _ _ => pg_name (i := 7) nd rfl (Or.inl rfl)) tt_yes (fun _ _ _ _ _ => pts_nil) (fun _ _ _ _ _ => ev_ix hu (ev_var (pv 1)) (ev_op op_modV (ev_op op_addV (ev_op op_divV (ev_var (pv 0)) (ev_con pe_int)) (ev_op op_mulV (ev_var (pv 7)) (ev_var (pv 3)))) (ev_con pe_int)) (fun _ _ => rfl))) (sb_one (ss_ret (ps_ret (ev_op op_addV (ev_ix hu (ev_var (pv 1)) (ev_op op_modV (ev_op op_divV (ev_var (pv 0)) (ev_con pe_int)) (ev_con pe_int)) (fun _ _ => rfl)) (ev_join (ev_con pe_str) (ev_var (pv 4)))))))))))
/-! law_signs -/
abbrev s_law_signs : Stmt := top 17
theorem sc_law_signs : FnScope ["_law_some"] [] (defScope s_law_signs) := ⟨rfl, rfl, rfl, by decide +kernel, rfl, by decide +kernel, by decide +kernel⟩
def g_law_signs  : GS := gSeq (gSet 0 [] (gCon (.str " !\"#$&'()*+,-./0123456789:;<=>?@ABCDEFGHIJKLMNOPQRSTUVWXYZ[\\]^_`"))) (gRet [0] (g2 (gVar 0) (gCon (.str "abcdefghijklmnopqrstuvwxyz{|}~")) (fun x y => ofO (addD x.2 y.2))))
theorem ok_law_signs (T : Txt K mg cNoKey cCab) {f : Addr} {fd : FuncData} (d : Dfn K mg "_law_signs" s_law_signs [] f fd) : Cal P w K mg base (k + 1) "_law_signs" [] (runG 1 (g_law_signs )) := by
  refine Cal.of d sc_law_signs fun cdv A outer s H E hr => ?_
  have nd := sc_law_signs.nd
  have hu : (cxOf (L2.CX P w) P w K mg base ["_law_some"] "_law_signs" (defScope s_law_signs) f cdv A outer s H E).A.units + 64 < cLine := hr.units
  have hc : (cxOf (L2.CX P w) P w K mg base ["_law_some"] "_law_signs" (defScope s_law_signs) f cdv A outer s H E).calm = true := rfl
  have tk : Takes (cxOf (L2.CX P w) P w K mg base ["_law_some"] "_law_signs" (defScope s_law_signs) f cdv A outer s H E) (WofE E) := takes_of rfl rfl rfl rfl
  exact sb_cons (ss_asg (ps_set (i := 0) nd rfl (Or.inl rfl) (ev_con pe_str))) (sb_one (ss_ret (ps_ret (ev_op op_addV (ev_var (pv 0)) (ev_con pe_str)))))
/-! law_text_by -/
abbrev s_law_text_by : Stmt := top 18
theorem sc_law_text_by : FnScope ["_law_more", "_law_signs_here", "_law_size", "_law_by", "_law_half", "_law_sign", "_law_j"] ["_law_more"] (defScope s_law_text_by) := ⟨rfl, rfl, rfl, by decide +kernel, rfl, by decide +kernel, by decide +kernel⟩
def g_law_text_by (m_law_signs : List D → Res FD) : GS := gSeq (gSet 1 [] (gCall gNil m_law_signs)) (gSeq (gSet 2 [0] (g2 (gLst (lCons (g2 (g2 (gVar 0) (gCon (.int 5)) (fun x y => ofO (divD x.2 y.2))) (gCon (.int 4)) (fun x y => ofO (modD x.2 y.2))) (lCons (g2 (g2 (gVar 0) (gCon (.int 5)) (fun x y => ofO (divD x.2 y.2))) (gCon (.int 9)) (fun x y => ofO (modD x.2 y.2))) (lCons (g2 (g2 (gVar 0) (gCon (.int 5)) (fun x y => ofO (divD x.2 y.2))) (gCon (.int 31)) (fun x y => ofO (modD x.2 y.2))) (lNil))))) (g2 (gVar 0) (gCon (.int 3)) (fun x y => ofO (modD x.2 y.2))) (fun x y => ofO (ixD x.2 y.2)))) (gSeq (gIfS [0] (gTest (g2 (g2 (g2 (gVar 0) (gCon (.int 155)) (fun x y => ofO (divD x.2 y.2))) (gCon (.int 3)) (fun x y => ofO (modD x.2 y.2))) (gCon (.int 1)) (fun x y => ofO ((fB (eqN 32)) x.2 y.2)))) (gSeq (gSet 4 [2] (g2 (gVar 2) (gCon (.int 2)) (fun x y => ofO (divD x.2 y.2)))) (gSeq (gSet 5 [0, 1] (g2 (gVar 1) (g2 (g2 (gVar 0) (gCon (.int 465)) (fun x y => ofO (divD x.2 y.2))) (gCon (.int 94)) (fun x y => ofO (modD x.2 y.2))) (fun x y => ofO (ixD x.2 y.2)))) (gRet [2, 4, 5] (g2 (g2 (gCon (.str "'")) (gVar 4) (fun x y => ofO (mulD x.2 y.2))) (g2 (gVar 5) (g2 (gVar 2) (gVar 4) (fun x y => ofO (subD x.2 y.2))) (fun x y => ofO (mulD x.2 y.2))) (fun x y => ofO (addD x.2 y.2)))))) (gPass)) (gSeq (gSet 3 [0] (g2 (gCon (.int 1)) (g2 (g2 (gVar 0) (gCon (.int 13)) (fun x y => ofO (divD x.2 y.2))) (gCon (.int 93)) (fun x y => ofO (modD x.2 y.2))) (fun x y => ofO (addD x.2 y.2)))) (gRet [0, 1, 2, 3] (gJoin (gCon (.str "")) (gComp [6] [6] (gItR1 (gVar 2)) t1 (cYes) (g2 (gVar 1) (g2 (g2 (g2 (gVar 0) (gCon (.int 7)) (fun x y => ofO (divD x.2 y.2))) (g2 (gVar 6) (gVar 3) (fun x y => ofO (mulD x.2 y.2))) (fun x y => ofO (addD x.2 y.2))) (gCon (.int 94)) (fun x y => ofO (modD x.2 y.2))) (fun x y => ofO (ixD x.2 y.2)))))))))
theorem ok_law_text_by (T : Txt K mg cNoKey cCab) {f : Addr} {fd : FuncData} (d : Dfn K mg "_law_text_by" s_law_text_by ["_law_more"] f fd) {m_law_signs : List D → Res FD} (h_law_signs : Cal P w K mg base k "_law_signs" [] m_law_signs) (x_law_signs : ∀ c fs, m_law_signs [] ≠ .xc c fs) : Cal P w K mg base (k + 1) "_law_text_by" ["_law_more"] (runG 7 (g_law_text_by m_law_signs)) := by
  refine Cal.of d sc_law_text_by fun cdv A outer s H E hr => ?_
  have nd := sc_law_text_by.nd
  have hu : (cxOf (L2.CX P w) P w K mg base ["_law_more", "_law_signs_here", "_law_size", "_law_by", "_law_half", "_law_sign", "_law_j"] "_law_text_by" (defScope s_law_text_by) f cdv A outer s H E).A.units + 64 < cLine := hr.units
  have hc : (cxOf (L2.CX P w) P w K mg base ["_law_more", "_law_signs_here", "_law_size", "_law_by", "_law_half", "_law_sign", "_law_j"] "_law_text_by" (defScope s_law_text_by) f cdv A outer s H E).calm = true := rfl
  have tk : Takes (cxOf (L2.CX P w) P w K mg base ["_law_more", "_law_signs_here", "_law_size", "_law_by", "_law_half", "_law_sign", "_law_j"] "_law_text_by" (defScope s_law_text_by) f cdv A outer s H E) (WofE E) := takes_of rfl rfl rfl rfl
  exact sb_cons (ss_asg (ps_set (i := 1) nd rfl (Or.inr rfl) (ev_fn0 h_law_signs hr rfl x_law_signs (E := E0) passL))) (sb_cons (ss_asg (ps_set (i := 2) nd rfl (Or.inl rfl) (ev_ix hu (ev_lst (el_cons (ev_op op_modV (ev_op op_divV (ev_var (pv 0)) (ev_con pe_int)) (ev_con pe_int)) (el_cons (ev_op op_modV (ev_op op_divV (ev_var (pv 0)) (ev_con pe_int)) (ev_con pe_int)) (el_cons (ev_op op_modV (ev_op op_divV (ev_var (pv 0)) (ev_con pe_int)) (ev_con pe_int)) (el_nil))))) (ev_op op_modV (ev_var (pv 0)) (ev_con pe_int)) (fun _ _ => rfl)))) (sb_cons (ss_if (et_cmp (op_eqV hu) (ev_op op_modV (ev_op op_divV (ev_var (pv 0)) (ev_con pe_int)) (ev_con pe_int)) (ev_con pe_int) (nomark _)) (sb_cons (ss_asg (ps_set (i := 4) nd rfl (Or.inl rfl) (ev_op op_divV (ev_var (pv 2)) (ev_con pe_int)))) (sb_cons (ss_asg (ps_set (i := 5) nd rfl (Or.inl rfl) (ev_ix hu (ev_var (pv 1)) (ev_op op_modV (ev_op op_divV (ev_var (pv 0)) (ev_con pe_int)) (ev_con pe_int)) (fun _ _ => rfl)))) (sb_one (ss_ret (ps_ret (ev_op op_addV (ev_op op_mulV (ev_con pe_str) (ev_var (pv 4))) (ev_op op_mulV (ev_var (pv 5)) (ev_op op_subV (ev_var (pv 2)) (ev_var (pv 4)))))))))) (sb_nil)) (sb_cons (ss_asg (ps_set (i := 3) nd rfl (Or.inr rfl) (ev_op op_addV (ev_con pe_int) (ev_op op_modV (ev_op op_divV (ev_var (pv 0)) (ev_con pe_int)) (ev_con pe_int))))) (sb_one (ss_ret (ps_ret (ev_join (ev_con pe_str) (ev_comp (own := [("_law_j", 6)]) hc nd (ei_range1 rfl T.b_range (ev_var (pv 2))) (blkOk_by (by kernel_rfl)) tgt1 (by decide) (fun _ _ _ _ _ => pg_name (i := 6) nd rfl (Or.inl rfl)) tt_yes (fun _ _ _ _ _ => pts_nil) (fun _ _ _ _ _ => ev_ix hu (ev_var (pv 1)) (ev_op op_modV (ev_op op_addV (ev_op op_divV (ev_var (pv 0)) (ev_con pe_int)) (ev_op op_mulV (ev_var (pv 6)) (ev_var (pv 3)))) (ev_con pe_int)) (fun _ _ => rfl))))))))))
/-! law_number_by -/
abbrev s_law_number_by : Stmt := top 19
theorem sc_law_number_by : FnScope ["_law_more"] ["_law_more"] (defScope s_law_number_by) := ⟨rfl, rfl, rfl, by decide +kernel, rfl, by decide +kernel, by decide +kernel⟩
def g_law_number_by  : GS := gSeq (gIfS [0] (gTest (g2 (g2 (gVar 0) (gCon (.int 3)) (fun x y => ofO (modD x.2 y.2))) (gCon (.int 0)) (fun x y => ofO ((fB (eqN 32)) x.2 y.2)))) (gRet [0] (g2 (g2 (g2 (gVar 0) (gCon (.int 3)) (fun x y => ofO (divD x.2 y.2))) (gCon (.int 41)) (fun x y => ofO (modD x.2 y.2))) (gCon (.int 20)) (fun x y => ofO (subD x.2 y.2)))) (gPass)) (gSeq (gIfS [0] (gTest (g2 (g2 (gVar 0) (gCon (.int 3)) (fun x y => ofO (modD x.2 y.2))) (gCon (.int 1)) (fun x y => ofO ((fB (eqN 32)) x.2 y.2)))) (gRet [0] (g2 (g2 (g2 (gVar 0) (gCon (.int 4)) (fun x y => ofO (powD x.2 y.2))) (g2 (g2 (gCon (.int 2)) (g2 (gCon (.int 10)) (gCon (.int 12)) (fun x y => ofO (powD x.2 y.2))) (fun x y => ofO (mulD x.2 y.2))) (gCon (.int 1)) (fun x y => ofO (addD x.2 y.2))) (fun x y => ofO (modD x.2 y.2))) (g2 (gCon (.int 10)) (gCon (.int 12)) (fun x y => ofO (powD x.2 y.2))) (fun x y => ofO (subD x.2 y.2)))) (gPass)) (gRet [0] (g2 (gLst (lCons (g2 (gCon (.int 10)) (gCon (.int 12)) (fun x y => ofO (powD x.2 y.2))) (lCons (fun ρ => ((g2 (gCon (.int 10)) (gCon (.int 12)) (fun x y => ofO (powD x.2 y.2))) ρ).bind fun x => ofO (negD x.2)) (lCons (g2 (g2 (gCon (.int 10)) (gCon (.int 12)) (fun x y => ofO (powD x.2 y.2))) (gCon (.int 1)) (fun x y => ofO (subD x.2 y.2))) (lCons (gCon (.int 0)) (lCons (gCon (.int 1)) (lCons (fun ρ => ((gCon (.int 1)) ρ).bind fun x => ofO (negD x.2)) (lCons (g2 (gCon (.int 10)) (gCon (.int 11)) (fun x y => ofO (powD x.2 y.2))) (lCons (gCon (.int 999)) (lNil)))))))))) (g2 (g2 (gVar 0) (gCon (.int 3)) (fun x y => ofO (divD x.2 y.2))) (gCon (.int 8)) (fun x y => ofO (modD x.2 y.2))) (fun x y => ofO (ixD x.2 y.2)))))
theorem ok_law_number_by (T : Txt K mg cNoKey cCab) {f : Addr} {fd : FuncData} (d : Dfn K mg "_law_number_by" s_law_number_by ["_law_more"] f fd) : Cal P w K mg base (k + 1) "_law_number_by" ["_law_more"] (runG 1 (g_law_number_by )) := by
  refine Cal.of d sc_law_number_by fun cdv A outer s H E hr => ?_
  have nd := sc_law_number_by.nd
  have hu : (cxOf (L2.CX P w) P w K mg base ["_law_more"] "_law_number_by" (defScope s_law_number_by) f cdv A outer s H E).A.units + 64 < cLine := hr.units
  have hc : (cxOf (L2.CX P w) P w K mg base ["_law_more"] "_law_number_by" (defScope s_law_number_by) f cdv A outer s H E).calm = true := rfl
  have tk : Takes (cxOf (L2.CX P w) P w K mg base ["_law_more"] "_law_number_by" (defScope s_law_number_by) f cdv A outer s H E) (WofE E) := takes_of rfl rfl rfl rfl
  exact sb_cons (ss_if (et_cmp (op_eqV hu) (ev_op op_modV (ev_var (pv 0)) (ev_con pe_int)) (ev_con pe_int) (nomark _)) (sb_one (ss_ret (ps_ret (ev_op op_subV (ev_op op_modV (ev_op op_divV (ev_var (pv 0)) (ev_con pe_int)) (ev_con pe_int)) (ev_con pe_int))))) (sb_nil)) (sb_cons (ss_if (et_cmp (op_eqV hu) (ev_op op_modV (ev_var (pv 0)) (ev_con pe_int)) (ev_con pe_int) (nomark _)) (sb_one (ss_ret (ps_ret (ev_op op_subV (ev_op op_modV (ev_op op_powV (ev_var (pv 0)) (ev_con pe_int)) (ev_op op_addV (ev_op op_mulV (ev_con pe_int) (ev_op op_powV (ev_con pe_int) (ev_con pe_int))) (ev_con pe_int))) (ev_op op_powV (ev_con pe_int) (ev_con pe_int)))))) (sb_nil)) (sb_one (ss_ret (ps_ret (ev_ix hu (ev_lst (el_cons (ev_op op_powV (ev_con pe_int) (ev_con pe_int)) (el_cons (ev_neg (ev_op op_powV (ev_con pe_int) (ev_con pe_int))) (el_cons (ev_op op_subV (ev_op op_powV (ev_con pe_int) (ev_con pe_int)) (ev_con pe_int)) (el_cons (ev_con pe_int) (el_cons (ev_con pe_int) (el_cons (ev_neg (ev_con pe_int)) (el_cons (ev_op op_powV (ev_con pe_int) (ev_con pe_int)) (el_cons (ev_con pe_int) (el_nil)))))))))) (ev_op op_modV (ev_op op_divV (ev_var (pv 0)) (ev_con pe_int)) (ev_con pe_int)) (fun _ _ => rfl))))))
/-! law_thing_by -/
abbrev s_law_thing_by : Stmt := top 20
theorem sc_law_thing_by : FnScope ["_law_script", "_law_k", "_law_deep", "_law_more", "_law_kind_here", "_law_some", "_law_result", "_law_j"] ["_law_script", "_law_k", "_law_deep"] (defScope s_law_thing_by) := ⟨rfl, rfl, rfl, by decide +kernel, rfl, by decide +kernel, by decide +kernel⟩
def g_law_thing_by (m_law_cell : List D → Res FD) (m_law_number_by : List D → Res FD) (m_law_text_by : List D → Res FD) (m_law_thing_by : List D → Res FD) (m_law_name_by : List D → Res FD) : GS := gSeq (gSet 3 [0, 1] (gCall (gCons (gVar 0) (gCons (gVar 1) (gNil))) m_law_cell)) (gSeq (gSet 4 [2, 3] (g2 (gVar 3) (g2 (gLst (lCons (gCon (.int 5)) (lCons (gCon (.int 9)) (lNil)))) (gCall (gCons (g2 (gVar 2) (gCon (.int 0)) (fun x y => ofO ((fB gtD) x.2 y.2))) (gNil)) (fun ds => ofO (intD ds))) (fun x y => ofO (ixD x.2 y.2))) (fun x y => ofO (modD x.2 y.2)))) (gSeq (gIfS [4] (gTest (g2 (gVar 4) (gCon (.int 0)) (fun x y => ofO ((fB (eqN 32)) x.2 y.2)))) (gRet [3] (g2 (gLst (lCons (gCon .non) (lCons (gCon (.bl true)) (lCons (gCon (.bl false)) (lNil))))) (g2 (g2 (gVar 3) (gCon (.int 9)) (fun x y => ofO (divD x.2 y.2))) (gCon (.int 3)) (fun x y => ofO (modD x.2 y.2))) (fun x y => ofO (ixD x.2 y.2)))) (gPass)) (gSeq (gIfS [4] (gTest (g2 (gVar 4) (gCon (.int 3)) (fun x y => ofO ((fB ltD) x.2 y.2)))) (gRet [3] (gCall (gCons (g2 (gVar 3) (gCon (.int 9)) (fun x y => ofO (divD x.2 y.2))) (gNil)) m_law_number_by)) (gPass)) (gSeq (gIfS [4] (gTest (g2 (gVar 4) (gCon (.int 5)) (fun x y => ofO ((fB ltD) x.2 y.2)))) (gRet [3] (gCall (gCons (g2 (gVar 3) (gCon (.int 9)) (fun x y => ofO (divD x.2 y.2))) (gNil)) m_law_text_by)) (gPass)) (gSeq (gSet 5 [0, 1, 2, 3] (gComp [7] [7] (gItR1 (g2 (g2 (gVar 3) (gCon (.int 9)) (fun x y => ofO (divD x.2 y.2))) (gCon (.int 5)) (fun x y => ofO (modD x.2 y.2)))) t1 (cYes) (gCall (gCons (gVar 0) (gCons (g2 (g2 (g2 (gVar 1) (gCon (.int 5)) (fun x y => ofO (mulD x.2 y.2))) (gCon (.int 1)) (fun x y => ofO (addD x.2 y.2))) (gVar 7) (fun x y => ofO (addD x.2 y.2))) (gCons (g2 (gVar 2) (gCon (.int 1)) (fun x y => ofO (subD x.2 y.2))) (gNil)))) m_law_thing_by))) (gSeq (gIfS [4] (gTest (g2 (gVar 4) (gCon (.int 7)) (fun x y => ofO ((fB ltD) x.2 y.2)))) (gRetV 5) (gPass)) (gSeq (gSet 6 [] (gCon (.dct []))) (gSeq (gFor [5] [7] (gItR1 (gCall (gCons (gVar 5) (gNil)) (fun ds => ofO (lenD ds)))) t1 (gSetIt 6 [0, 1, 5, 7] (gCall (gCons (g2 (g2 (gCall (gCons (gVar 0) (gCons (g2 (g2 (g2 (gVar 1) (gCon (.int 5)) (fun x y => ofO (mulD x.2 y.2))) (gCon (.int 1)) (fun x y => ofO (addD x.2 y.2))) (gVar 7) (fun x y => ofO (addD x.2 y.2))) (gNil))) m_law_cell) (gCon (.int 9)) (fun x y => ofO (divD x.2 y.2))) (gVar 7) (fun x y => ofO (addD x.2 y.2))) (gNil)) m_law_name_by) (g2 (gVar 5) (gVar 7) (fun x y => ofO (ixD x.2 y.2))))) (gRetV 6)))))))))
theorem ok_law_thing_by (T : Txt K mg cNoKey cCab) {f : Addr} {fd : FuncData} (d : Dfn K mg "_law_thing_by" s_law_thing_by ["_law_script", "_law_k", "_law_deep"] f fd) {m_law_cell : List D → Res FD} (h_law_cell : Cal P w K mg base k "_law_cell" ["_law_script", "_law_k"] m_law_cell) {m_law_number_by : List D → Res FD} (h_law_number_by : Cal P w K mg base k "_law_number_by" ["_law_more"] m_law_number_by) {m_law_text_by : List D → Res FD} (h_law_text_by : Cal P w K mg base k "_law_text_by" ["_law_more"] m_law_text_by) {m_law_thing_by : List D → Res FD} (h_law_thing_by : Cal P w K mg base k "_law_thing_by" ["_law_script", "_law_k", "_law_deep"] m_law_thing_by) {m_law_name_by : List D → Res FD} (h_law_name_by : Cal P w K mg base k "_law_name_by" ["_law_more"] m_law_name_by) : Cal P w K mg base (k + 1) "_law_thing_by" ["_law_script", "_law_k", "_law_deep"] (runG 8 (g_law_thing_by m_law_cell m_law_number_by m_law_text_by m_law_thing_by m_law_name_by)) := by
  refine Cal.of d sc_law_thing_by fun cdv A outer s H E hr => ?_
  have nd := sc_law_thing_by.nd
  have hu : (cxOf (L2.CX P w) P w K mg base ["_law_script", "_law_k", "_law_deep", "_law_more", "_law_kind_here", "_law_some", "_law_result", "_law_j"] "_law_thing_by" (defScope s_law_thing_by) f cdv A outer s H E).A.units + 64 < cLine := hr.units
  have hu1 : (cxOf (L2.CX P w) P w K mg base ["_law_script", "_law_k", "_law_deep", "_law_more", "_law_kind_here", "_law_some", "_law_result", "_law_j"] "_law_thing_by" (defScope s_law_thing_by) f cdv A outer s H E).A.units + 1 < cLine := Nat.lt_of_le_of_lt (Nat.add_le_add_left (by decide) _) hu
  have hc : (cxOf (L2.CX P w) P w K mg base ["_law_script", "_law_k", "_law_deep", "_law_more", "_law_kind_here", "_law_some", "_law_result", "_law_j"] "_law_thing_by" (defScope s_law_thing_by) f cdv A outer s H E).calm = true := rfl
  have tk : Takes (cxOf (L2.CX P w) P w K mg base ["_law_script", "_law_k", "_law_deep", "_law_more", "_law_kind_here", "_law_some", "_law_result", "_law_j"] "_law_thing_by" (defScope s_law_thing_by) f cdv A outer s H E) (WofE E) := takes_of rfl rfl rfl rfl
  have hp := passes_of (X := cxOf (L2.CX P w) P w K mg base ["_law_script", "_law_k", "_law_deep", "_law_more", "_law_kind_here", "_law_some", "_law_result", "_law_j"] "_law_thing_by" (defScope s_law_thing_by) f cdv A outer s H E) rfl
  exact sb_cons (ss_asg (ps_set (i := 3) nd rfl (Or.inl rfl) (ev_fn h_law_cell hr rfl tk rfl (ea_cons (ev_var (pv 0)) (ea_cons (ev_var (pv 1)) (ea_nil))) (gCons_len (gCons_len gNil_len))))) (sb_cons (ss_asg (ps_set (i := 4) nd rfl (Or.inl rfl) (ev_op op_modV (ev_var (pv 3)) (ev_ix hu (ev_lst (el_cons (ev_con pe_int) (el_cons (ev_con pe_int) (el_nil)))) (ev_callTy call_intV rfl T.b_int (by decide +kernel) (ea_cons (ev_cmp op_gtV (ev_var (pv 2)) (ev_con pe_int) (nomark _)) (ea_nil))) (fun _ _ => rfl))))) (sb_cons (ss_if (et_cmp (op_eqV hu) (ev_var (pv 4)) (ev_con pe_int) (nomark _)) (sb_one (ss_ret (ps_ret (ev_ix hu (ev_lst (el_cons (ev_con pe_non) (el_cons (ev_con pe_bl) (el_cons (ev_con pe_bl) (el_nil))))) (ev_op op_modV (ev_op op_divV (ev_var (pv 3)) (ev_con pe_int)) (ev_con pe_int)) (fun _ _ => rfl))))) (sb_nil)) (sb_cons (ss_if (et_cmp op_ltV (ev_var (pv 4)) (ev_con pe_int) (nomark _)) (sb_one (ss_ret (ps_ret (ev_fn h_law_number_by hr rfl tk rfl (ea_cons (ev_op op_divV (ev_var (pv 3)) (ev_con pe_int)) (ea_nil)) (gCons_len gNil_len))))) (sb_nil)) (sb_cons (ss_if (et_cmp op_ltV (ev_var (pv 4)) (ev_con pe_int) (nomark _)) (sb_one (ss_ret (ps_ret (ev_fn h_law_text_by hr rfl tk rfl (ea_cons (ev_op op_divV (ev_var (pv 3)) (ev_con pe_int)) (ea_nil)) (gCons_len gNil_len))))) (sb_nil)) (sb_cons (ss_setLc (i := 5) (own := [("_law_j", 7)]) hc nd rfl rfl (sw_true rfl rfl rfl (by decide +kernel)) (ei_range1 rfl T.b_range (ev_op op_modV (ev_op op_divV (ev_var (pv 3)) (ev_con pe_int)) (ev_con pe_int))) (blkOk_by (by kernel_rfl)) tgt1 (by decide) (fun _ _ _ _ _ => pg_name (i := 7) nd rfl (Or.inl rfl)) tt_yes (fun _ _ _ _ _ => pts_nil) (fun _ _ _ _ _ => ev_fn h_law_thing_by hr rfl takes0 rfl (ea_cons (ev_var (pv 0)) (ea_cons (ev_op op_addV (ev_op op_addV (ev_op op_mulV (ev_var (pv 1)) (ev_con pe_int)) (ev_con pe_int)) (ev_var (pv 7))) (ea_cons (ev_op op_subV (ev_var (pv 2)) (ev_con pe_int)) (ea_nil)))) (gCons_len (gCons_len (gCons_len gNil_len))))) (sb_cons (ss_if (et_cmp op_ltV (ev_var (pv 4)) (ev_con pe_int) (nomark _)) (sb_one (ss_retV (ps_ret (pv 5)))) (sb_nil)) (sb_cons (ss_asg (ps_set (i := 6) nd rfl (Or.inl rfl) (ev_d0))) (sb_cons (ss_for hp hc (ei_range1 rfl T.b_range (ev_callB call_lenV rfl T.b_len (by decide +kernel) (ea_cons (ev_var (pv 5)) (ea_nil)))) (pg_name (i := 7) nd rfl (Or.inl rfl)) tgt1 (sb_one (ss_setIt (ps_asg (ev_ix hu (ev_var (pv 5)) (ev_var (pv 7)) (fun _ _ => rfl)) (pg_sub (pv 6) (ev_fn h_law_name_by hr rfl tk rfl (ea_cons (ev_op op_addV (ev_op op_divV (ev_fn h_law_cell hr rfl tk rfl (ea_cons (ev_var (pv 0)) (ea_cons (ev_op op_addV (ev_op op_addV (ev_op op_mulV (ev_var (pv 1)) (ev_con pe_int)) (ev_con pe_int)) (ev_var (pv 7))) (ea_nil))) (gCons_len (gCons_len gNil_len))) (ev_con pe_int)) (ev_var (pv 7))) (ea_nil)) (gCons_len gNil_len)) (set_V hu1)))))) (sb_one (ss_retV (ps_ret (pv 6))))))))))))
/-! law_kind -/
abbrev s_law_kind : Stmt := top 21
theorem sc_law_kind : FnScope ["_law_thing"] ["_law_thing"] (defScope s_law_kind) := ⟨rfl, rfl, rfl, by decide +kernel, rfl, by decide +kernel, by decide +kernel⟩
def g_law_kind  : GS := gSeq (gIfS [0] (gTest (gIsN (gVar 0))) (gRet [] (gCon (.str "nothing"))) (gPass)) (gSeq (gIfS [0] (gTest (gIsi "bool" (gVar 0))) (gRet [] (gCon (.str "truth"))) (gPass)) (gSeq (gIfS [0] (gTest (gIsi "int" (gVar 0))) (gRet [] (gCon (.str "number"))) (gPass)) (gSeq (gIfS [0] (gTest (gIsi "str" (gVar 0))) (gRet [] (gCon (.str "text"))) (gPass)) (gSeq (gIfS [0] (gTest (gIsi "list" (gVar 0))) (gRet [] (gCon (.str "row"))) (gPass)) (gSeq (gIfS [0] (gTest (gIsi "dict" (gVar 0))) (gRet [] (gCon (.str "record"))) (gPass)) (gRet [] (gCon .non)))))))
theorem ok_law_kind (T : Txt K mg cNoKey cCab) {f : Addr} {fd : FuncData} (d : Dfn K mg "_law_kind" s_law_kind ["_law_thing"] f fd) : Cal P w K mg base (k + 1) "_law_kind" ["_law_thing"] (runG 1 (g_law_kind )) := by
  refine Cal.of d sc_law_kind fun cdv A outer s H E hr => ?_
  have nd := sc_law_kind.nd
  have hu : (cxOf (L2.CX P w) P w K mg base ["_law_thing"] "_law_kind" (defScope s_law_kind) f cdv A outer s H E).A.units + 64 < cLine := hr.units
  have hc : (cxOf (L2.CX P w) P w K mg base ["_law_thing"] "_law_kind" (defScope s_law_kind) f cdv A outer s H E).calm = true := rfl
  have tk : Takes (cxOf (L2.CX P w) P w K mg base ["_law_thing"] "_law_kind" (defScope s_law_kind) f cdv A outer s H E) (WofE E) := takes_of rfl rfl rfl rfl
  exact sb_cons (ss_if (et_pc (ec_isN (ev_var (pv 0))) rfl) (sb_one (ss_ret (ps_ret (ev_con pe_str)))) (sb_nil)) (sb_cons (ss_if (et_val (ev_isi rfl T.b_isinstance rfl T.b_bool (by decide +kernel) (by decide +kernel) (ev_var (pv 0)))) (sb_one (ss_ret (ps_ret (ev_con pe_str)))) (sb_nil)) (sb_cons (ss_if (et_val (ev_isi rfl T.b_isinstance rfl T.b_int (by decide +kernel) (by decide +kernel) (ev_var (pv 0)))) (sb_one (ss_ret (ps_ret (ev_con pe_str)))) (sb_nil)) (sb_cons (ss_if (et_val (ev_isi rfl T.b_isinstance rfl T.b_str (by decide +kernel) (by decide +kernel) (ev_var (pv 0)))) (sb_one (ss_ret (ps_ret (ev_con pe_str)))) (sb_nil)) (sb_cons (ss_if (et_val (ev_isi rfl T.b_isinstance rfl T.b_list (by decide +kernel) (by decide +kernel) (ev_var (pv 0)))) (sb_one (ss_ret (ps_ret (ev_con pe_str)))) (sb_nil)) (sb_cons (ss_if (et_val (ev_isi rfl T.b_isinstance rfl T.b_dict (by decide +kernel) (by decide +kernel) (ev_var (pv 0)))) (sb_one (ss_ret (ps_ret (ev_con pe_str)))) (sb_nil)) (sb_one (ss_ret (ps_ret (ev_con pe_non)))))))))
/-! law_rows_compare -/
abbrev s_law_rows_compare : Stmt := top 22
theorem sc_law_rows_compare : FnScope ["_law_one", "_law_other", "_law_k", "_law_result"] ["_law_one", "_law_other"] (defScope s_law_rows_compare) := ⟨rfl, rfl, rfl, by decide +kernel, rfl, by decide +kernel, by decide +kernel⟩
def g_law_rows_compare (m_law_compare : List D → Res FD) : GS := gSeq (gFor [0, 1] [2] (gItR1 (gCall (gCons (gCall (gCons (gVar 0) (gNil)) (fun ds => ofO (lenD ds))) (gCons (gCall (gCons (gVar 1) (gNil)) (fun ds => ofO (lenD ds))) (gNil))) (fun ds => ofO (minD ds)))) t1 (gSeq (gSet 3 [0, 1, 2] (gCall (gCons (g2 (gVar 0) (gVar 2) (fun x y => ofO (ixD x.2 y.2))) (gCons (g2 (gVar 1) (gVar 2) (fun x y => ofO (ixD x.2 y.2))) (gNil))) m_law_compare)) (gIfS [3] (gTest (g2 (gVar 3) (gCon (.int 0)) (fun x y => ofO ((fB fun a b => (eqN 32 a b).map (!·)) x.2 y.2)))) (gRetV 3) (gPass)))) (gRet [0, 1] (g2 (gCall (gCons (g2 (gCall (gCons (gVar 0) (gNil)) (fun ds => ofO (lenD ds))) (gCall (gCons (gVar 1) (gNil)) (fun ds => ofO (lenD ds))) (fun x y => ofO ((fB gtD) x.2 y.2))) (gNil)) (fun ds => ofO (intD ds))) (gCall (gCons (g2 (gCall (gCons (gVar 0) (gNil)) (fun ds => ofO (lenD ds))) (gCall (gCons (gVar 1) (gNil)) (fun ds => ofO (lenD ds))) (fun x y => ofO ((fB ltD) x.2 y.2))) (gNil)) (fun ds => ofO (intD ds))) (fun x y => ofO (subD x.2 y.2))))
theorem ok_law_rows_compare (T : Txt K mg cNoKey cCab) {f : Addr} {fd : FuncData} (d : Dfn K mg "_law_rows_compare" s_law_rows_compare ["_law_one", "_law_other"] f fd) {m_law_compare : List D → Res FD} (h_law_compare : Cal P w K mg base k "_law_compare" ["_law_one", "_law_other"] m_law_compare) : Cal P w K mg base (k + 1) "_law_rows_compare" ["_law_one", "_law_other"] (runG 4 (g_law_rows_compare m_law_compare)) := by
  refine Cal.of d sc_law_rows_compare fun cdv A outer s H E hr => ?_
  have nd := sc_law_rows_compare.nd
  have hu : (cxOf (L2.CX P w) P w K mg base ["_law_one", "_law_other", "_law_k", "_law_result"] "_law_rows_compare" (defScope s_law_rows_compare) f cdv A outer s H E).A.units + 64 < cLine := hr.units
  have hc : (cxOf (L2.CX P w) P w K mg base ["_law_one", "_law_other", "_law_k", "_law_result"] "_law_rows_compare" (defScope s_law_rows_compare) f cdv A outer s H E).calm = true := rfl
  have tk : Takes (cxOf (L2.CX P w) P w K mg base ["_law_one", "_law_other", "_law_k", "_law_result"] "_law_rows_compare" (defScope s_law_rows_compare) f cdv A outer s H E) (WofE E) := takes_of rfl rfl rfl rfl
  have hp := passes_of (X := cxOf (L2.CX P w) P w K mg base ["_law_one", "_law_other", "_law_k", "_law_result"] "_law_rows_compare" (defScope s_law_rows_compare) f cdv A outer s H E) rfl
  exact sb_cons (ss_for hp hc (ei_range1 rfl T.b_range (ev_callB (call_minV hc) rfl T.b_min (by decide +kernel) (ea_cons (ev_callB call_lenV rfl T.b_len (by decide +kernel) (ea_cons (ev_var (pv 0)) (ea_nil))) (ea_cons (ev_callB call_lenV rfl T.b_len (by decide +kernel) (ea_cons (ev_var (pv 1)) (ea_nil))) (ea_nil))))) (pg_name (i := 2) nd rfl (Or.inl rfl)) tgt1 (sb_cons (ss_asg (ps_set (i := 3) nd rfl (Or.inl rfl) (ev_fn h_law_compare hr rfl tk rfl (ea_cons (ev_ix hu (ev_var (pv 0)) (ev_var (pv 2)) (fun _ _ => rfl)) (ea_cons (ev_ix hu (ev_var (pv 1)) (ev_var (pv 2)) (fun _ _ => rfl)) (ea_nil))) (gCons_len (gCons_len gNil_len))))) (sb_one (ss_if (et_cmp (op_neV hu) (ev_var (pv 3)) (ev_con pe_int) (nomark _)) (sb_one (ss_retV (ps_ret (pv 3)))) (sb_nil))))) (sb_one (ss_ret (ps_ret (ev_op op_subV (ev_callTy call_intV rfl T.b_int (by decide +kernel) (ea_cons (ev_cmp op_gtV (ev_callB call_lenV rfl T.b_len (by decide +kernel) (ea_cons (ev_var (pv 0)) (ea_nil))) (ev_callB call_lenV rfl T.b_len (by decide +kernel) (ea_cons (ev_var (pv 1)) (ea_nil))) (nomark _)) (ea_nil))) (ev_callTy call_intV rfl T.b_int (by decide +kernel) (ea_cons (ev_cmp op_ltV (ev_callB call_lenV rfl T.b_len (by decide +kernel) (ea_cons (ev_var (pv 0)) (ea_nil))) (ev_callB call_lenV rfl T.b_len (by decide +kernel) (ea_cons (ev_var (pv 1)) (ea_nil))) (nomark _)) (ea_nil)))))))
/-! law_compare -/
abbrev s_law_compare : Stmt := top 23
theorem sc_law_compare : FnScope ["_law_one", "_law_other", "_law_words", "_law_first", "_law_second", "_law_left", "_law_right", "_law_name"] ["_law_one", "_law_other"] (defScope s_law_compare) := ⟨rfl, rfl, rfl, by decide +kernel, rfl, by decide +kernel, by decide +kernel⟩
def g_law_compare (m_law_kind : List D → Res FD) (m_law_rows_compare : List D → Res FD) : GS := gSeq (gSet 2 [] (gLst (lCons (gCon (.str "nothing")) (lCons (gCon (.str "truth")) (lCons (gCon (.str "number")) (lCons (gCon (.str "text")) (lCons (gCon (.str "row")) (lCons (gCon (.str "record")) (lNil))))))))) (gSeq (gSet 3 [0, 2] (gMt (gVar 2) (gCall (gCons (gVar 0) (gNil)) m_law_kind) idxD)) (gSeq (gSet 4 [1, 2] (gMt (gVar 2) (gCall (gCons (gVar 1) (gNil)) m_law_kind) idxD)) (gSeq (gIfS [3, 4] (gTest (g2 (gVar 3) (gVar 4) (fun x y => ofO ((fB fun a b => (eqN 32 a b).map (!·)) x.2 y.2)))) (gRet [3, 4] (g2 (gCall (gCons (g2 (gVar 3) (gVar 4) (fun x y => ofO ((fB gtD) x.2 y.2))) (gNil)) (fun ds => ofO (intD ds))) (gCall (gCons (g2 (gVar 3) (gVar 4) (fun x y => ofO ((fB ltD) x.2 y.2))) (gNil)) (fun ds => ofO (intD ds))) (fun x y => ofO (subD x.2 y.2)))) (gPass)) (gSeq (gIfS [3] (gTest (g2 (gVar 3) (gCon (.int 0)) (fun x y => ofO ((fB (eqN 32)) x.2 y.2)))) (gRet [] (gCon (.int 0))) (gPass)) (gSeq (gIfS [3] (gTest (g2 (gVar 3) (gCon (.int 4)) (fun x y => ofO ((fB ltD) x.2 y.2)))) (gRet [0, 1] (g2 (gCall (gCons (g2 (gVar 0) (gVar 1) (fun x y => ofO ((fB gtD) x.2 y.2))) (gNil)) (fun ds => ofO (intD ds))) (gCall (gCons (g2 (gVar 0) (gVar 1) (fun x y => ofO ((fB ltD) x.2 y.2))) (gNil)) (fun ds => ofO (intD ds))) (fun x y => ofO (subD x.2 y.2)))) (gPass)) (gSeq (gIfS [3] (gTest (g2 (gVar 3) (gCon (.int 4)) (fun x y => ofO ((fB (eqN 32)) x.2 y.2)))) (gRet [0, 1] (gCall (gCons (gVar 0) (gCons (gVar 1) (gNil))) m_law_rows_compare)) (gPass)) (gSeq (gSet 5 [0] (gComp [7] [7] (gItL (gCall (gCons (gVar 0) (gNil)) (fun ds => ofO (sortD ds)))) t1 (cYes) (gLst (lCons (gVar 7) (lCons (g2 (gVar 0) (gVar 7) (fun x y => ofO (ixD x.2 y.2))) (lNil)))))) (gSeq (gSet 6 [1] (gComp [7] [7] (gItL (gCall (gCons (gVar 1) (gNil)) (fun ds => ofO (sortD ds)))) t1 (cYes) (gLst (lCons (gVar 7) (lCons (g2 (gVar 1) (gVar 7) (fun x y => ofO (ixD x.2 y.2))) (lNil)))))) (gRet [5, 6] (gCall (gCons (gVar 5) (gCons (gVar 6) (gNil))) m_law_rows_compare))))))))))
theorem ok_law_compare (T : Txt K mg cNoKey cCab) {f : Addr} {fd : FuncData} (d : Dfn K mg "_law_compare" s_law_compare ["_law_one", "_law_other"] f fd) {m_law_kind : List D → Res FD} (h_law_kind : Cal P w K mg base k "_law_kind" ["_law_thing"] m_law_kind) {m_law_rows_compare : List D → Res FD} (h_law_rows_compare : Cal P w K mg base k "_law_rows_compare" ["_law_one", "_law_other"] m_law_rows_compare) : Cal P w K mg base (k + 1) "_law_compare" ["_law_one", "_law_other"] (runG 8 (g_law_compare m_law_kind m_law_rows_compare)) := by
  refine Cal.of d sc_law_compare fun cdv A outer s H E hr => ?_
  have nd := sc_law_compare.nd
  have hu : (cxOf (L2.CX P w) P w K mg base ["_law_one", "_law_other", "_law_words", "_law_first", "_law_second", "_law_left", "_law_right", "_law_name"] "_law_compare" (defScope s_law_compare) f cdv A outer s H E).A.units + 64 < cLine := hr.units
  have hc : (cxOf (L2.CX P w) P w K mg base ["_law_one", "_law_other", "_law_words", "_law_first", "_law_second", "_law_left", "_law_right", "_law_name"] "_law_compare" (defScope s_law_compare) f cdv A outer s H E).calm = true := rfl
  have tk : Takes (cxOf (L2.CX P w) P w K mg base ["_law_one", "_law_other", "_law_words", "_law_first", "_law_second", "_law_left", "_law_right", "_law_name"] "_law_compare" (defScope s_law_compare) f cdv A outer s H E) (WofE E) := takes_of rfl rfl rfl rfl
  exact sb_cons (ss_asg (ps_set (i := 2) nd rfl (Or.inl rfl) (ev_lst (el_cons (ev_con pe_str) (el_cons (ev_con pe_str) (el_cons (ev_con pe_str) (el_cons (ev_con pe_str) (el_cons (ev_con pe_str) (el_cons (ev_con pe_str) (el_nil)))))))))) (sb_cons (ss_asg (ps_set (i := 3) nd rfl (Or.inl rfl) (ev_index (ev_var (pv 2)) (ev_fn h_law_kind hr rfl tk rfl (ea_cons (ev_var (pv 0)) (ea_nil)) (gCons_len gNil_len))))) (sb_cons (ss_asg (ps_set (i := 4) nd rfl (Or.inl rfl) (ev_index (ev_var (pv 2)) (ev_fn h_law_kind hr rfl tk rfl (ea_cons (ev_var (pv 1)) (ea_nil)) (gCons_len gNil_len))))) (sb_cons (ss_if (et_cmp (op_neV hu) (ev_var (pv 3)) (ev_var (pv 4)) (nomark _)) (sb_one (ss_ret (ps_ret (ev_op op_subV (ev_callTy call_intV rfl T.b_int (by decide +kernel) (ea_cons (ev_cmp op_gtV (ev_var (pv 3)) (ev_var (pv 4)) (nomark _)) (ea_nil))) (ev_callTy call_intV rfl T.b_int (by decide +kernel) (ea_cons (ev_cmp op_ltV (ev_var (pv 3)) (ev_var (pv 4)) (nomark _)) (ea_nil))))))) (sb_nil)) (sb_cons (ss_if (et_cmp (op_eqV hu) (ev_var (pv 3)) (ev_con pe_int) (nomark _)) (sb_one (ss_ret (ps_ret (ev_con pe_int)))) (sb_nil)) (sb_cons (ss_if (et_cmp op_ltV (ev_var (pv 3)) (ev_con pe_int) (nomark _)) (sb_one (ss_ret (ps_ret (ev_op op_subV (ev_callTy call_intV rfl T.b_int (by decide +kernel) (ea_cons (ev_cmp op_gtV (ev_var (pv 0)) (ev_var (pv 1)) (nomark _)) (ea_nil))) (ev_callTy call_intV rfl T.b_int (by decide +kernel) (ea_cons (ev_cmp op_ltV (ev_var (pv 0)) (ev_var (pv 1)) (nomark _)) (ea_nil))))))) (sb_nil)) (sb_cons (ss_if (et_cmp (op_eqV hu) (ev_var (pv 3)) (ev_con pe_int) (nomark _)) (sb_one (ss_ret (ps_ret (ev_fn h_law_rows_compare hr rfl tk rfl (ea_cons (ev_var (pv 0)) (ea_cons (ev_var (pv 1)) (ea_nil))) (gCons_len (gCons_len gNil_len)))))) (sb_nil)) (sb_cons (ss_setLc (i := 5) (own := [("_law_name", 7)]) hc nd rfl rfl (sw_true rfl rfl rfl (by decide +kernel)) (ei_list (ev_callB (call_sortV hc) rfl T.b_sorted (by decide +kernel) (ea_cons (ev_var (pv 0)) (ea_nil)))) (blkOk_by (by kernel_rfl)) tgt1 (by decide) (fun _ _ _ _ _ => pg_name (i := 7) nd rfl (Or.inl rfl)) tt_yes (fun _ _ _ _ _ => pts_nil) (fun _ _ _ _ _ => ev_lst (el_cons (ev_var (pv 7)) (el_cons (ev_ix hu (ev_var (pv 0)) (ev_var (pv 7)) (fun _ _ => rfl)) (el_nil))))) (sb_cons (ss_setLc (i := 6) (own := [("_law_name", 7)]) hc nd rfl rfl (sw_true rfl rfl rfl (by decide +kernel)) (ei_list (ev_callB (call_sortV hc) rfl T.b_sorted (by decide +kernel) (ea_cons (ev_var (pv 1)) (ea_nil)))) (blkOk_by (by kernel_rfl)) tgt1 (by decide) (fun _ _ _ _ _ => pg_name (i := 7) nd rfl (Or.inl rfl)) tt_yes (fun _ _ _ _ _ => pts_nil) (fun _ _ _ _ _ => ev_lst (el_cons (ev_var (pv 7)) (el_cons (ev_ix hu (ev_var (pv 1)) (ev_var (pv 7)) (fun _ _ => rfl)) (el_nil))))) (sb_one (ss_ret (ps_ret (ev_fn h_law_rows_compare hr rfl tk rfl (ea_cons (ev_var (pv 5)) (ea_cons (ev_var (pv 6)) (ea_nil))) (gCons_len (gCons_len gNil_len))))))))))))))
/-! law_same -/
abbrev s_law_same : Stmt := top 24
theorem sc_law_same : FnScope ["_law_one", "_law_other"] ["_law_one", "_law_other"] (defScope s_law_same) := ⟨rfl, rfl, rfl, by decide +kernel, rfl, by decide +kernel, by decide +kernel⟩
def g_law_same (m_law_kind : List D → Res FD) (m_law_compare : List D → Res FD) : GS := gRet [0, 1] (gAndV (gNotN (gCall (gCons (gVar 0) (gNil)) m_law_kind)) (gAndV (g2 (gCall (gCons (gVar 0) (gNil)) m_law_kind) (gCall (gCons (gVar 1) (gNil)) m_law_kind) (fun x y => ofO ((fB (eqN 32)) x.2 y.2))) (g2 (gCall (gCons (gVar 0) (gCons (gVar 1) (gNil))) m_law_compare) (gCon (.int 0)) (fun x y => ofO ((fB (eqN 32)) x.2 y.2)))))
theorem ok_law_same (T : Txt K mg cNoKey cCab) {f : Addr} {fd : FuncData} (d : Dfn K mg "_law_same" s_law_same ["_law_one", "_law_other"] f fd) {m_law_kind : List D → Res FD} (h_law_kind : Cal P w K mg base k "_law_kind" ["_law_thing"] m_law_kind) {m_law_compare : List D → Res FD} (h_law_compare : Cal P w K mg base k "_law_compare" ["_law_one", "_law_other"] m_law_compare) : Cal P w K mg base (k + 1) "_law_same" ["_law_one", "_law_other"] (runG 2 (g_law_same m_law_kind m_law_compare)) := by
  refine Cal.of d sc_law_same fun cdv A outer s H E hr => ?_
  have nd := sc_law_same.nd
  have hu : (cxOf (L2.CX P w) P w K mg base ["_law_one", "_law_other"] "_law_same" (defScope s_law_same) f cdv A outer s H E).A.units + 64 < cLine := hr.units
  have hc : (cxOf (L2.CX P w) P w K mg base ["_law_one", "_law_other"] "_law_same" (defScope s_law_same) f cdv A outer s H E).calm = true := rfl
  have tk : Takes (cxOf (L2.CX P w) P w K mg base ["_law_one", "_law_other"] "_law_same" (defScope s_law_same) f cdv A outer s H E) (WofE E) := takes_of rfl rfl rfl rfl
  exact sb_one (ss_ret (ps_ret (ev_and (ev_pc (ec_notN (ev_fn h_law_kind hr rfl tk rfl (ea_cons (ev_var (pv 0)) (ea_nil)) (gCons_len gNil_len))) rfl) (ev_and (ev_cmp (op_eqV hu) (ev_fn h_law_kind hr rfl tk rfl (ea_cons (ev_var (pv 0)) (ea_nil)) (gCons_len gNil_len)) (ev_fn h_law_kind hr rfl tk rfl (ea_cons (ev_var (pv 1)) (ea_nil)) (gCons_len gNil_len)) (nomark _)) (ev_one (ev_cmp (op_eqV hu) (ev_fn h_law_compare hr rfl tk rfl (ea_cons (ev_var (pv 0)) (ea_cons (ev_var (pv 1)) (ea_nil))) (gCons_len (gCons_len gNil_len))) (ev_con pe_int) (nomark _)))))))
/-! law_held -/
abbrev s_law_held : Stmt := top 25
theorem sc_law_held : FnScope ["_law_thing", "_law_one", "_law_name"] ["_law_thing"] (defScope s_law_held) := ⟨rfl, rfl, rfl, by decide +kernel, rfl, by decide +kernel, by decide +kernel⟩
def g_law_held (m_law_held : List D → Res FD) : GS := gSeq (gIfS [0] (gTest (gIsi "list" (gVar 0))) (gRet [0] (gComp [1] [1] (gItL (gVar 0)) t1 (cYes) (gCall (gCons (gVar 1) (gNil)) m_law_held))) (gPass)) (gSeq (gIfS [0] (gTest (gIsi "dict" (gVar 0))) (gRet [0] (gDictT (gComp [2] [2] (gDct 0 keysD) t1 (cYes) (gTpl (lCons (gVar 2) (lCons (gCall (gCons (g2 (gVar 0) (gVar 2) (fun x y => ofO (ixD x.2 y.2))) (gNil)) m_law_held) (lNil))))))) (gPass)) (gRetV 0))
theorem ok_law_held (T : Txt K mg cNoKey cCab) {f : Addr} {fd : FuncData} (d : Dfn K mg "_law_held" s_law_held ["_law_thing"] f fd) {m_law_held : List D → Res FD} (h_law_held : Cal P w K mg base k "_law_held" ["_law_thing"] m_law_held) : Cal P w K mg base (k + 1) "_law_held" ["_law_thing"] (runG 3 (g_law_held m_law_held)) := by
  refine Cal.of d sc_law_held fun cdv A outer s H E hr => ?_
  have nd := sc_law_held.nd
  have hu : (cxOf (L2.CX P w) P w K mg base ["_law_thing", "_law_one", "_law_name"] "_law_held" (defScope s_law_held) f cdv A outer s H E).A.units + 64 < cLine := hr.units
  have hc : (cxOf (L2.CX P w) P w K mg base ["_law_thing", "_law_one", "_law_name"] "_law_held" (defScope s_law_held) f cdv A outer s H E).calm = true := rfl
  have tk : Takes (cxOf (L2.CX P w) P w K mg base ["_law_thing", "_law_one", "_law_name"] "_law_held" (defScope s_law_held) f cdv A outer s H E) (WofE E) := takes_of rfl rfl rfl rfl
  exact sb_cons (ss_if (et_val (ev_isi rfl T.b_isinstance rfl T.b_list (by decide +kernel) (by decide +kernel) (ev_var (pv 0)))) (sb_one (ss_ret (ps_ret (ev_comp (own := [("_law_one", 1)]) hc nd (ei_list (ev_var (pv 0))) (blkOk_by (by kernel_rfl)) tgt1 (by decide) (fun _ _ _ _ _ => pg_name (i := 1) nd rfl (Or.inl rfl)) tt_yes (fun _ _ _ _ _ => pts_nil) (fun _ _ _ _ _ => ev_fn h_law_held hr rfl takes0 rfl (ea_cons (ev_var (pv 1)) (ea_nil)) (gCons_len gNil_len)))))) (sb_nil)) (sb_cons (ss_if (et_val (ev_isi rfl T.b_isinstance rfl T.b_dict (by decide +kernel) (by decide +kernel) (ev_var (pv 0)))) (sb_one (ss_ret (ps_ret (ev_dictT hc rfl T.b_dict (by decide +kernel) (ev_compD (own := [("_law_name", 2)]) hc nd (pi_keys (pv 0)) wk_keys (blkOk_by (by kernel_rfl)) tgt1 (by decide) (fun _ _ _ _ _ => pg_name (i := 2) nd rfl (Or.inl rfl)) tt_yes (fun _ _ _ _ _ => pts_nil) (fun _ _ _ _ _ => ev_tup (el_cons (ev_var (pv 2)) (el_cons (ev_fn h_law_held hr rfl takes0 rfl (ea_cons (ev_ix hu (ev_var (pv 0)) (ev_var (pv 2)) (fun _ _ => rfl)) (ea_nil)) (gCons_len gNil_len)) (el_nil))))))))) (sb_nil)) (sb_one (ss_retV (ps_ret (pv 0)))))
/-! law_small -/
abbrev s_law_small : Stmt := top 26
theorem sc_law_small : FnScope ["_law_script", "_law_k", "_law_more", "_law_some"] ["_law_script", "_law_k"] (defScope s_law_small) := ⟨rfl, rfl, rfl, by decide +kernel, rfl, by decide +kernel, by decide +kernel⟩
def g_law_small (m_law_cell : List D → Res FD) (m_law_thing_by : List D → Res FD) : GS := gSeq (gSet 2 [0, 1] (gCall (gCons (gVar 0) (gCons (gVar 1) (gNil))) m_law_cell)) (gSeq (gSet 3 [] (gLst (lCons (gCon .non) (lCons (gCon (.bl true)) (lCons (gCon (.bl false)) (lCons (gCon (.int 0)) (lCons (gCon (.int 1)) (lCons (gCon (.int 2)) (lCons (gCon (.str "a")) (lCons (gCon (.str "b")) (lCons (gCon (.str "")) (lCons (gLst (lNil)) (lCons (gLst (lCons (gCon (.int 0)) (lNil))) (lCons (gCon (.dct [])) (lCons (gD1 (gCon (.str "a")) (gCon (.int 1))) (lCons (gD1 (gCon (.str "a")) (gCon (.int 2))) (lCons (fun ρ => ((gCon (.int 1)) ρ).bind fun x => ofO (negD x.2)) (lCons (gLst (lCons (gCon (.int 1)) (lCons (gCon (.str "x")) (lNil)))) (lCons (gLst (lCons (gCon (.int 2)) (lNil))) (lCons (gCon (.str "ab")) (lNil))))))))))))))))))))) (gSeq (gIfS [2] (gTest (g2 (g2 (gVar 2) (gCon (.int 4)) (fun x y => ofO (modD x.2 y.2))) (gCon (.int 0)) (fun x y => ofO ((fB (eqN 32)) x.2 y.2)))) (gRet [0, 1] (gCall (gCons (gVar 0) (gCons (g2 (gVar 1) (gCon (.int 1)) (fun x y => ofO (addD x.2 y.2))) (gCons (gCon (.int 2)) (gNil)))) m_law_thing_by)) (gPass)) (gSeq (gIfS [2] (gTest (g2 (g2 (gVar 2) (gCon (.int 4)) (fun x y => ofO (modD x.2 y.2))) (gCon (.int 1)) (fun x y => ofO ((fB (eqN 32)) x.2 y.2)))) (gRet [2] (g2 (g2 (gVar 2) (gCon (.int 4)) (fun x y => ofO (divD x.2 y.2))) (gCon (.int 5)) (fun x y => ofO (modD x.2 y.2)))) (gPass)) (gRet [2, 3] (g2 (gVar 3) (g2 (g2 (gVar 2) (gCon (.int 4)) (fun x y => ofO (divD x.2 y.2))) (gCon (.int 18)) (fun x y => ofO (modD x.2 y.2))) (fun x y => ofO (ixD x.2 y.2)))))))
theorem ok_law_small (T : Txt K mg cNoKey cCab) {f : Addr} {fd : FuncData} (d : Dfn K mg "_law_small" s_law_small ["_law_script", "_law_k"] f fd) {m_law_cell : List D → Res FD} (h_law_cell : Cal P w K mg base k "_law_cell" ["_law_script", "_law_k"] m_law_cell) {m_law_thing_by : List D → Res FD} (h_law_thing_by : Cal P w K mg base k "_law_thing_by" ["_law_script", "_law_k", "_law_deep"] m_law_thing_by) : Cal P w K mg base (k + 1) "_law_small" ["_law_script", "_law_k"] (runG 4 (g_law_small m_law_cell m_law_thing_by)) := by
  refine Cal.of d sc_law_small fun cdv A outer s H E hr => ?_
  have nd := sc_law_small.nd
  have hu : (cxOf (L2.CX P w) P w K mg base ["_law_script", "_law_k", "_law_more", "_law_some"] "_law_small" (defScope s_law_small) f cdv A outer s H E).A.units + 64 < cLine := hr.units
  have hc : (cxOf (L2.CX P w) P w K mg base ["_law_script", "_law_k", "_law_more", "_law_some"] "_law_small" (defScope s_law_small) f cdv A outer s H E).calm = true := rfl
  have tk : Takes (cxOf (L2.CX P w) P w K mg base ["_law_script", "_law_k", "_law_more", "_law_some"] "_law_small" (defScope s_law_small) f cdv A outer s H E) (WofE E) := takes_of rfl rfl rfl rfl
  exact sb_cons (ss_asg (ps_set (i := 2) nd rfl (Or.inl rfl) (ev_fn h_law_cell hr rfl tk rfl (ea_cons (ev_var (pv 0)) (ea_cons (ev_var (pv 1)) (ea_nil))) (gCons_len (gCons_len gNil_len))))) (sb_cons (ss_asg (ps_set (i := 3) nd rfl (Or.inl rfl) (ev_lst (el_cons (ev_con pe_non) (el_cons (ev_con pe_bl) (el_cons (ev_con pe_bl) (el_cons (ev_con pe_int) (el_cons (ev_con pe_int) (el_cons (ev_con pe_int) (el_cons (ev_con pe_str) (el_cons (ev_con pe_str) (el_cons (ev_con pe_str) (el_cons (ev_lst (el_nil)) (el_cons (ev_lst (el_cons (ev_con pe_int) (el_nil))) (el_cons (ev_d0) (el_cons (ev_d1 (ev_con pe_str) (ev_con pe_int)) (el_cons (ev_d1 (ev_con pe_str) (ev_con pe_int)) (el_cons (ev_neg (ev_con pe_int)) (el_cons (ev_lst (el_cons (ev_con pe_int) (el_cons (ev_con pe_str) (el_nil)))) (el_cons (ev_lst (el_cons (ev_con pe_int) (el_nil))) (el_cons (ev_con pe_str) (el_nil)))))))))))))))))))))) (sb_cons (ss_if (et_cmp (op_eqV hu) (ev_op op_modV (ev_var (pv 2)) (ev_con pe_int)) (ev_con pe_int) (nomark _)) (sb_one (ss_ret (ps_ret (ev_fn h_law_thing_by hr rfl tk rfl (ea_cons (ev_var (pv 0)) (ea_cons (ev_op op_addV (ev_var (pv 1)) (ev_con pe_int)) (ea_cons (ev_con pe_int) (ea_nil)))) (gCons_len (gCons_len (gCons_len gNil_len))))))) (sb_nil)) (sb_cons (ss_if (et_cmp (op_eqV hu) (ev_op op_modV (ev_var (pv 2)) (ev_con pe_int)) (ev_con pe_int) (nomark _)) (sb_one (ss_ret (ps_ret (ev_op op_modV (ev_op op_divV (ev_var (pv 2)) (ev_con pe_int)) (ev_con pe_int))))) (sb_nil)) (sb_one (ss_ret (ps_ret (ev_ix hu (ev_var (pv 3)) (ev_op op_modV (ev_op op_divV (ev_var (pv 2)) (ev_con pe_int)) (ev_con pe_int)) (fun _ _ => rfl))))))))
/-! law_record -/
abbrev s_law_record : Stmt := top 27
theorem sc_law_record : FnScope ["_law_script", "_law_k", "_law_more", "_law_result", "_law_j"] ["_law_script", "_law_k"] (defScope s_law_record) := ⟨rfl, rfl, rfl, by decide +kernel, rfl, by decide +kernel, by decide +kernel⟩
def g_law_record (m_law_cell : List D → Res FD) (m_law_small : List D → Res FD) (m_law_names : List D → Res FD) : GS := gSeq (gSet 2 [0, 1] (gCall (gCons (gVar 0) (gCons (gVar 1) (gNil))) m_law_cell)) (gSeq (gIfS [2] (gTest (g2 (g2 (gVar 2) (gCon (.int 9)) (fun x y => ofO (modD x.2 y.2))) (gCon (.int 0)) (fun x y => ofO ((fB (eqN 32)) x.2 y.2)))) (gRet [0, 1] (gCall (gCons (gVar 0) (gCons (g2 (gVar 1) (gCon (.int 1)) (fun x y => ofO (addD x.2 y.2))) (gNil))) m_law_small)) (gPass)) (gSeq (gSet 3 [] (gCon (.dct []))) (gSeq (gFor [] [4] (gItR1 (gCon (.int 3))) t1 (gIfS [2, 4] (gTest (g2 (g2 (g2 (gVar 2) (g2 (gLst (lCons (gCon (.int 9)) (lCons (gCon (.int 27)) (lCons (gCon (.int 81)) (lNil))))) (gVar 4) (fun x y => ofO (ixD x.2 y.2))) (fun x y => ofO (divD x.2 y.2))) (gCon (.int 3)) (fun x y => ofO (modD x.2 y.2))) (gCon (.int 0)) (fun x y => ofO ((fB gtD) x.2 y.2)))) (gSetIt 3 [0, 1, 4] (g2 (gCall (gCons (gVar 0) (gNil)) m_law_names) (gVar 4) (fun x y => ofO (ixD x.2 y.2))) (gCall (gCons (gVar 0) (gCons (g2 (g2 (gVar 1) (gCon (.int 20)) (fun x y => ofO (addD x.2 y.2))) (g2 (gCon (.int 31)) (gVar 4) (fun x y => ofO (mulD x.2 y.2))) (fun x y => ofO (addD x.2 y.2))) (gNil))) m_law_small)) (gPass))) (gSeq (gIfS [2] (gTest (g2 (g2 (g2 (gVar 2) (gCon (.int 243)) (fun x y => ofO (divD x.2 y.2))) (gCon (.int 3)) (fun x y => ofO (modD x.2 y.2))) (gCon (.int 1)) (fun x y => ofO ((fB (eqN 32)) x.2 y.2)))) (gSetIt 3 [0, 1, 2] (g2 (gCall (gCons (gVar 0) (gNil)) m_law_names) (gCon (.int 2)) (fun x y => ofO (ixD x.2 y.2))) (gComp [4] [4] (gItR1 (g2 (g2 (gVar 2) (gCon (.int 729)) (fun x y => ofO (divD x.2 y.2))) (gCon (.int 4)) (fun x y => ofO (modD x.2 y.2)))) t1 (cYes) (gCall (gCons (gVar 0) (gCons (g2 (g2 (gVar 1) (gCon (.int 200)) (fun x y => ofO (addD x.2 y.2))) (g2 (gCon (.int 17)) (gVar 4) (fun x y => ofO (mulD x.2 y.2))) (fun x y => ofO (addD x.2 y.2))) (gNil))) m_law_small))) (gPass)) (gRetV 3)))))
theorem ok_law_record (T : Txt K mg cNoKey cCab) {f : Addr} {fd : FuncData} (d : Dfn K mg "_law_record" s_law_record ["_law_script", "_law_k"] f fd) {m_law_cell : List D → Res FD} (h_law_cell : Cal P w K mg base k "_law_cell" ["_law_script", "_law_k"] m_law_cell) {m_law_small : List D → Res FD} (h_law_small : Cal P w K mg base k "_law_small" ["_law_script", "_law_k"] m_law_small) {m_law_names : List D → Res FD} (h_law_names : Cal P w K mg base k "_law_names" ["_law_script"] m_law_names) : Cal P w K mg base (k + 1) "_law_record" ["_law_script", "_law_k"] (runG 5 (g_law_record m_law_cell m_law_small m_law_names)) := by
  refine Cal.of d sc_law_record fun cdv A outer s H E hr => ?_
  have nd := sc_law_record.nd
  have hu : (cxOf (L2.CX P w) P w K mg base ["_law_script", "_law_k", "_law_more", "_law_result", "_law_j"] "_law_record" (defScope s_law_record) f cdv A outer s H E).A.units + 64 < cLine := hr.units
  have hu1 : (cxOf (L2.CX P w) P w K mg base ["_law_script", "_law_k", "_law_more", "_law_result", "_law_j"] "_law_record" (defScope s_law_record) f cdv A outer s H E).A.units + 1 < cLine := Nat.lt_of_le_of_lt (Nat.add_le_add_left (by decide) _) hu
  have hc : (cxOf (L2.CX P w) P w K mg base ["_law_script", "_law_k", "_law_more", "_law_result", "_law_j"] "_law_record" (defScope s_law_record) f cdv A outer s H E).calm = true := rfl
  have tk : Takes (cxOf (L2.CX P w) P w K mg base ["_law_script", "_law_k", "_law_more", "_law_result", "_law_j"] "_law_record" (defScope s_law_record) f cdv A outer s H E) (WofE E) := takes_of rfl rfl rfl rfl
  have hp := passes_of (X := cxOf (L2.CX P w) P w K mg base ["_law_script", "_law_k", "_law_more", "_law_result", "_law_j"] "_law_record" (defScope s_law_record) f cdv A outer s H E) rfl
  exact sb_cons (ss_asg (ps_set (i := 2) nd rfl (Or.inl rfl) (ev_fn h_law_cell hr rfl tk rfl (ea_cons (ev_var (pv 0)) (ea_cons (ev_var (pv 1)) (ea_nil))) (gCons_len (gCons_len gNil_len))))) (sb_cons (ss_if (et_cmp (op_eqV hu) (ev_op op_modV (ev_var (pv 2)) (ev_con pe_int)) (ev_con pe_int) (nomark _)) (sb_one (ss_ret (ps_ret (ev_fn h_law_small hr rfl tk rfl (ea_cons (ev_var (pv 0)) (ea_cons (ev_op op_addV (ev_var (pv 1)) (ev_con pe_int)) (ea_nil))) (gCons_len (gCons_len gNil_len)))))) (sb_nil)) (sb_cons (ss_asg (ps_set (i := 3) nd rfl (Or.inl rfl) (ev_d0))) (sb_cons (ss_for hp hc (ei_range1 rfl T.b_range (ev_con pe_int)) (pg_name (i := 4) nd rfl (Or.inl rfl)) tgt1 (sb_one (ss_if (et_cmp op_gtV (ev_op op_modV (ev_op op_divV (ev_var (pv 2)) (ev_ix hu (ev_lst (el_cons (ev_con pe_int) (el_cons (ev_con pe_int) (el_cons (ev_con pe_int) (el_nil))))) (ev_var (pv 4)) (fun _ _ => rfl))) (ev_con pe_int)) (ev_con pe_int) (nomark _)) (sb_one (ss_setIt (ps_asg (ev_fn h_law_small hr rfl tk rfl (ea_cons (ev_var (pv 0)) (ea_cons (ev_op op_addV (ev_op op_addV (ev_var (pv 1)) (ev_con pe_int)) (ev_op op_mulV (ev_con pe_int) (ev_var (pv 4)))) (ea_nil))) (gCons_len (gCons_len gNil_len))) (pg_sub (pv 3) (ev_ix hu (ev_fn h_law_names hr rfl tk rfl (ea_cons (ev_var (pv 0)) (ea_nil)) (gCons_len gNil_len)) (ev_var (pv 4)) (fun _ _ => rfl)) (set_V hu1))))) (sb_nil)))) (sb_cons (ss_if (et_cmp (op_eqV hu) (ev_op op_modV (ev_op op_divV (ev_var (pv 2)) (ev_con pe_int)) (ev_con pe_int)) (ev_con pe_int) (nomark _)) (sb_one (ss_setIt (ps_asg (ev_comp (own := [("_law_j", 4)]) hc nd (ei_range1 rfl T.b_range (ev_op op_modV (ev_op op_divV (ev_var (pv 2)) (ev_con pe_int)) (ev_con pe_int))) (blkOk_by (by kernel_rfl)) tgt1 (by decide) (fun _ _ _ _ _ => pg_name (i := 4) nd rfl (Or.inl rfl)) tt_yes (fun _ _ _ _ _ => pts_nil) (fun _ _ _ _ _ => ev_fn h_law_small hr rfl takes0 rfl (ea_cons (ev_var (pv 0)) (ea_cons (ev_op op_addV (ev_op op_addV (ev_var (pv 1)) (ev_con pe_int)) (ev_op op_mulV (ev_con pe_int) (ev_var (pv 4)))) (ea_nil))) (gCons_len (gCons_len gNil_len)))) (pg_sub (pv 3) (ev_ix hu (ev_fn h_law_names hr rfl tk rfl (ea_cons (ev_var (pv 0)) (ea_nil)) (gCons_len gNil_len)) (ev_con pe_int) (fun _ _ => rfl)) (set_V hu1))))) (sb_nil)) (sb_one (ss_retV (ps_ret (pv 3))))))))
/-! law_records -/
abbrev s_law_records : Stmt := top 28
theorem sc_law_records : FnScope ["_law_script", "_law_most", "_law_result", "_law_j", "_law_more", "_law_key"] ["_law_script", "_law_most"] (defScope s_law_records) := ⟨rfl, rfl, rfl, by decide +kernel, rfl, by decide +kernel, by decide +kernel⟩
def g_law_records (m_law_cell : List D → Res FD) (m_law_record : List D → Res FD) : GS := gSeq (gSet 2 [] (gCon (.dct []))) (gSeq (gFor [0, 1] [3] (gItR1 (g2 (gCall (gCons (gVar 0) (gCons (gCon (.int 0)) (gNil))) m_law_cell) (g2 (gVar 1) (gCon (.int 1)) (fun x y => ofO (addD x.2 y.2))) (fun x y => ofO (modD x.2 y.2)))) t1 (gSeq (gSet 4 [0, 3] (gCall (gCons (gVar 0) (gCons (g2 (gCon (.int 400)) (gVar 3) (fun x y => ofO (addD x.2 y.2))) (gNil))) m_law_cell)) (gSeq (gSet 5 [3, 4] (g2 (gLst (lCons (gVar 3) (lCons (g2 (g2 (gVar 4) (gCon (.int 3)) (fun x y => ofO (divD x.2 y.2))) (gCon (.int 12)) (fun x y => ofO (modD x.2 y.2))) (lCons (g2 (gVar 4) (gCon (.int 3)) (fun x y => ofO (divD x.2 y.2))) (lNil))))) (g2 (gVar 4) (gCon (.int 3)) (fun x y => ofO (modD x.2 y.2))) (fun x y => ofO (ixD x.2 y.2)))) (gSetIt 2 [0, 3, 5] (gVar 5) (gCall (gCons (gVar 0) (gCons (g2 (gCon (.int 1000)) (g2 (gCon (.int 700)) (gVar 3) (fun x y => ofO (mulD x.2 y.2))) (fun x y => ofO (addD x.2 y.2))) (gNil))) m_law_record))))) (gRetV 2))
theorem ok_law_records (T : Txt K mg cNoKey cCab) {f : Addr} {fd : FuncData} (d : Dfn K mg "_law_records" s_law_records ["_law_script", "_law_most"] f fd) {m_law_cell : List D → Res FD} (h_law_cell : Cal P w K mg base k "_law_cell" ["_law_script", "_law_k"] m_law_cell) {m_law_record : List D → Res FD} (h_law_record : Cal P w K mg base k "_law_record" ["_law_script", "_law_k"] m_law_record) : Cal P w K mg base (k + 1) "_law_records" ["_law_script", "_law_most"] (runG 6 (g_law_records m_law_cell m_law_record)) := by
  refine Cal.of d sc_law_records fun cdv A outer s H E hr => ?_
  have nd := sc_law_records.nd
  have hu : (cxOf (L2.CX P w) P w K mg base ["_law_script", "_law_most", "_law_result", "_law_j", "_law_more", "_law_key"] "_law_records" (defScope s_law_records) f cdv A outer s H E).A.units + 64 < cLine := hr.units
  have hu1 : (cxOf (L2.CX P w) P w K mg base ["_law_script", "_law_most", "_law_result", "_law_j", "_law_more", "_law_key"] "_law_records" (defScope s_law_records) f cdv A outer s H E).A.units + 1 < cLine := Nat.lt_of_le_of_lt (Nat.add_le_add_left (by decide) _) hu
  have hc : (cxOf (L2.CX P w) P w K mg base ["_law_script", "_law_most", "_law_result", "_law_j", "_law_more", "_law_key"] "_law_records" (defScope s_law_records) f cdv A outer s H E).calm = true := rfl
  have tk : Takes (cxOf (L2.CX P w) P w K mg base ["_law_script", "_law_most", "_law_result", "_law_j", "_law_more", "_law_key"] "_law_records" (defScope s_law_records) f cdv A outer s H E) (WofE E) := takes_of rfl rfl rfl rfl
  have hp := passes_of (X := cxOf (L2.CX P w) P w K mg base ["_law_script", "_law_most", "_law_result", "_law_j", "_law_more", "_law_key"] "_law_records" (defScope s_law_records) f cdv A outer s H E) rfl
  exact sb_cons (ss_asg (ps_set (i := 2) nd rfl (Or.inl rfl) (ev_d0))) (sb_cons (ss_for hp hc (ei_range1 rfl T.b_range (ev_op op_modV (ev_fn h_law_cell hr rfl tk rfl (ea_cons (ev_var (pv 0)) (ea_cons (ev_con pe_int) (ea_nil))) (gCons_len (gCons_len gNil_len))) (ev_op op_addV (ev_var (pv 1)) (ev_con pe_int)))) (pg_name (i := 3) nd rfl (Or.inl rfl)) tgt1 (sb_cons (ss_asg (ps_set (i := 4) nd rfl (Or.inl rfl) (ev_fn h_law_cell hr rfl tk rfl (ea_cons (ev_var (pv 0)) (ea_cons (ev_op op_addV (ev_con pe_int) (ev_var (pv 3))) (ea_nil))) (gCons_len (gCons_len gNil_len))))) (sb_cons (ss_asg (ps_set (i := 5) nd rfl (Or.inl rfl) (ev_ix hu (ev_lst (el_cons (ev_var (pv 3)) (el_cons (ev_op op_modV (ev_op op_divV (ev_var (pv 4)) (ev_con pe_int)) (ev_con pe_int)) (el_cons (ev_op op_divV (ev_var (pv 4)) (ev_con pe_int)) (el_nil))))) (ev_op op_modV (ev_var (pv 4)) (ev_con pe_int)) (fun _ _ => rfl)))) (sb_one (ss_setIt (ps_asg (ev_fn h_law_record hr rfl tk rfl (ea_cons (ev_var (pv 0)) (ea_cons (ev_op op_addV (ev_con pe_int) (ev_op op_mulV (ev_con pe_int) (ev_var (pv 3)))) (ea_nil))) (gCons_len (gCons_len gNil_len))) (pg_sub (pv 2) (ev_var (pv 5)) (set_V hu1)))))))) (sb_one (ss_retV (ps_ret (pv 2)))))
/-! law_names -/
abbrev s_law_names : Stmt := top 29
theorem sc_law_names : FnScope ["_law_script", "_law_more", "_law_some", "_law_drawn"] ["_law_script"] (defScope s_law_names) := ⟨rfl, rfl, rfl, by decide +kernel, rfl, by decide +kernel, by decide +kernel⟩
def g_law_names (m_law_cell : List D → Res FD) (m_law_name_by : List D → Res FD) : GS := gSeq (gSet 1 [0] (gCall (gCons (gVar 0) (gCons (gCon (.int 990)) (gNil))) m_law_cell)) (gSeq (gSet 2 [] (gLst (lCons (gLst (lCons (gCon (.str "a")) (lCons (gCon (.str "b")) (lCons (gCon (.str "r")) (lNil))))) (lCons (gLst (lCons (gCon (.str "aa")) (lCons (gCon (.str "a")) (lCons (gCon (.str "ab")) (lNil))))) (lCons (gLst (lCons (gCon (.str "x12")) (lCons (gCon (.str "x1")) (lCons (gCon (.str "x2")) (lNil))))) (lNil)))))) (gSeq (gSet 3 [1] (gLst (lCons (gCall (gCons (g2 (gVar 1) (gCon (.int 4)) (fun x y => ofO (divD x.2 y.2))) (gNil)) m_law_name_by) (lCons (g2 (gSl (gCall (gCons (g2 (gVar 1) (gCon (.int 4)) (fun x y => ofO (divD x.2 y.2))) (gNil)) m_law_name_by) none (some (gCon (.int 11)))) (gCon (.str "0")) (fun x y => ofO (addD x.2 y.2))) (lCons (gCon (.str "z")) (lNil)))))) (gRet [1, 2, 3] (g2 (g2 (gVar 2) (gLst (lCons (gVar 3) (lNil))) (fun x y => ofO (addD x.2 y.2))) (g2 (gVar 1) (gCon (.int 4)) (fun x y => ofO (modD x.2 y.2))) (fun x y => ofO (ixD x.2 y.2))))))
theorem ok_law_names (T : Txt K mg cNoKey cCab) {f : Addr} {fd : FuncData} (d : Dfn K mg "_law_names" s_law_names ["_law_script"] f fd) {m_law_cell : List D → Res FD} (h_law_cell : Cal P w K mg base k "_law_cell" ["_law_script", "_law_k"] m_law_cell) {m_law_name_by : List D → Res FD} (h_law_name_by : Cal P w K mg base k "_law_name_by" ["_law_more"] m_law_name_by) : Cal P w K mg base (k + 1) "_law_names" ["_law_script"] (runG 4 (g_law_names m_law_cell m_law_name_by)) := by
  refine Cal.of d sc_law_names fun cdv A outer s H E hr => ?_
  have nd := sc_law_names.nd
  have hu : (cxOf (L2.CX P w) P w K mg base ["_law_script", "_law_more", "_law_some", "_law_drawn"] "_law_names" (defScope s_law_names) f cdv A outer s H E).A.units + 64 < cLine := hr.units
  have hc : (cxOf (L2.CX P w) P w K mg base ["_law_script", "_law_more", "_law_some", "_law_drawn"] "_law_names" (defScope s_law_names) f cdv A outer s H E).calm = true := rfl
  have tk : Takes (cxOf (L2.CX P w) P w K mg base ["_law_script", "_law_more", "_law_some", "_law_drawn"] "_law_names" (defScope s_law_names) f cdv A outer s H E) (WofE E) := takes_of rfl rfl rfl rfl
  exact sb_cons (ss_asg (ps_set (i := 1) nd rfl (Or.inl rfl) (ev_fn h_law_cell hr rfl tk rfl (ea_cons (ev_var (pv 0)) (ea_cons (ev_con pe_int) (ea_nil))) (gCons_len (gCons_len gNil_len))))) (sb_cons (ss_asg (ps_set (i := 2) nd rfl (Or.inl rfl) (ev_lst (el_cons (ev_lst (el_cons (ev_con pe_str) (el_cons (ev_con pe_str) (el_cons (ev_con pe_str) (el_nil))))) (el_cons (ev_lst (el_cons (ev_con pe_str) (el_cons (ev_con pe_str) (el_cons (ev_con pe_str) (el_nil))))) (el_cons (ev_lst (el_cons (ev_con pe_str) (el_cons (ev_con pe_str) (el_cons (ev_con pe_str) (el_nil))))) (el_nil))))))) (sb_cons (ss_asg (ps_set (i := 3) nd rfl (Or.inl rfl) (ev_lst (el_cons (ev_fn h_law_name_by hr rfl tk rfl (ea_cons (ev_op op_divV (ev_var (pv 1)) (ev_con pe_int)) (ea_nil)) (gCons_len gNil_len)) (el_cons (ev_op op_addV (ev_sl (ev_fn h_law_name_by hr rfl tk rfl (ea_cons (ev_op op_divV (ev_var (pv 1)) (ev_con pe_int)) (ea_nil)) (gCons_len gNil_len)) prt_none (prt_some (ev_con pe_int))) (ev_con pe_str)) (el_cons (ev_con pe_str) (el_nil))))))) (sb_one (ss_ret (ps_ret (ev_ix hu (ev_op op_addV (ev_var (pv 2)) (ev_lst (el_cons (ev_var (pv 3)) (el_nil)))) (ev_op op_modV (ev_var (pv 1)) (ev_con pe_int)) (fun _ _ => rfl)))))))
/-! law_path -/
abbrev s_law_path : Stmt := top 30
theorem sc_law_path : FnScope ["_law_script", "_law_k", "_law_more", "_law_one", "_law_last", "_law_some"] ["_law_script", "_law_k"] (defScope s_law_path) := ⟨rfl, rfl, rfl, by decide +kernel, rfl, by decide +kernel, by decide +kernel⟩
def g_law_path (m_law_cell : List D → Res FD) (m_law_names : List D → Res FD) : GS := gSeq (gSet 2 [0, 1] (gCall (gCons (gVar 0) (gCons (gVar 1) (gNil))) m_law_cell)) (gSeq (gSet 3 [0] (g2 (gCall (gCons (gVar 0) (gNil)) m_law_names) (gCon (.int 0)) (fun x y => ofO (ixD x.2 y.2)))) (gSeq (gSet 4 [0] (g2 (gCall (gCons (gVar 0) (gNil)) m_law_names) (gCon (.int 2)) (fun x y => ofO (ixD x.2 y.2)))) (gSeq (gSet 5 [0, 3, 4] (gLst (lCons (gLst (lCons (gVar 3) (lNil))) (lCons (gLst (lCons (g2 (gCall (gCons (gVar 0) (gNil)) m_law_names) (gCon (.int 1)) (fun x y => ofO (ixD x.2 y.2))) (lNil))) (lCons (gLst (lCons (gVar 4) (lNil))) (lCons (gLst (lNil)) (lCons (gLst (lCons (gVar 4) (lCons (gCon (.int 0)) (lNil)))) (lCons (gLst (lCons (gVar 3) (lCons (gCon (.str "a")) (lNil)))) (lCons (gLst (lCons (gVar 4) (lCons (gCon (.int 1)) (lNil)))) (lNil)))))))))) (gRet [2, 3, 4, 5] (gCall (gCons (g2 (g2 (g2 (gVar 5) (gLst (lCons (gLst (lCons (gVar 3) (lCons (gCon (.int 0)) (lNil)))) (lCons (gLst (lCons (gCon (.str "zz")) (lNil))) (lCons (gLst (lCons (gVar 4) (lCons (gCon (.int 0)) (lCons (gCon (.str "a")) (lNil))))) (lNil))))) (fun x y => ofO (addD x.2 y.2))) (gSl (gVar 5) none (some (gCon (.int 3)))) (fun x y => ofO (addD x.2 y.2))) (g2 (gVar 2) (gCon (.int 13)) (fun x y => ofO (modD x.2 y.2))) (fun x y => ofO (ixD x.2 y.2))) (gNil)) (fun ds => ofO (listD ds)))))))
theorem ok_law_path (T : Txt K mg cNoKey cCab) {f : Addr} {fd : FuncData} (d : Dfn K mg "_law_path" s_law_path ["_law_script", "_law_k"] f fd) {m_law_cell : List D → Res FD} (h_law_cell : Cal P w K mg base k "_law_cell" ["_law_script", "_law_k"] m_law_cell) {m_law_names : List D → Res FD} (h_law_names : Cal P w K mg base k "_law_names" ["_law_script"] m_law_names) : Cal P w K mg base (k + 1) "_law_path" ["_law_script", "_law_k"] (runG 6 (g_law_path m_law_cell m_law_names)) := by
  refine Cal.of d sc_law_path fun cdv A outer s H E hr => ?_
  have nd := sc_law_path.nd
  have hu : (cxOf (L2.CX P w) P w K mg base ["_law_script", "_law_k", "_law_more", "_law_one", "_law_last", "_law_some"] "_law_path" (defScope s_law_path) f cdv A outer s H E).A.units + 64 < cLine := hr.units
  have hc : (cxOf (L2.CX P w) P w K mg base ["_law_script", "_law_k", "_law_more", "_law_one", "_law_last", "_law_some"] "_law_path" (defScope s_law_path) f cdv A outer s H E).calm = true := rfl
  have tk : Takes (cxOf (L2.CX P w) P w K mg base ["_law_script", "_law_k", "_law_more", "_law_one", "_law_last", "_law_some"] "_law_path" (defScope s_law_path) f cdv A outer s H E) (WofE E) := takes_of rfl rfl rfl rfl
  exact sb_cons (ss_asg (ps_set (i := 2) nd rfl (Or.inl rfl) (ev_fn h_law_cell hr rfl tk rfl (ea_cons (ev_var (pv 0)) (ea_cons (ev_var (pv 1)) (ea_nil))) (gCons_len (gCons_len gNil_len))))) (sb_cons (ss_asg (ps_set (i := 3) nd rfl (Or.inl rfl) (ev_ix hu (ev_fn h_law_names hr rfl tk rfl (ea_cons (ev_var (pv 0)) (ea_nil)) (gCons_len gNil_len)) (ev_con pe_int) (fun _ _ => rfl)))) (sb_cons (ss_asg (ps_set (i := 4) nd rfl (Or.inl rfl) (ev_ix hu (ev_fn h_law_names hr rfl tk rfl (ea_cons (ev_var (pv 0)) (ea_nil)) (gCons_len gNil_len)) (ev_con pe_int) (fun _ _ => rfl)))) (sb_cons (ss_asg (ps_set (i := 5) nd rfl (Or.inl rfl) (ev_lst (el_cons (ev_lst (el_cons (ev_var (pv 3)) (el_nil))) (el_cons (ev_lst (el_cons (ev_ix hu (ev_fn h_law_names hr rfl tk rfl (ea_cons (ev_var (pv 0)) (ea_nil)) (gCons_len gNil_len)) (ev_con pe_int) (fun _ _ => rfl)) (el_nil))) (el_cons (ev_lst (el_cons (ev_var (pv 4)) (el_nil))) (el_cons (ev_lst (el_nil)) (el_cons (ev_lst (el_cons (ev_var (pv 4)) (el_cons (ev_con pe_int) (el_nil)))) (el_cons (ev_lst (el_cons (ev_var (pv 3)) (el_cons (ev_con pe_str) (el_nil)))) (el_cons (ev_lst (el_cons (ev_var (pv 4)) (el_cons (ev_con pe_int) (el_nil)))) (el_nil))))))))))) (sb_one (ss_ret (ps_ret (ev_callTy call_listV rfl T.b_list (by decide +kernel) (ea_cons (ev_ix hu (ev_op op_addV (ev_op op_addV (ev_var (pv 5)) (ev_lst (el_cons (ev_lst (el_cons (ev_var (pv 3)) (el_cons (ev_con pe_int) (el_nil)))) (el_cons (ev_lst (el_cons (ev_con pe_str) (el_nil))) (el_cons (ev_lst (el_cons (ev_var (pv 4)) (el_cons (ev_con pe_int) (el_cons (ev_con pe_str) (el_nil))))) (el_nil)))))) (ev_sl (ev_var (pv 5)) prt_none (prt_some (ev_con pe_int)))) (ev_op op_modV (ev_var (pv 2)) (ev_con pe_int)) (fun _ _ => rfl)) (ea_nil)))))))))
/-! law_led -/
abbrev s_law_led : Stmt := top 31
theorem sc_law_led : FnScope ["_law_thing", "_law_path_here", "_law_step"] ["_law_thing", "_law_path_here"] (defScope s_law_led) := ⟨rfl, rfl, rfl, by decide +kernel, rfl, by decide +kernel, by decide +kernel⟩
def g_law_led  : GS := gSeq (gFor [1] [2] (gItL (gVar 1)) t1 (gIfS [0, 2] (gAndT (gTest (gIsi "dict" (gVar 0))) (gAndT (gTest (gIsi "str" (gVar 2))) (gTest (g2 (gVar 2) (gVar 0) (fun x y => ofO ((fB inD) x.2 y.2)))))) (gSet 0 [0, 2] (g2 (gVar 0) (gVar 2) (fun x y => ofO (ixD x.2 y.2)))) (gIfS [0, 2] (gAndT (gTest (gIsi "list" (gVar 0))) (gAndT (gNotT (gTest (gIsi "str" (gVar 2)))) (gTest (g2 (gVar 2) (gCall (gCons (gVar 0) (gNil)) (fun ds => ofO (lenD ds))) (fun x y => ofO ((fB ltD) x.2 y.2)))))) (gSet 0 [0, 2] (g2 (gVar 0) (gVar 2) (fun x y => ofO (ixD x.2 y.2)))) (gRet [] (gLst (lCons (gCon (.bl false)) (lCons (gCon .non) (lNil)))))))) (gRet [0] (gLst (lCons (gCon (.bl true)) (lCons (gVar 0) (lNil)))))
theorem ok_law_led (T : Txt K mg cNoKey cCab) {f : Addr} {fd : FuncData} (d : Dfn K mg "_law_led" s_law_led ["_law_thing", "_law_path_here"] f fd) : Cal P w K mg base (k + 1) "_law_led" ["_law_thing", "_law_path_here"] (runG 3 (g_law_led )) := by
  refine Cal.of d sc_law_led fun cdv A outer s H E hr => ?_
  have nd := sc_law_led.nd
  have hu : (cxOf (L2.CX P w) P w K mg base ["_law_thing", "_law_path_here", "_law_step"] "_law_led" (defScope s_law_led) f cdv A outer s H E).A.units + 64 < cLine := hr.units
  have hc : (cxOf (L2.CX P w) P w K mg base ["_law_thing", "_law_path_here", "_law_step"] "_law_led" (defScope s_law_led) f cdv A outer s H E).calm = true := rfl
  have tk : Takes (cxOf (L2.CX P w) P w K mg base ["_law_thing", "_law_path_here", "_law_step"] "_law_led" (defScope s_law_led) f cdv A outer s H E) (WofE E) := takes_of rfl rfl rfl rfl
  have hp := passes_of (X := cxOf (L2.CX P w) P w K mg base ["_law_thing", "_law_path_here", "_law_step"] "_law_led" (defScope s_law_led) f cdv A outer s H E) rfl
  exact sb_cons (ss_for hp hc (ei_list (ev_var (pv 1))) (pg_name (i := 2) nd rfl (Or.inl rfl)) tgt1 (sb_one (ss_if (PW.pt (ew_and (et_val (ev_isi rfl T.b_isinstance rfl T.b_dict (by decide +kernel) (by decide +kernel) (ev_var (pv 0)))) (ew_and (et_val (ev_isi rfl T.b_isinstance rfl T.b_str (by decide +kernel) (by decide +kernel) (ev_var (pv 2)))) (ew_and1 (et_cmp (op_inV hu) (ev_var (pv 2)) (ev_var (pv 0)) rfl))))) (sb_one (ss_asg (ps_set (i := 0) nd rfl (Or.inl rfl) (ev_ix hu (ev_var (pv 0)) (ev_var (pv 2)) (fun _ _ => rfl))))) (sb_one (ss_if (PW.pt (ew_and (et_val (ev_isi rfl T.b_isinstance rfl T.b_list (by decide +kernel) (by decide +kernel) (ev_var (pv 0)))) (ew_and (et_not (et_val (ev_isi rfl T.b_isinstance rfl T.b_str (by decide +kernel) (by decide +kernel) (ev_var (pv 2))))) (ew_and1 (et_cmp op_ltV (ev_var (pv 2)) (ev_callB call_lenV rfl T.b_len (by decide +kernel) (ea_cons (ev_var (pv 0)) (ea_nil))) (nomark _)))))) (sb_one (ss_asg (ps_set (i := 0) nd rfl (Or.inl rfl) (ev_ix hu (ev_var (pv 0)) (ev_var (pv 2)) (fun _ _ => rfl))))) (sb_one (ss_ret (ps_ret (ev_lst (el_cons (ev_con pe_bl) (el_cons (ev_con pe_non) (el_nil)))))))))))) (sb_one (ss_ret (ps_ret (ev_lst (el_cons (ev_con pe_bl) (el_cons (ev_var (pv 0)) (el_nil)))))))
end
end G
end

section
set_option Elab.async false
set_option maxRecDepth 100000
set_option linter.all false
set_option maxHeartbeats 4000000
namespace G
open PySem PySem.Spec PyProof.Rows L2 VL
section
variable {P : Program} {w : World} {K : PySem.W.Frag} {mg : Str → Option Value} {base : Heap} {k : Nat} {cNoKey cCab : Addr}
/-! law_refused -/
abbrev s_law_refused : Stmt := top 32
theorem sc_law_refused : FnScope ["_law_records_here", "_law_keys", "_law_paths", "e"] ["_law_records_here", "_law_keys", "_law_paths"] (defScope s_law_refused) := ⟨rfl, rfl, rfl, by decide +kernel, rfl, by decide +kernel, by decide +kernel⟩
def mtN (c : Str) : Option Bool := if c = "NoKey" then some true else none
def hN (c : Str) (fs : List (Str × D)) : GS := if c = "NoKey" ∧ fs = [] then (fun _ => .rt (.T, .bl true)) else (fun _ => .bad)
def g_law_refused (m_shown : List D → Res FD) : GS := gSeq (gTry 3 mtN (gDrop [0, 1, 2] (gCall (gCons (gVar 0) (gCons (gVar 1) (gCons (gVar 2) gNil))) m_shown)) hN) (gRet [] (gCon (.bl false)))
theorem ok_law_refused (T : Txt K mg cNoKey cCab) {f : Addr} {fd : FuncData} (d : Dfn K mg "_law_refused" s_law_refused ["_law_records_here", "_law_keys", "_law_paths"] f fd) {m_shown : List D → Res FD} (h_shown : Cal P w K mg base k "shown" ["records", "keys", "paths"] m_shown) :
    Cal P w K mg base (k + 1) "_law_refused" ["_law_records_here", "_law_keys", "_law_paths"] (runG 4 (g_law_refused m_shown)) := by
  refine Cal.of d sc_law_refused fun cdv A outer s H E hr => ?_
  have nd := sc_law_refused.nd
  have tk : Takes (cxOf (L2.CX P w) P w K mg base ["_law_records_here", "_law_keys", "_law_paths", "e"] "_law_refused" (defScope s_law_refused) f cdv A outer s H E) (WofE E) := takes_of rfl rfl rfl rfl
  refine sb_cons (ss_tryAs (i := 3) (C := cCab) rfl rfl nd rfl rfl ⟨rfl, by decide, .inl T.m_Cab⟩ (fun c Cc b hm hc => ?_) tk (fun W' pn xe tk' hp' => sb_one (ss_drop (ps_expr (ev_fn h_shown hr rfl tk' rfl (ea_cons (ev_var (pv 0)) (ea_cons (ev_var (pv 1)) (ea_cons (ev_var (pv 2)) ea_nil))) (gCons_len (gCons_len (gCons_len gNil_len))))))) (fun c fs a oe cls d pn hm hz hv hfd => ?_)) (sb_one (ss_ret (ps_ret (ev_con pe_bl))))
  · unfold mtN at hc
    split at hc
    · rename_i e
      subst e
      cases hc
      have e1 := T.e_NoKey.g
      have hm' : mg "NoKey" = some (.ref Cc) := hm
      rw [e1] at hm'
      cases hm'
      exact T.x_NoKey
    · cases hc
  · unfold hN
    by_cases hc : c = "NoKey" ∧ fs = []
    · rw [if_pos hc]
      obtain ⟨rfl, rfl⟩ := hc
      have hm' : mg "NoKey" = some cls := hm
      rw [T.e_NoKey.g] at hm'
      cases hm'
      have hd := hfd rfl
      subst hd
      exact pss_one (ss_retIsE T.i_NoKey (ps_ret (pe_callB (call_isE T.c_NoKey hz hv) rfl T.b_isinstance (by decide +kernel) (pa_cons (pv 3) (pa_cons (pe_glob (v := .ref cNoKey) rfl T.e_NoKey.g rfl) pa_nil)))))
    · rw [if_neg hc]
      exact pss_never.imp fun D σ H h => by
        obtain ⟨_, B, ρ, e, q⟩ := h
        exact q
/-! law -/
abbrev s_law : Stmt := top 34
theorem sc_law : FnScope ["_law_script", "_law_records_here", "_law_some", "_law_keys", "_law_j", "_law_paths", "_law_held_here", "_law_due", "_law_result", "_law_marked", "_law_more", "_law_far", "_law_at", "_law_key", "_law_path_here"] ["_law_script"] (defScope s_law) := ⟨rfl, rfl, rfl, by decide +kernel, rfl, by decide +kernel, by decide +kernel⟩
def g_law (m_law_records : List D → Res FD) (m_law_cell : List D → Res FD) (m_law_path : List D → Res FD) (m_law_held : List D → Res FD) (m_law_refused : List D → Res FD) (m_law_led : List D → Res FD) (m_shown : List D → Res FD) (m_law_same : List D → Res FD) (m_law_own_marks : D → Int → Option (D × Int)) : GS := gSeq (gSet 1 [0] (gCall (gCons (gVar 0) (gCons (gCon (.int 10)) (gNil))) m_law_records)) (gSeq (gSet 2 [1] (gCall (gCons (gVar 1) (gNil)) (fun ds => ofO (sortD ds)))) (gSeq (gSet 3 [] (gLst (lNil))) (gSeq (gFor [0] [4] (gItR1 (g2 (gCall (gCons (gVar 0) (gCons (gCon (.int 1)) (gNil))) m_law_cell) (gCon (.int 7)) (fun x y => ofO (modD x.2 y.2)))) t1 (gIfS [2] (gTest (g2 (gVar 2) (gLst (lNil)) (fun x y => ofO ((fB fun a b => (eqN 32 a b).map (!·)) x.2 y.2)))) (gApp 3 [0, 2, 4] (g2 (gVar 2) (g2 (gCall (gCons (gVar 0) (gCons (g2 (gCon (.int 20)) (gVar 4) (fun x y => ofO (addD x.2 y.2))) (gNil))) m_law_cell) (gCall (gCons (gVar 2) (gNil)) (fun ds => ofO (lenD ds))) (fun x y => ofO (modD x.2 y.2))) (fun x y => ofO (ixD x.2 y.2)))) (gPass))) (gSeq (gSet 5 [0] (gComp [4] [4] (gItR1 (g2 (gCall (gCons (gVar 0) (gCons (gCon (.int 2)) (gNil))) m_law_cell) (gCon (.int 6)) (fun x y => ofO (modD x.2 y.2)))) t1 (cYes) (gCall (gCons (gVar 0) (gCons (g2 (gCon (.int 60)) (gVar 4) (fun x y => ofO (addD x.2 y.2))) (gNil))) m_law_path))) (gSeq (gSet 6 [1, 2] (gCall (gCons (gComp [13] [13] (gItL (gVar 2)) t1 (cYes) (gLst (lCons (gVar 13) (lCons (g2 (gVar 1) (gVar 13) (fun x y => ofO (ixD x.2 y.2))) (lNil))))) (gNil)) m_law_held)) (gSeq (gIfS [0] (gTest (g2 (g2 (gCall (gCons (gVar 0) (gCons (gCon (.int 3)) (gNil))) m_law_cell) (gCon (.int 5)) (fun x y => ofO (modD x.2 y.2))) (gCon (.int 1)) (fun x y => ofO ((fB (eqN 32)) x.2 y.2)))) (gSeq (gSet 10 [0] (gCall (gCons (gVar 0) (gCons (gCon (.int 4)) (gNil))) m_law_cell)) (gSeq (gSet 11 [10] (g2 (g2 (gCon (.int 10)) (gCon (.int 6)) (fun x y => ofO (powD x.2 y.2))) (gVar 10) (fun x y => ofO (addD x.2 y.2)))) (gSeq (gSet 12 [3, 10] (g2 (gVar 10) (g2 (gCall (gCons (gVar 3) (gNil)) (fun ds => ofO (lenD ds))) (gCon (.int 1)) (fun x y => ofO (addD x.2 y.2))) (fun x y => ofO (modD x.2 y.2)))) (gRet [1, 3, 5, 11, 12] (gCall (gCons (gVar 1) (gCons (g2 (g2 (gSl (gVar 3) none (some (gVar 12))) (gLst (lCons (gVar 11) (lNil))) (fun x y => ofO (addD x.2 y.2))) (gSl (gVar 3) (some (gVar 12)) none) (fun x y => ofO (addD x.2 y.2))) (gCons (gVar 5) (gNil)))) m_law_refused))))) (gPass)) (gSeq (gSet 7 [1, 3, 5] (gComp [13] [13] (gItL (gVar 3)) t1 (cYes) (gComp [14] [14] (gItL (gVar 5)) t1 (cYes) (g2 (gCall (gCons (g2 (gVar 1) (gVar 13) (fun x y => ofO (ixD x.2 y.2))) (gCons (gVar 14) (gNil))) m_law_led) (gCon (.int 1)) (fun x y => ofO (ixD x.2 y.2)))))) (gSeq (gSet 8 [1, 3, 5] (gCall (gCons (gVar 1) (gCons (gVar 3) (gCons (gVar 5) (gNil)))) m_shown)) (gSeq (gIfS [7, 8] (gNotT (gTest (gCall (gCons (gVar 8) (gCons (gVar 7) (gNil))) m_law_same))) (gRet [] (gCon (.bl false))) (gPass)) (gSeq (gSet 7 [7] (gCall (gCons (gVar 7) (gNil)) m_law_held)) (gSeq (gSet 9 [7] (gCall (gCons (gVar 7) (gNil)) m_law_held)) (gSeq (gIfIO 8 9 m_law_own_marks [8, 9] (gTest (gCall (gCons (gVar 8) (gCons (gVar 9) (gNil))) m_law_same)) (gRet [] (gCon (.bl false))) (gPass)) (gRet [1, 2, 3, 5, 6, 7] (gAndV (gCall (gCons (gVar 6) (gCons (gComp [13] [13] (gItL (gVar 2)) t1 (cYes) (gLst (lCons (gVar 13) (lCons (g2 (gVar 1) (gVar 13) (fun x y => ofO (ixD x.2 y.2))) (lNil))))) (gNil))) m_law_same) (gCall (gCons (gCall (gCons (gVar 1) (gCons (gVar 3) (gCons (gVar 5) (gNil)))) m_shown) (gCons (gVar 7) (gNil))) m_law_same)))))))))))))))
theorem ok_law (T : Txt K mg cNoKey cCab) {f : Addr} {fd : FuncData} (d : Dfn K mg "law" s_law ["_law_script"] f fd) {m_law_records : List D → Res FD} (h_law_records : Cal P w K mg base k "_law_records" ["_law_script", "_law_most"] m_law_records) {m_law_cell : List D → Res FD} (h_law_cell : Cal P w K mg base k "_law_cell" ["_law_script", "_law_k"] m_law_cell) {m_law_path : List D → Res FD} (h_law_path : Cal P w K mg base k "_law_path" ["_law_script", "_law_k"] m_law_path) {m_law_held : List D → Res FD} (h_law_held : Cal P w K mg base k "_law_held" ["_law_thing"] m_law_held) {m_law_refused : List D → Res FD} (h_law_refused : Cal P w K mg base k "_law_refused" ["_law_records_here", "_law_keys", "_law_paths"] m_law_refused) {m_law_led : List D → Res FD} (h_law_led : Cal P w K mg base k "_law_led" ["_law_thing", "_law_path_here"] m_law_led) {m_shown : List D → Res FD} (h_shown : Cal P w K mg base k "shown" ["records", "keys", "paths"] m_shown) {m_law_same : List D → Res FD} (h_law_same : Cal P w K mg base k "_law_same" ["_law_one", "_law_other"] m_law_same) {m_law_own_marks : D → Int → Option (D × Int)} (h_law_own_marks : CalIO P w K mg base k "_law_own_marks" ["_law_thing", "_law_number"] m_law_own_marks) : FnOk P w K mg base (L2.CX P w) (k + 1) f fd ["_law_script"] (spD ⟨K, mg⟩ 1 (runG 15 (g_law m_law_records m_law_cell m_law_path m_law_held m_law_refused m_law_led m_shown m_law_same m_law_own_marks))) := by
  refine ok_def d.fn sc_law fun cdv A outer s H E hr => ?_
  have nd := sc_law.nd
  have hu : (cxOf (L2.CX P w) P w K mg base ["_law_script", "_law_records_here", "_law_some", "_law_keys", "_law_j", "_law_paths", "_law_held_here", "_law_due", "_law_result", "_law_marked", "_law_more", "_law_far", "_law_at", "_law_key", "_law_path_here"] "law" (defScope s_law) f cdv A outer s H E).A.units + 64 < cLine := hr.units
  have hc : (cxOf (L2.CX P w) P w K mg base ["_law_script", "_law_records_here", "_law_some", "_law_keys", "_law_j", "_law_paths", "_law_held_here", "_law_due", "_law_result", "_law_marked", "_law_more", "_law_far", "_law_at", "_law_key", "_law_path_here"] "law" (defScope s_law) f cdv A outer s H E).calm = true := rfl
  have tk : Takes (cxOf (L2.CX P w) P w K mg base ["_law_script", "_law_records_here", "_law_some", "_law_keys", "_law_j", "_law_paths", "_law_held_here", "_law_due", "_law_result", "_law_marked", "_law_more", "_law_far", "_law_at", "_law_key", "_law_path_here"] "law" (defScope s_law) f cdv A outer s H E) (WofE E) := takes_of rfl rfl rfl rfl
  have hp := passes_of (X := cxOf (L2.CX P w) P w K mg base ["_law_script", "_law_records_here", "_law_some", "_law_keys", "_law_j", "_law_paths", "_law_held_here", "_law_due", "_law_result", "_law_marked", "_law_more", "_law_far", "_law_at", "_law_key", "_law_path_here"] "law" (defScope s_law) f cdv A outer s H E) rfl
  exact sb_cons (ss_asg (ps_set (i := 1) nd rfl (Or.inr rfl) (ev_fn h_law_records hr rfl tk rfl (ea_cons (ev_var (pv 0)) (ea_cons (ev_con pe_int) (ea_nil))) (gCons_len (gCons_len gNil_len))))) (sb_cons (ss_asg (ps_set (i := 2) nd rfl (Or.inl rfl) (ev_callB (call_sortV hc) rfl T.b_sorted (by decide +kernel) (ea_cons (ev_var (pv 1)) (ea_nil))))) (sb_cons (ss_asg (ps_set (i := 3) nd rfl (Or.inl rfl) (ev_lst (el_nil)))) (sb_cons (ss_for hp hc (ei_range1 rfl T.b_range (ev_op op_modV (ev_fn h_law_cell hr rfl tk rfl (ea_cons (ev_var (pv 0)) (ea_cons (ev_con pe_int) (ea_nil))) (gCons_len (gCons_len gNil_len))) (ev_con pe_int))) (pg_name (i := 4) nd rfl (Or.inl rfl)) tgt1 (sb_one (ss_if (et_cmp (op_neV hu) (ev_var (pv 2)) (ev_lst (el_nil)) (nomark _)) (sb_one (ss_app (ps_expr (pe_bm PySem.F.plainAttrs_list PySem.F.slot_list_append PySem.F.type_list_append mt_append (pv 3) (pa_cons (ev_ix hu (ev_var (pv 2)) (ev_op op_modV (ev_fn h_law_cell hr rfl tk rfl (ea_cons (ev_var (pv 0)) (ea_cons (ev_op op_addV (ev_con pe_int) (ev_var (pv 4))) (ea_nil))) (gCons_len (gCons_len gNil_len))) (ev_callB call_lenV rfl T.b_len (by decide +kernel) (ea_cons (ev_var (pv 2)) (ea_nil)))) (fun _ _ => rfl)) pa_nil))))) (sb_nil)))) (sb_cons (ss_asg (ps_set (i := 5) nd rfl (Or.inr rfl) (ev_comp (own := [("_law_j", 4)]) hc nd (ei_range1 rfl T.b_range (ev_op op_modV (ev_fn h_law_cell hr rfl tk rfl (ea_cons (ev_var (pv 0)) (ea_cons (ev_con pe_int) (ea_nil))) (gCons_len (gCons_len gNil_len))) (ev_con pe_int))) (blkOk_by (by kernel_rfl)) tgt1 (by decide) (fun _ _ _ _ _ => pg_name (i := 4) nd rfl (Or.inl rfl)) tt_yes (fun _ _ _ _ _ => pts_nil) (fun _ _ _ _ _ => ev_fn h_law_path hr rfl takes0 rfl (ea_cons (ev_var (pv 0)) (ea_cons (ev_op op_addV (ev_con pe_int) (ev_var (pv 4))) (ea_nil))) (gCons_len (gCons_len gNil_len)))))) (sb_cons (ss_asg (ps_set (i := 6) nd rfl (Or.inl rfl) (ev_fn h_law_held hr rfl tk rfl (ea_cons (ev_comp (own := [("_law_key", 13)]) hc nd (ei_list (ev_var (pv 2))) (blkOk_by (by kernel_rfl)) tgt1 (by decide) (fun _ _ _ _ _ => pg_name (i := 13) nd rfl (Or.inl rfl)) tt_yes (fun _ _ _ _ _ => pts_nil) (fun _ _ _ _ _ => ev_lst (el_cons (ev_var (pv 13)) (el_cons (ev_ix hu (ev_var (pv 1)) (ev_var (pv 13)) (fun _ _ => rfl)) (el_nil))))) (ea_nil)) (gCons_len gNil_len)))) (sb_cons (ss_if (et_cmp (op_eqV hu) (ev_op op_modV (ev_fn h_law_cell hr rfl tk rfl (ea_cons (ev_var (pv 0)) (ea_cons (ev_con pe_int) (ea_nil))) (gCons_len (gCons_len gNil_len))) (ev_con pe_int)) (ev_con pe_int) (nomark _)) (sb_cons (ss_asg (ps_set (i := 10) nd rfl (Or.inl rfl) (ev_fn h_law_cell hr rfl tk rfl (ea_cons (ev_var (pv 0)) (ea_cons (ev_con pe_int) (ea_nil))) (gCons_len (gCons_len gNil_len))))) (sb_cons (ss_asg (ps_set (i := 11) nd rfl (Or.inl rfl) (ev_op op_addV (ev_op op_powV (ev_con pe_int) (ev_con pe_int)) (ev_var (pv 10))))) (sb_cons (ss_asg (ps_set (i := 12) nd rfl (Or.inl rfl) (ev_op op_modV (ev_var (pv 10)) (ev_op op_addV (ev_callB call_lenV rfl T.b_len (by decide +kernel) (ea_cons (ev_var (pv 3)) (ea_nil))) (ev_con pe_int))))) (sb_one (ss_ret (ps_ret (ev_fn h_law_refused hr rfl tk rfl (ea_cons (ev_var (pv 1)) (ea_cons (ev_op op_addV (ev_op op_addV (ev_sl (ev_var (pv 3)) prt_none (prt_some (ev_var (pv 12)))) (ev_lst (el_cons (ev_var (pv 11)) (el_nil)))) (ev_sl (ev_var (pv 3)) (prt_some (ev_var (pv 12))) prt_none)) (ea_cons (ev_var (pv 5)) (ea_nil)))) (gCons_len (gCons_len (gCons_len gNil_len)))))))))) (sb_nil)) (sb_cons (ss_setLc (i := 7) (own := [("_law_key", 13)]) hc nd rfl rfl (sw_true rfl rfl rfl (by decide +kernel)) (ei_list (ev_var (pv 3))) (blkOk_by (by kernel_rfl)) tgt1 (by decide) (fun _ _ _ _ _ => pg_name (i := 13) nd rfl (Or.inr rfl)) tt_yes (fun _ _ _ _ _ => pts_nil) (fun _ _ _ _ _ => ev_comp (own := [("_law_path_here", 14)]) hc nd (ei_list (ev_var (pv 5))) (blkOk_by (by kernel_rfl)) tgt1 (by decide) (fun _ _ _ _ _ => pg_name (i := 14) nd rfl (Or.inl rfl)) tt_yes (fun _ _ _ _ _ => pts_nil) (fun _ _ _ _ _ => ev_ix hu (ev_fn h_law_led hr rfl takes0 rfl (ea_cons (ev_ix hu (ev_var (pv 1)) (ev_var (pv 13)) (fun _ _ => rfl)) (ea_cons (ev_var (pv 14)) (ea_nil))) (gCons_len (gCons_len gNil_len))) (ev_con pe_int) (fun _ _ => rfl)))) (sb_cons (ss_asg (ps_set (i := 8) nd rfl (Or.inl rfl) (ev_fn h_shown hr rfl tk rfl (ea_cons (ev_var (pv 1)) (ea_cons (ev_var (pv 3)) (ea_cons (ev_var (pv 5)) (ea_nil)))) (gCons_len (gCons_len (gCons_len gNil_len)))))) (sb_cons (ss_if (et_not (et_val (ev_fn h_law_same hr rfl tk rfl (ea_cons (ev_var (pv 8)) (ea_cons (ev_var (pv 7)) (ea_nil))) (gCons_len (gCons_len gNil_len))))) (sb_one (ss_ret (ps_ret (ev_con pe_bl)))) (sb_nil)) (sb_cons (ss_asg (ps_set (i := 7) nd rfl (Or.inl rfl) (ev_fn h_law_held hr rfl tk rfl (ea_cons (ev_var (pv 7)) (ea_nil)) (gCons_len gNil_len)))) (sb_cons (ss_asg (ps_set (i := 9) nd rfl (Or.inl rfl) (ev_fn h_law_held hr rfl tk rfl (ea_cons (ev_var (pv 7)) (ea_nil)) (gCons_len gNil_len)))) (sb_cons (ss_ifIO h_law_own_marks hr rfl tk (pv 8) (pv 9) (et_val (ev_fn h_law_same hr rfl tk rfl (ea_cons (ev_var (pv 8)) (ea_cons (ev_var (pv 9)) (ea_nil))) (gCons_len (gCons_len gNil_len)))) (sb_one (ss_ret (ps_ret (ev_con pe_bl)))) (sb_nil)) (sb_one (ss_ret (ps_ret (ev_and (ev_fn h_law_same hr rfl tk rfl (ea_cons (ev_var (pv 6)) (ea_cons (ev_comp (own := [("_law_key", 13)]) hc nd (ei_list (ev_var (pv 2))) (blkOk_by (by kernel_rfl)) tgt1 (by decide) (fun _ _ _ _ _ => pg_name (i := 13) nd rfl (Or.inl rfl)) tt_yes (fun _ _ _ _ _ => pts_nil) (fun _ _ _ _ _ => ev_lst (el_cons (ev_var (pv 13)) (el_cons (ev_ix hu (ev_var (pv 1)) (ev_var (pv 13)) (fun _ _ => rfl)) (el_nil))))) (ea_nil))) (gCons_len (gCons_len gNil_len))) (ev_one (ev_fn h_law_same hr rfl tk rfl (ea_cons (ev_fn h_shown hr rfl tk rfl (ea_cons (ev_var (pv 1)) (ea_cons (ev_var (pv 3)) (ea_cons (ev_var (pv 5)) (ea_nil)))) (gCons_len (gCons_len (gCons_len gNil_len)))) (ea_cons (ev_var (pv 7)) (ea_nil))) (gCons_len (gCons_len gNil_len))))))))))))))))))))

end
end G
end

section
set_option Elab.async false
set_option maxRecDepth 100000
set_option linter.all false
set_option maxHeartbeats 4000000
namespace G
open PySem PySem.Spec PyProof.Rows L2 VL
/-! what the marks do -/
def markL (g : D → Int → Option (D × Int)) : List D → Int → Option (List D × Int)
  | [], n => some ([], n)
  | d :: ds, n => (g d n).bind fun p => (markL g ds p.2).bind fun q => some (p.1 :: q.1, q.2)
def markN (g : D → Int → Option (D × Int)) : List Str → List (Key × D) → Int → Option (List (Key × D) × Int)
  | [], kds, n => some (kds, n)
  | k :: ks, kds, n => (look kds (.inr k)).bind fun d => (g d n).bind fun p => markN g ks (putD kds (.inr k) p.1) p.2
def markD (g : D → Int → Option (D × Int)) (d : D) (n : Int) : Option (D × Int) := match d with
  | .lst ds => (markL g ds n).bind fun p => if p.1.length < sizeLine then some (.lst (p.1 ++ [.int p.2]), p.2 + 1) else none
  | .dct kds => (keyStrs (kds.map (·.1))).bind fun ks => if ks.length < 64 then (markN g (sortStr ks) kds n).bind fun p => if p.1.length < sizeLine then some (.dct (putD p.1 (.inr "mark") (.int p.2)), p.2 + 1) else none else none
  | .tup _ => none
  | .scr _ => none
  | d => some (d, n + 1)
def markF : Nat → D → Int → Option (D × Int)
  | 0, _, _ => none
  | f + 1, d, n => markD (markF f) d n
abbrev s_law_own_marks : Stmt := top 33
theorem sc_law_own_marks : FnScope ["_law_thing", "_law_number", "_law_one", "_law_name"] ["_law_thing", "_law_number"] (defScope s_law_own_marks) := ⟨rfl, rfl, rfl, by decide +kernel, rfl, by decide +kernel, by decide +kernel⟩
theorem markN_keys {g : D → Int → Option (D × Int)} : ∀ {ks : List Str} {kds kds' : List (Key × D)} {n n' : Int}, markN g ks kds n = some (kds', n') → kds'.map (·.1) = kds.map (·.1)
  | [], kds, kds', n, n', h => by cases h; rfl
  | k :: ks, kds, kds', n, n', h => by
    unfold markN at h
    obtain ⟨d, hd, h⟩ := Option.bind_eq_some_iff.mp h
    obtain ⟨p, hp, h⟩ := Option.bind_eq_some_iff.mp h
    rw [markN_keys h, putD_keys, if_pos]
    cases hf : kds.find? fun kv => decide (kv.1 = Sum.inr k) with
    | none => simp [look, hf] at hd
    | some q => exact List.any_eq_true.mpr ⟨q, List.mem_of_find?_eq_some hf, List.find?_some (p := fun kv : Key × D => decide (kv.1 = Sum.inr k)) hf⟩
section
variable {P : Program} {w : World} {K : PySem.W.Frag} {mg : Str → Option Value} {base : Heap} {k : Nat} {cNoKey cCab : Addr}
theorem rd_T {H : Hp} {d : D} {v : V} {r : List (Option V)} {F : List Addr} (t : Tree H d v F) : RdE K (some v :: r) (some d :: r.map fun _ => none) H := ⟨by simp, fun i x hx => by
  cases i with
  | zero => simp at hx; subst hx; exact ⟨v, rfl, t.rep _ _ _ fun p _ o q => q⟩
  | succ i =>
    simp only [List.getElem?_cons_succ, List.getElem?_map] at hx
    cases h : r[i]? with
    | none => rw [h] at hx; cases hx
    | some y => rw [h] at hx; cases hx⟩
theorem tst2 {M : Md} {W : WX} {H : Hp} {d : D} {v : V} {F : List Addr} {r : List (Option V)} {S T : String} {b : Bool} {Q : Bool → Hp → Prop} (t : Tree H d v F) (hb : (isT S d || isT T d) = b) (q : ∀ H', Same H H' → Q b H') : tT M W (gTest (gIsi2 S T (gVar 0))) (some v :: r) H Q :=
  ⟨H, _, Same.refl _, rd_T t, fun H' H0' e => by simp only [sh_2]; rw [hb]; exact q H' e.s⟩
theorem tst1 {M : Md} {W : WX} {H : Hp} {d : D} {v : V} {F : List Addr} {r : List (Option V)} {S : String} {b : Bool} {Q : Bool → Hp → Prop} (t : Tree H d v F) (hb : isT S d = b) (q : ∀ H', Same H H' → Q b H') : tT M W (gTest (gIsi S (gVar 0))) (some v :: r) H Q :=
  ⟨H, _, Same.refl _, rd_T t, fun H' H0' e => by simp only [sh_2]; rw [hb]; exact q H' e.s⟩
theorem offTrans {F F' : List Addr} {H H1 H2 : Hp} (a : Off F H H1) (b : Off F' H1 H2) (h : ∀ p ∈ F', p ∈ F ∨ H p = none) : Off F H H2 := fun p o hp q => b p o (fun h' => by
  rcases h p h' with h | h
  · exact hp h
  · rw [q] at h; cases h) (a p o hp q)
theorem ok_law_own_marks (T : Txt K mg cNoKey cCab) {f : Addr} {fd : FuncData} (d : Dfn K mg "_law_own_marks" s_law_own_marks ["_law_thing", "_law_number"] f fd) {m : D → Int → Option (D × Int)} (h : CalIO P w K mg base k "_law_own_marks" ["_law_thing", "_law_number"] m) :
    CalIO P w K mg base (k + 1) "_law_own_marks" ["_law_thing", "_law_number"] (markD m) := by
  obtain ⟨f', fd', Fc, hm, hk, hbd⟩ := h.ex
  refine ⟨f, fd, d.fn.okX sc_law_own_marks (fun vs H Q E q => spIO_len q) (fun cdv A outer s H vs Q E hr q => ?_), d.mg, d.fn.kp, d.bd⟩
  have nd := sc_law_own_marks.nd
  have hu : (cxOf (L2.CX P w) P w K mg base ["_law_thing", "_law_number", "_law_one", "_law_name"] "_law_own_marks" (defScope s_law_own_marks) f cdv A outer s H E).A.units + 64 < cLine := hr.units
  have hu1 : (cxOf (L2.CX P w) P w K mg base ["_law_thing", "_law_number", "_law_one", "_law_name"] "_law_own_marks" (defScope s_law_own_marks) f cdv A outer s H E).A.units + 1 < cLine := Nat.lt_of_le_of_lt (Nat.add_le_add_left (by decide) _) hu
  have tk : Takes (cxOf (L2.CX P w) P w K mg base ["_law_thing", "_law_number", "_law_one", "_law_name"] "_law_own_marks" (defScope s_law_own_marks) f cdv A outer s H E) (WofE E) := takes_of rfl rfl rfl rfl
  have hp := passes_of (X := cxOf (L2.CX P w) P w K mg base ["_law_thing", "_law_number", "_law_one", "_law_name"] "_law_own_marks" (defScope s_law_own_marks) f cdv A outer s H E) rfl
  refine ⟨_, pss_cons (ps_if (et_val (W := WofE E) (ev_isi2 (S := "list") (T := "tuple") rfl T.b_isinstance rfl T.b_list (by decide +kernel) rfl T.b_tuple (by decide +kernel) (by decide +kernel) (by decide +kernel) (ev_var (pv 0))))
      (pss_one (ps_for hp rfl (pi_list (pe_callTy call_list_of (by rfl) T.b_list (by decide +kernel) (pa_cons (pv 0) pa_nil))) (pg_name (i := 2) nd rfl (Or.inl rfl))
        (pss_one (ps_set (i := 1) nd rfl (Or.inl rfl) (pe_callS Fc hr rfl hm hk hbd (passAt tk) (pa_cons (pv 2) (pa_cons (pv 1) pa_nil))))))) pss_nil)
    (pss_cons (ps_if (et_val (W := WofE E) (ev_isi (T := "dict") rfl T.b_isinstance rfl T.b_dict (by decide +kernel) (by decide +kernel) (ev_var (pv 0))))
      (pss_cons (ps_for hp rfl (pi_list (pe_callB (call_sortedD rfl) (by rfl) T.b_sorted (by decide +kernel) (pa_cons (pv 0) pa_nil))) (pg_name (i := 3) nd rfl (Or.inl rfl))
        (pss_one (ps_set (i := 1) nd rfl (Or.inl rfl) (pe_callS Fc hr rfl hm hk hbd (passAt tk) (pa_cons (pe_dget hu1 (pv 0) (pv 3) (fun _ _ => rfl)) (pa_cons (pv 1) pa_nil))))))
      (pss_one (ps_dput hu1 (pv 0) pe_str (pv 1) rfl))) pss_nil)
    (pss_cons (ps_if (et_val (W := WofE E) (ev_isi (T := "list") rfl T.b_isinstance rfl T.b_list (by decide +kernel) (by decide +kernel) (ev_var (pv 0))))
      (pss_one (ps_expr (pe_bm PySem.F.plainAttrs_list PySem.F.slot_list_append PySem.F.type_list_append mt_append (pv 0) (pa_cons (pv 1) pa_nil)))) pss_nil)
    (pss_one (ps_ret (pe_op op_add (pv 1) pe_int))))), ?_⟩
  obtain ⟨d0, v, n, F, d', n', rfl, t, nf, hmk, fin⟩ := q
  cases d0 with
  | tup _ => simp [markD] at hmk
  | scr _ => exact t.elim
  | lst ds =>
    obtain ⟨a, vs0, G, rfl, rfl, h1, hz, tr⟩ := t
    simp only [markD] at hmk
    obtain ⟨⟨ds', n1⟩, hml, hmk⟩ := Option.bind_eq_some_iff.mp hmk
    simp only at hmk
    split at hmk
    · rename_i hlen
      simp only [Option.some.injEq, Prod.mk.injEq] at hmk
      obtain ⟨rfl, rfl⟩ := hmk
      obtain ⟨nf1, nf2⟩ := List.nodup_cons.mp nf
      refine tst2 (d := .lst ds) (F := a :: G) ⟨a, vs0, G, rfl, rfl, h1, hz, tr⟩ (b := true) rfl fun Ha sa => ?_
      rw [if_pos rfl]
      have ha := sa _ _ h1
      refine ⟨.ref a, rfl, a, vs0, rfl, .inl (SqL.of ha), fun L hL => ⟨L, rfl, ⟨vs0, SqL.of upd_same⟩, ?_⟩⟩
      have hLa : a ≠ L := ne_of_none ha hL
      have hLH : H L = none := sa.free hL
      have sL : Same H (upd Ha L (.lst vs0)) := fun p o q => by rw [upd_ne (ne_of_none (sa p o q) hL)]; exact sa p o q
      -- behind i turns
      refine for_list (K := K) (a := L) (xs := vs0) (fun i σ H' => ∃ ni o2 done rest G', σ = [some (.ref a), some (.int ni), o2, none] ∧ i ≤ ds.length ∧ done.length = i ∧ markL m (ds.drop i) ni = some (rest, n1) ∧ ds' = done ++ rest ∧ Trees H' (done ++ ds.drop i) vs0 G' ∧ H' a = some (.lst vs0) ∧ H' L = some (.lst vs0) ∧ (a :: G').Nodup ∧ L ∉ G' ∧ Grown (a :: G) H (a :: G') ∧ Off (a :: G) H H')
        ⟨n, none, [], ds', G, rfl, Nat.zero_le _, rfl, hml, rfl, tr.same sL, by rw [upd_ne hLa]; exact ha, upd_same, nf, fun hm => by have := Trees.there _ _ _ tr _ hm; exact this hLH, fun p hp => .inl hp, fun p o _ q => sL p o q⟩
        (fun i σ H' _ ⟨_, _, _, _, _, _, _, _, _, _, _, _, hLL, _⟩ => SqL.of hLL) ?_ ?_
      · rintro i x σ H' hx ⟨ni, o2, done, rest, G', rfl, hi, hdl, hmr, hds, tr', ha', hL', nd', nL, gr, off⟩
        have hil : i < ds.length := by
          have := (List.getElem?_eq_some_iff.mp hx).1
          rw [tr.length]; exact this
        rw [List.drop_eq_getElem_cons hil] at hmr tr'
        simp only [markL] at hmr
        obtain ⟨⟨di', ni'⟩, hmi, hmr⟩ := Option.bind_eq_some_iff.mp hmr
        obtain ⟨⟨rest', n2⟩, hmr', hmr⟩ := Option.bind_eq_some_iff.mp hmr
        simp only [Option.some.injEq, Prod.mk.injEq] at hmr
        obtain ⟨rfl, rfl⟩ := hmr
        have hg : (done ++ ds[i] :: ds.drop (i + 1))[i]? = some ds[i] := by
          rw [List.getElem?_append_right (by omega), hdl, Nat.sub_self]; rfl
        obtain ⟨w, A1, Gi, C1, hw, rfl, ti, upd'⟩ := tr'.at hg
        rw [hx] at hw; cases hw
        obtain ⟨nd1, nd2⟩ := List.nodup_cons.mp nd'
        have ndi : Gi.Nodup := (List.nodup_append.mp (List.nodup_append.mp nd2).2.1).1
        refine ⟨x, rfl, .int ni, rfl, ds[i], x, ni, Gi, di', ni', rfl, ti, ndi, hmi, fun H2 F2 t2 n2' g2 o2' => ?_⟩
        have aGi : a ∉ Gi := fun h => nd1 (List.mem_append_right _ (List.mem_append_left _ h))
        have LGi : L ∉ Gi := fun h => nL (List.mem_append_right _ (List.mem_append_left _ h))
        have out : ∀ p, p ∈ A1 ∨ p ∈ C1 → p ∉ Gi := fun p hp h => by
          obtain ⟨_, m1, m2⟩ := List.nodup_append.mp nd2
          obtain ⟨_, _, m4⟩ := List.nodup_append.mp m1
          rcases hp with hp | hp
          · exact m2 p hp p (List.mem_append_left _ h) rfl
          · exact m4 p h p hp rfl
        have tr2 := upd' H2 di' F2 (fun p hp o q => o2' p o (out p hp) q) t2
        have e3 : (done ++ ds[i] :: ds.drop (i + 1)).set i di' = (done ++ [di']) ++ ds.drop (i + 1) := by
          clear hmr hmi hml hmr'
          subst hdl
          rw [List.set_append, if_neg (Nat.lt_irrefl _), Nat.sub_self, List.set_cons_zero, List.append_assoc]; rfl
        rw [e3] at tr2
        have nfresh : ∀ p ∈ F2, p ∈ Gi ∨ (p ∉ A1 ∧ p ∉ C1) := fun p hp => by
          rcases g2 p hp with h | h
          · exact .inl h
          · refine .inr ⟨fun h' => ?_, fun h' => ?_⟩
            · exact Trees.there _ _ _ tr' p (List.mem_append_left _ h') h
            · exact Trees.there _ _ _ tr' p (List.mem_append_right _ (List.mem_append_right _ h')) h
        refine ⟨ni', some x, done ++ [di'], rest', A1 ++ (F2 ++ C1), rfl, hil, by simp [hdl], hmr', by rw [hds]; simp, tr2, o2' _ _ aGi ha', o2' _ _ LGi hL', List.nodup_cons.mpr ⟨fun h => ?_, nodup_mid nd2 n2' nfresh⟩, fun h => ?_, fun p hp => ?_, offTrans off o2' fun p hp => ?_⟩
        · rcases List.mem_append.mp h with h | h
          · exact nd1 (List.mem_append_left _ h)
          · rcases List.mem_append.mp h with h | h
            · rcases g2 a h with h | h
              · exact aGi h
              · rw [ha'] at h; cases h
            · exact nd1 (List.mem_append_right _ (List.mem_append_right _ h))
        · rcases List.mem_append.mp h with h | h
          · exact nL (List.mem_append_left _ h)
          · rcases List.mem_append.mp h with h | h
            · rcases g2 L h with h | h
              · exact LGi h
              · rw [hL'] at h; cases h
            · exact nL (List.mem_append_right _ (List.mem_append_right _ h))
        · have base : ∀ q ∈ A1 ++ (Gi ++ C1), q ∈ a :: G ∨ H q = none := fun q hq => gr q (List.mem_cons_of_mem _ hq)
          rcases List.mem_cons.mp hp with rfl | hp
          · exact .inl List.mem_cons_self
          · rcases List.mem_append.mp hp with hp | hp
            · exact base p (List.mem_append_left _ hp)
            · rcases List.mem_append.mp hp with hp | hp
              · rcases g2 p hp with h | h
                · exact base p (List.mem_append_right _ (List.mem_append_left _ h))
                · by_cases hpF : p ∈ a :: G
                  · exact .inl hpF
                  · refine .inr ?_
                    cases q : H p with
                    | none => rfl
                    | some o => have := off p o hpF q; rw [h] at this; cases this
              · exact base p (List.mem_append_right _ (List.mem_append_right _ hp))
        · exact gr p (List.mem_cons_of_mem _ (List.mem_append_right _ (List.mem_append_left _ hp)))
      · rintro σ H' ⟨ni, o2, done, rest, G', rfl, hi, hdl, hmr, hds, tr', ha', hL', nd', nL, gr, off⟩
        have hvl : vs0.length = ds.length := tr.length.symm
        rw [hvl, List.drop_length] at hmr tr'
        simp only [markL, Option.some.injEq, Prod.mk.injEq] at hmr
        obtain ⟨rfl, rfl⟩ := hmr
        rw [List.append_nil] at hds tr'
        subst hds
        obtain ⟨nd1, nd2⟩ := List.nodup_cons.mp nd'
        have dl : ds'.length ≤ sizeLine := Nat.le_of_lt hlen
        have T' : Tree H' (.lst ds') (.ref a) (a :: G') := ⟨a, vs0, G', rfl, rfl, ha', dl, tr'⟩
        refine tst1 T' (b := false) rfl fun Hb sb => ?_
        rw [if_neg Bool.false_ne_true]
        have T'' := T'.same sb
        refine tst1 T'' (b := true) rfl fun Hc sc => ?_
        rw [if_pos rfl]
        have hc := sc _ _ (sb _ _ ha')
        have sbc := sb.trans sc
        refine ⟨.ref a, rfl, .inl ⟨rfl, vs0, SqL.of hc⟩, .int ni, rfl, a, vs0, .int ni, rfl, rfl, hc, by rw [← tr'.length]; exact hlen, ?_⟩
        refine ⟨.int ni, rfl, ni, 1, rfl, rfl, fin _ (a :: (G' ++ [])) ?_ (by rw [List.append_nil]; exact nd') (by rw [List.append_nil]; exact gr) ?_⟩
        · refine ⟨a, _, _, rfl, rfl, upd_same, by simp; exact hlen, Trees.snoc (Trees.agree _ _ _ (fun p hp o q => ?_) tr') ⟨rfl, rfl⟩⟩
          rw [upd_ne (fun z => nd1 (by rw [← z]; exact hp))]
          exact sbc p o q
        · exact offTrans off (F' := [a]) (fun p o hp q => by rw [upd_ne (fun z => hp (by rw [z]; simp))]; exact sbc p o q) fun p hp => .inl (by rw [List.mem_singleton.mp hp]; exact List.mem_cons_self)
    · cases hmk
  | dct kds =>
    obtain ⟨a, vs0, G, rfl, rfl, h1, ⟨hz, hnd⟩, tr⟩ := t
    simp only [markD] at hmk
    obtain ⟨ks, hks, hmk⟩ := Option.bind_eq_some_iff.mp hmk
    split at hmk
    · rename_i h64
      obtain ⟨⟨kds', n1⟩, hml, hmk⟩ := Option.bind_eq_some_iff.mp hmk
      simp only at hmk
      split at hmk
      · rename_i hlen
        simp only [Option.some.injEq, Prod.mk.injEq] at hmk
        obtain ⟨rfl, rfl⟩ := hmk
        obtain ⟨nf1, nf2⟩ := List.nodup_cons.mp nf
        have T0 : Tree H (.dct kds) (.ref a) (a :: G) := ⟨a, vs0, G, rfl, rfl, h1, ⟨hz, hnd⟩, tr⟩
        refine tst2 T0 (b := false) rfl fun Ha sa => ?_
        rw [if_neg Bool.false_ne_true]
        refine tst1 (T0.same sa) (b := true) rfl fun Hb sb => ?_
        rw [if_pos rfl]
        have sab := sa.trans sb
        have hb := sab _ _ h1
        refine ⟨.ref a, rfl, a, vs0, ks, rfl, .inl hb, by rw [← tr.keys]; exact keyStrs_eq hks, h64, fun ys L hp hs hL => ?_⟩
        obtain rfl := sortStr_of hp hs
        refine ⟨L, rfl, ⟨_, SqL.of upd_same⟩, ?_⟩
        have hLa : a ≠ L := ne_of_none hb hL
        have hLH : H L = none := sab.free hL
        have sL : Same H (upd Hb L (.lst ((sortStr ks).map V.str))) := fun p o q => by rw [upd_ne (ne_of_none (sab p o q) hL)]; exact sab p o q
        refine for_list (K := K) (a := L) (xs := (sortStr ks).map V.str) (fun i σ H' => ∃ ni o3 cur G', σ = [some (.ref a), some (.int ni), none, o3] ∧ i ≤ (sortStr ks).length ∧ markN m ((sortStr ks).drop i) cur ni = some (kds', n1) ∧ cur.map (·.1) = kds.map (·.1) ∧ TreeK H' cur vs0 G' ∧ H' a = some (.dK vs0) ∧ H' L = some (.lst ((sortStr ks).map V.str)) ∧ (a :: G').Nodup ∧ L ∉ G' ∧ Grown (a :: G) H (a :: G') ∧ Off (a :: G) H H')
          ⟨n, none, kds, G, rfl, Nat.zero_le _, hml, rfl, tr.same sL, by rw [upd_ne hLa]; exact hb, upd_same, nf, fun hm => by have := TreeK.there _ _ _ tr _ hm; exact this hLH, fun p hp => .inl hp, fun p o _ q => sL p o q⟩
          (fun i σ H' _ ⟨_, _, _, _, _, _, _, _, _, _, hLL, _⟩ => SqL.of hLL) ?_ ?_
        · rintro i x σ H' hx ⟨ni, o3, cur, G', rfl, hi, hmr, hkk, tr', ha', hL', nd', nL, gr, off⟩
          rw [List.getElem?_map] at hx
          obtain ⟨s, hs1, rfl⟩ := Option.map_eq_some_iff.mp hx
          obtain ⟨hil, hs2⟩ := List.getElem?_eq_some_iff.mp hs1
          rw [List.drop_eq_getElem_cons hil, hs2] at hmr
          simp only [markN] at hmr
          obtain ⟨di, hli, hmr⟩ := Option.bind_eq_some_iff.mp hmr
          obtain ⟨⟨di', ni'⟩, hmi, hmr⟩ := Option.bind_eq_some_iff.mp hmr
          simp only at hmr
          obtain ⟨w, A1, Gi, C1, hw, rfl, ti, upd'⟩ := tr'.at (by rw [hkk]; exact hnd) hli
          obtain ⟨nd1, nd2⟩ := List.nodup_cons.mp nd'
          have ndi : Gi.Nodup := (List.nodup_append.mp (List.nodup_append.mp nd2).2.1).1
          refine ⟨.ref a, rfl, .str s, rfl, a, w, rfl, .inl ⟨vs0, .inr s, .inl ha', rfl, hw.symm⟩, .int ni, rfl, di, w, ni, Gi, di', ni', rfl, ti, ndi, hmi, fun H2 F2 t2 n2' g2 o2' => ?_⟩
          have aGi : a ∉ Gi := fun h => nd1 (List.mem_append_right _ (List.mem_append_left _ h))
          have LGi : L ∉ Gi := fun h => nL (List.mem_append_right _ (List.mem_append_left _ h))
          have out : ∀ p, p ∈ A1 ∨ p ∈ C1 → p ∉ Gi := fun p hp h => by
            obtain ⟨_, m1, m2⟩ := List.nodup_append.mp nd2
            obtain ⟨_, _, m4⟩ := List.nodup_append.mp m1
            rcases hp with hp | hp
            · exact m2 p hp p (List.mem_append_left _ h) rfl
            · exact m4 p h p hp rfl
          have tr2 := upd' H2 di' F2 (fun p hp o q => o2' p o (out p hp) q) t2
          have nfresh : ∀ p ∈ F2, p ∈ Gi ∨ (p ∉ A1 ∧ p ∉ C1) := fun p hp => by
            rcases g2 p hp with h | h
            · exact .inl h
            · refine .inr ⟨fun h' => ?_, fun h' => ?_⟩
              · exact TreeK.there _ _ _ tr' p (List.mem_append_left _ h') h
              · exact TreeK.there _ _ _ tr' p (List.mem_append_right _ (List.mem_append_right _ h')) h
          have hk1 : (putD cur (.inr s) di').map (·.1) = kds.map (·.1) := by
            rw [putD_keys, if_pos, hkk]
            cases hf : cur.find? fun kv => decide (kv.1 = Sum.inr s) with
            | none => simp [look, hf] at hli
            | some q => exact List.any_eq_true.mpr ⟨q, List.mem_of_find?_eq_some hf, List.find?_some (p := fun kv : Key × D => decide (kv.1 = Sum.inr s)) hf⟩
          refine ⟨ni', some (.str s), putD cur (.inr s) di', A1 ++ (F2 ++ C1), rfl, hil, hmr, hk1, tr2, o2' _ _ aGi ha', o2' _ _ LGi hL', List.nodup_cons.mpr ⟨fun h => ?_, nodup_mid nd2 n2' nfresh⟩, fun h => ?_, fun p hp => ?_, offTrans off o2' fun p hp => ?_⟩
          · rcases List.mem_append.mp h with h | h
            · exact nd1 (List.mem_append_left _ h)
            · rcases List.mem_append.mp h with h | h
              · rcases g2 a h with h | h
                · exact aGi h
                · rw [ha'] at h; cases h
              · exact nd1 (List.mem_append_right _ (List.mem_append_right _ h))
          · rcases List.mem_append.mp h with h | h
            · exact nL (List.mem_append_left _ h)
            · rcases List.mem_append.mp h with h | h
              · rcases g2 L h with h | h
                · exact LGi h
                · rw [hL'] at h; cases h
              · exact nL (List.mem_append_right _ (List.mem_append_right _ h))
          · have base : ∀ q ∈ A1 ++ (Gi ++ C1), q ∈ a :: G ∨ H q = none := fun q hq => gr q (List.mem_cons_of_mem _ hq)
            rcases List.mem_cons.mp hp with rfl | hp
            · exact .inl List.mem_cons_self
            · rcases List.mem_append.mp hp with hp | hp
              · exact base p (List.mem_append_left _ hp)
              · rcases List.mem_append.mp hp with hp | hp
                · rcases g2 p hp with h | h
                  · exact base p (List.mem_append_right _ (List.mem_append_left _ h))
                  · by_cases hpF : p ∈ a :: G
                    · exact .inl hpF
                    · refine .inr ?_
                      cases q : H p with
                      | none => rfl
                      | some o => have := off p o hpF q; rw [h] at this; cases this
                · exact base p (List.mem_append_right _ (List.mem_append_right _ hp))
          · exact gr p (List.mem_cons_of_mem _ (List.mem_append_right _ (List.mem_append_left _ hp)))
        · rintro σ H' ⟨ni, o3, cur, G', rfl, hi, hmr, hkk, tr', ha', hL', nd', nL, gr, off⟩
          rw [List.length_map, List.drop_length] at hmr
          simp only [markN, Option.some.injEq, Prod.mk.injEq] at hmr
          obtain ⟨rfl, rfl⟩ := hmr
          obtain ⟨nd1, nd2⟩ := List.nodup_cons.mp nd'
          have hvl : vs0.length = cur.length := by
            have := congrArg List.length tr'.keys
            simpa using this.symm
          obtain ⟨F', trp, ndp, memp⟩ := TreeK.put (k := .inr "mark") (d := .int ni) (v := .int ni) (G := []) tr' ⟨rfl, rfl⟩ (by rw [hkk]; exact hnd) (by rw [List.append_nil]; exact nd2)
          have memp' : ∀ p ∈ F', p ∈ G' := fun p hp => (memp p hp).elim id (fun h => absurd h (by simp))
          refine ⟨.int ni, rfl, .ref a, rfl, a, _, rfl, .inl ⟨vs0, .inr "mark", ha', rfl, by rw [hvl]; exact hlen, rfl⟩, ?_⟩
          have hsz : (putD cur (.inr "mark") (.int ni)).length ≤ sizeLine := Nat.le_trans (putD_length _ _ _) hlen
          have T' : Tree (upd H' a (.dK (putK vs0 (.inr "mark") (.int ni)))) (.dct (putD cur (.inr "mark") (.int ni))) (.ref a) (a :: F') := by
            refine ⟨a, _, F', rfl, rfl, upd_same, ⟨hsz, putD_nodup _ _ (by rw [hkk]; exact hnd)⟩, TreeK.agree _ _ _ (fun p hp o q => ?_) trp⟩
            rw [upd_ne (fun z => nd1 (memp' _ (by rw [← z]; exact hp)))]
            exact q
          refine tst1 T' (b := false) rfl fun Hc sc => ?_
          rw [if_neg Bool.false_ne_true]
          refine ⟨.int ni, rfl, ni, 1, rfl, rfl, fin _ (a :: F') (T'.same sc) (List.nodup_cons.mpr ⟨fun h => nd1 (memp' _ h), ndp⟩) (fun p hp => ?_) ?_⟩
          · rcases List.mem_cons.mp hp with rfl | hp
            · exact .inl List.mem_cons_self
            · exact gr p (List.mem_cons_of_mem _ (memp' p hp))
          · refine offTrans off (F' := [a]) (fun p o hp q => sc p o ?_) fun p hp => .inl (by rw [List.mem_singleton.mp hp]; exact List.mem_cons_self)
            rw [upd_ne (fun z => hp (by rw [z]; simp))]; exact q
      · cases hmk
    · cases hmk
  | _ =>
    have t0 := t
    obtain ⟨rfl, rfl⟩ := t
    simp only [markD, Option.some.injEq, Prod.mk.injEq] at hmk
    obtain ⟨rfl, rfl⟩ := hmk
    refine tst2 t0 (b := false) rfl fun Ha sa => ?_
    rw [if_neg Bool.false_ne_true]
    refine tst1 (t0.same sa) (b := false) rfl fun Hb sb => ?_
    rw [if_neg Bool.false_ne_true]
    refine tst1 ((t0.same sa).same sb) (b := false) rfl fun Hc sc => ?_
    rw [if_neg Bool.false_ne_true]
    exact ⟨_, rfl, n, 1, rfl, rfl, fin _ [] (((t0.same sa).same sb).same sc) List.nodup_nil (fun p hp => absurd hp (by simp)) fun p o _ q => sc p o (sb p o (sa p o q))⟩
end
end G
end

section
set_option Elab.async false
set_option maxRecDepth 100000
set_option linter.all false
set_option maxHeartbeats 4000000
namespace G
open PySem PySem.Spec PyProof.Rows L2 VL
/-! the defs, one behind the other -/
def m_copied : Nat → List D → Res FD
  | 0 => fun _ => .bad
  | n + 1 => runG 4 (g_copied (m_copied n))
def m_leads_on : List D → Res FD := runG 2 g_leads_on
def m_reached : List D → Res FD := runG 4 (g_reached m_leads_on)
def m_thing_at : List D → Res FD := runG 2 (g_thing_at (m_copied 12) m_reached)
def m_has : List D → Res FD := runG 4 (g_has m_leads_on)
def m_found_or : List D → Res FD := runG 3 (g_found_or m_has m_thing_at (m_copied 12))
def m_shown : List D → Res FD := runG 6 (g_shown m_found_or)
def m_cell : List D → Res FD := runG 3 g_law_cell
def m_name_by : List D → Res FD := runG 8 g_law_name_by
def m_signs : List D → Res FD := runG 1 g_law_signs
def m_text_by : List D → Res FD := runG 7 (g_law_text_by m_signs)
def m_number_by : List D → Res FD := runG 1 g_law_number_by
def m_thing_by : Nat → List D → Res FD
  | 0 => fun _ => .bad
  | n + 1 => runG 8 (g_law_thing_by m_cell m_number_by m_text_by (m_thing_by n) m_name_by)
def m_kind : List D → Res FD := runG 1 g_law_kind
def m_compare : Nat → List D → Res FD
  | 0 => fun _ => .bad
  | n + 1 => runG 8 (g_law_compare m_kind (runG 4 (g_law_rows_compare (m_compare n))))
def m_same : List D → Res FD := runG 2 (g_law_same m_kind (m_compare 24))
def m_held : Nat → List D → Res FD
  | 0 => fun _ => .bad
  | n + 1 => runG 3 (g_law_held (m_held n))
def m_small : List D → Res FD := runG 4 (g_law_small m_cell (m_thing_by 4))
def m_names : List D → Res FD := runG 4 (g_law_names m_cell m_name_by)
def m_record : List D → Res FD := runG 5 (g_law_record m_cell m_small m_names)
def m_records : List D → Res FD := runG 6 (g_law_records m_cell m_record)
def m_path : List D → Res FD := runG 6 (g_law_path m_cell m_names)
def m_led : List D → Res FD := runG 3 g_law_led
def m_refused : List D → Res FD := runG 4 (g_law_refused m_shown)
def m_law : List D → Res FD := runG 15 (g_law m_records m_cell m_path (m_held 12) m_refused m_led m_shown m_same (markF 12))
end G
end

section
set_option Elab.async false
set_option maxRecDepth 100000
set_option linter.all false
set_option maxHeartbeats 4000000
namespace G
open PySem PySem.Spec PyProof.Rows L2 VL
/-! things -/
def TD (b : Nat) : Nat → D → Prop
  | _, .non => True
  | _, .bl _ => True
  | _, .int _ => True
  | _, .str _ => True
  | n + 1, .lst ds => ds.length < b ∧ ∀ d ∈ ds, TD b n d
  | n + 1, .dct kds => kds.length < b ∧ (kds.map (·.1)).Nodup ∧ (∃ ks : List Str, kds.map (·.1) = ks.map Sum.inr) ∧ ∀ kv ∈ kds, TD b n kv.2
  | _, _ => False
theorem TD.mono {b b' : Nat} (hb : b ≤ b') : ∀ {n m : Nat} {d : D}, n ≤ m → TD b n d → TD b' m d
  | n, m, .non, _, _ => by cases m <;> trivial
  | n, m, .bl _, _, _ => by cases m <;> trivial
  | n, m, .int _, _, _ => by cases m <;> trivial
  | n, m, .str _, _, _ => by cases m <;> trivial
  | n + 1, m + 1, .lst ds, h, ⟨h1, h2⟩ => ⟨Nat.lt_of_lt_of_le h1 hb, fun d hd => TD.mono hb (Nat.le_of_succ_le_succ h) (h2 d hd)⟩
  | n + 1, m + 1, .dct ds, h, ⟨h1, h2, h3, h4⟩ => ⟨Nat.lt_of_lt_of_le h1 hb, h2, h3, fun d hd => TD.mono hb (Nat.le_of_succ_le_succ h) (h4 d hd)⟩
  | 0, m, .lst _, _, h => h.elim
  | 0, m, .dct _, _, h => h.elim
  | 0, m, .tup _, _, h => h.elim
  | 0, m, .scr _, _, h => h.elim
  | n + 1, m, .tup _, _, h => h.elim
  | n + 1, m, .scr _, _, h => h.elim
theorem td_sz {b : Nat} {x : Nat} (h : x < b) (hb : b ≤ 1000) : x ≤ sizeLine := Nat.le_trans (Nat.le_of_lt (Nat.lt_of_lt_of_le h hb)) (by decide)
theorem compL_map {t : D → Option (List D)} {is : List Nat} {g : GE} {ρ : List (Option D)} {f : FD → FD} : ∀ {xs : List FD}, (∀ x ∈ xs, ∃ as, t x.2 = some as ∧ g (setsD ρ is as) = .ok (f x)) → compL t is cYes g ρ xs = .ok (xs.map f)
  | [], _ => rfl
  | x :: xs, h => by
    obtain ⟨as, h1, h2⟩ := h x List.mem_cons_self
    unfold compL
    rw [h1]
    simp only [cYes, Res.nox_ok, Res.bind_ok, if_true]
    rw [h2, compL_map fun y hy => h y (List.mem_cons_of_mem _ hy)]
    rfl
theorem allT_map {ds : List D} : allT (ds.map fun d => (Fl.T, d)) = true := by unfold allT; simp
theorem isT_list (ds : List D) : isT "list" (.lst ds) = true := rfl
theorem isT_dict (ds : List (Key × D)) : isT "dict" (.dct ds) = true := rfl
theorem putD_new {kds : List (Key × D)} {k : Key} {d : D} (h : k ∉ kds.map (·.1)) : putD kds k d = kds ++ [(k, d)] := by
  unfold putD
  rw [if_neg]
  intro h'
  exact h (any_key.mp h')
theorem keyOf_kD (k : Key) : keyOf (kD k) = some k := by cases k <;> rfl
theorem kD_atom (k : Key) : (kD k).atom = true := by cases k <;> rfl
theorem sh_kD (k : Key) : sh (kD k) = (.T, kD k) := by unfold sh; rw [kD_atom]; rfl
theorem sh_lst (ds : List D) : sh (.lst ds) = (.S, .lst ds) := rfl
theorem sh_dct (ds : List (Key × D)) : sh (.dct ds) = (.S, .dct ds) := rfl
theorem sh_scr (ns : List Int) : sh (.scr ns) = (.S, .scr ns) := rfl
theorem sh_int (i : Int) : sh (.int i) = (.T, .int i) := rfl
theorem sh_str (i : Str) : sh (.str i) = (.T, .str i) := rfl
theorem sh_bl (i : Bool) : sh (.bl i) = (.T, .bl i) := rfl
theorem sh_non : sh .non = (.T, .non) := rfl
theorem copied_dct {n : Nat} {d0 : D} : ∀ {suf pre : List (Key × D)} {x y : Option FD}, (∀ kv ∈ suf, m_copied n [kv.2] = .ok (.T, kv.2)) → ((pre ++ suf).map (·.1)).Nodup → (pre ++ suf).length < 1000 → d0.atom = false →
    ∃ x' y', forL t2 [2, 3] (gSetIt 1 [2, 3] (gVar 2) (gCall (VL.gCons (gVar 3) VL.gNil) (m_copied n))) (itemsD suf) [some (.S, d0), some (.T, .dct pre), x, y] = .nx [some (.S, d0), some (.T, .dct (pre ++ suf)), x', y']
  | [], pre, x, y, _, _, _, _ => ⟨x, y, by simp [itemsD, forL]⟩
  | (k, v) :: suf, pre, x, y, h, nd, hl, ha => by
    obtain ⟨x', y', e⟩ := copied_dct (n := n) (d0 := d0) (suf := suf) (pre := pre ++ [(k, v)]) (x := some (sh (kD k))) (y := some (sh v)) (fun kv hkv => h kv (List.mem_cons_of_mem _ hkv)) (by simpa using nd) (by simpa using hl) ha
    refine ⟨x', y', ?_⟩
    have hk : k ∉ pre.map (·.1) := by
      simp only [List.map_append, List.map_cons] at nd
      intro hk
      exact (List.nodup_append.mp nd).2.2 k hk k List.mem_cons_self rfl
    have hlen : pre.length < sizeLine := by
      have : pre.length < 1000 := by simp at hl; omega
      exact Nat.lt_of_lt_of_le this (by decide)
    have hm := h (k, v) List.mem_cons_self
    have hm : m_copied n [v] = .ok (.T, v) := hm
    have h2 : sh v = ((if v.atom = true then Fl.T else Fl.S), v) := rfl
    simp only [itemsD, List.map_cons, forL, t2]
    simp only [setsF, List.set_cons_succ, List.set_cons_zero, gSetIt, List.getElem?_cons_succ, List.getElem?_cons_zero, sh_kD, h2]
    simp [viewF, gCall, VL.gCons, gVar, VL.gNil, hm, viaE, sh_kD, setD, keyOf_kD, hlen, putD_new hk, mutV]
    rw [← List.append_cons] at e
    simp only [itemsD, sh_kD, h2] at e
    rw [← e]
theorem copied_ok : ∀ {n m : Nat} {d : D}, TD 60 n d → n < m → m_copied m [d] = .ok (.T, d)
  | n, 0, d, _, h => absurd h (Nat.not_lt_zero _)
  | n, m + 1, .non, _, _ => rfl
  | n, m + 1, .bl _, _, _ => rfl
  | n, m + 1, .int _, _, _ => rfl
  | n, m + 1, .str _, _, _ => rfl
  | n, m + 1, .tup _, h, _ => by cases n <;> exact h.elim
  | n, m + 1, .scr _, h, _ => by cases n <;> exact h.elim
  | 0, m + 1, .lst _, h, _ => h.elim
  | 0, m + 1, .dct _, h, _ => h.elim
  | n + 1, m + 1, .lst ds, ⟨h1, h2⟩, h => by
    have e1 : (compL t1 [3] cYes (gCall (VL.gCons (gVar 3) VL.gNil) (m_copied m)) [some (.lst ds), none, none, none] (ds.map sh)) = .ok ((ds.map sh).map fun x => (.T, x.2)) := compL_map (f := fun x => (.T, x.2)) fun x hx => by
      obtain ⟨d, hd, rfl⟩ := List.mem_map.mp hx
      refine ⟨[d], rfl, ?_⟩
      simp [setsD, gCall, VL.gCons, gVar, VL.gNil, copied_ok (h2 d hd) (Nat.lt_of_succ_lt_succ h)]
    have e2 : (ds.map sh).map (fun x => ((.T, x.2) : FD)) = ds.map fun d => (.T, d) := by simp
    show runG 4 (g_copied (m_copied m)) [.lst ds] = _
    simp [runG, g_copied, gSeq, gIfS, gTest, gIsi, gVar, enter, viewF, viaE, isT_list, toB, gRet, gComp, gItL, itemsL, sh_lst, wipeD, td_sz h1]
    rw [e1, e2]
    simp [mkL, allT_map]
    exact List.map_id _
  | n + 1, m + 1, .dct kds, ⟨h1, h2, h3, h4⟩, h => by
    obtain ⟨x, y, e⟩ := copied_dct (n := m) (d0 := .dct kds) (suf := kds) (pre := []) (x := none) (y := none) (fun kv hkv => copied_ok (h4 kv hkv) (Nat.lt_of_succ_lt_succ h)) (by simpa using h2) (by simp; omega) rfl
    show runG 4 (g_copied (m_copied m)) [.dct kds] = _
    have hn : isT "list" (.dct kds) = false := rfl
    simp [runG, g_copied, gSeq, gIfS, gTest, gIsi, gVar, enter, viewF, viaE, isT_dict, hn, toB, gSet, gCon, putV, gForD, leakF, sh_dct, gPass]
    simp at e
    rw [e]
    simp [Fo.nox, gRetV]
end G
end

section
set_option Elab.async false
set_option maxRecDepth 100000
set_option linter.all false
set_option maxHeartbeats 4000000
namespace G
open PySem PySem.Spec PyProof.Rows L2 VL
theorem i_bool_non : isT "bool" .non = false := show (kitB "NoneType" "bool").getD false = false by decide +kernel
theorem i_bool_bl (x : Bool) : isT "bool" (.bl x) = true := show (kitB "bool" "bool").getD false = true by decide +kernel
theorem i_bool_int (x : Int) : isT "bool" (.int x) = false := show (kitB "int" "bool").getD false = false by decide +kernel
theorem i_bool_str (x : Str) : isT "bool" (.str x) = false := show (kitB "str" "bool").getD false = false by decide +kernel
theorem i_bool_lst (x : List D) : isT "bool" (.lst x) = false := show (kitB "list" "bool").getD false = false by decide +kernel
theorem i_bool_tup (x : List D) : isT "bool" (.tup x) = false := show (kitB "tuple" "bool").getD false = false by decide +kernel
theorem i_bool_dct (x : List (Key × D)) : isT "bool" (.dct x) = false := show (kitB "dict" "bool").getD false = false by decide +kernel
theorem i_bool_scr (x : List Int) : isT "bool" (.scr x) = false := show (kitB "list" "bool").getD false = false by decide +kernel
theorem i_int_non : isT "int" .non = false := show (kitB "NoneType" "int").getD false = false by decide +kernel
theorem i_int_bl (x : Bool) : isT "int" (.bl x) = true := show (kitB "bool" "int").getD false = true by decide +kernel
theorem i_int_int (x : Int) : isT "int" (.int x) = true := show (kitB "int" "int").getD false = true by decide +kernel
theorem i_int_str (x : Str) : isT "int" (.str x) = false := show (kitB "str" "int").getD false = false by decide +kernel
theorem i_int_lst (x : List D) : isT "int" (.lst x) = false := show (kitB "list" "int").getD false = false by decide +kernel
theorem i_int_tup (x : List D) : isT "int" (.tup x) = false := show (kitB "tuple" "int").getD false = false by decide +kernel
theorem i_int_dct (x : List (Key × D)) : isT "int" (.dct x) = false := show (kitB "dict" "int").getD false = false by decide +kernel
theorem i_int_scr (x : List Int) : isT "int" (.scr x) = false := show (kitB "list" "int").getD false = false by decide +kernel
theorem i_str_non : isT "str" .non = false := show (kitB "NoneType" "str").getD false = false by decide +kernel
theorem i_str_bl (x : Bool) : isT "str" (.bl x) = false := show (kitB "bool" "str").getD false = false by decide +kernel
theorem i_str_int (x : Int) : isT "str" (.int x) = false := show (kitB "int" "str").getD false = false by decide +kernel
theorem i_str_str (x : Str) : isT "str" (.str x) = true := show (kitB "str" "str").getD false = true by decide +kernel
theorem i_str_lst (x : List D) : isT "str" (.lst x) = false := show (kitB "list" "str").getD false = false by decide +kernel
theorem i_str_tup (x : List D) : isT "str" (.tup x) = false := show (kitB "tuple" "str").getD false = false by decide +kernel
theorem i_str_dct (x : List (Key × D)) : isT "str" (.dct x) = false := show (kitB "dict" "str").getD false = false by decide +kernel
theorem i_str_scr (x : List Int) : isT "str" (.scr x) = false := show (kitB "list" "str").getD false = false by decide +kernel
theorem i_list_non : isT "list" .non = false := show (kitB "NoneType" "list").getD false = false by decide +kernel
theorem i_list_bl (x : Bool) : isT "list" (.bl x) = false := show (kitB "bool" "list").getD false = false by decide +kernel
theorem i_list_int (x : Int) : isT "list" (.int x) = false := show (kitB "int" "list").getD false = false by decide +kernel
theorem i_list_str (x : Str) : isT "list" (.str x) = false := show (kitB "str" "list").getD false = false by decide +kernel
theorem i_list_lst (x : List D) : isT "list" (.lst x) = true := show (kitB "list" "list").getD false = true by decide +kernel
theorem i_list_tup (x : List D) : isT "list" (.tup x) = false := show (kitB "tuple" "list").getD false = false by decide +kernel
theorem i_list_dct (x : List (Key × D)) : isT "list" (.dct x) = false := show (kitB "dict" "list").getD false = false by decide +kernel
theorem i_list_scr (x : List Int) : isT "list" (.scr x) = true := show (kitB "list" "list").getD false = true by decide +kernel
theorem i_dict_non : isT "dict" .non = false := show (kitB "NoneType" "dict").getD false = false by decide +kernel
theorem i_dict_bl (x : Bool) : isT "dict" (.bl x) = false := show (kitB "bool" "dict").getD false = false by decide +kernel
theorem i_dict_int (x : Int) : isT "dict" (.int x) = false := show (kitB "int" "dict").getD false = false by decide +kernel
theorem i_dict_str (x : Str) : isT "dict" (.str x) = false := show (kitB "str" "dict").getD false = false by decide +kernel
theorem i_dict_lst (x : List D) : isT "dict" (.lst x) = false := show (kitB "list" "dict").getD false = false by decide +kernel
theorem i_dict_tup (x : List D) : isT "dict" (.tup x) = false := show (kitB "tuple" "dict").getD false = false by decide +kernel
theorem i_dict_dct (x : List (Key × D)) : isT "dict" (.dct x) = true := show (kitB "dict" "dict").getD false = true by decide +kernel
theorem i_dict_scr (x : List Int) : isT "dict" (.scr x) = false := show (kitB "list" "dict").getD false = false by decide +kernel
theorem i_tuple_non : isT "tuple" .non = false := show (kitB "NoneType" "tuple").getD false = false by decide +kernel
theorem i_tuple_bl (x : Bool) : isT "tuple" (.bl x) = false := show (kitB "bool" "tuple").getD false = false by decide +kernel
theorem i_tuple_int (x : Int) : isT "tuple" (.int x) = false := show (kitB "int" "tuple").getD false = false by decide +kernel
theorem i_tuple_str (x : Str) : isT "tuple" (.str x) = false := show (kitB "str" "tuple").getD false = false by decide +kernel
theorem i_tuple_lst (x : List D) : isT "tuple" (.lst x) = false := show (kitB "list" "tuple").getD false = false by decide +kernel
theorem i_tuple_tup (x : List D) : isT "tuple" (.tup x) = true := show (kitB "tuple" "tuple").getD false = true by decide +kernel
theorem i_tuple_dct (x : List (Key × D)) : isT "tuple" (.dct x) = false := show (kitB "dict" "tuple").getD false = false by decide +kernel
theorem i_tuple_scr (x : List Int) : isT "tuple" (.scr x) = false := show (kitB "list" "tuple").getD false = false by decide +kernel
theorem eqN_int (i j : Int) : eqN 32 (.int i) (.int j) = some (i == j) := rfl
theorem le2 : (2 : Nat) ≤ sizeLine := by decide
theorem compL_on {α : Type} {t : D → Option (List D)} {is : List Nat} {g : GE} {ρ : List (Option D)} {xf yf : α → FD} : ∀ {l : List α}, (∀ a ∈ l, ∃ as, t (xf a).2 = some as ∧ g (setsD ρ is as) = .ok (yf a)) → compL t is cYes g ρ (l.map xf) = .ok (l.map yf)
  | [], _ => rfl
  | x :: xs, h => by
    obtain ⟨as, h1, h2⟩ := h x List.mem_cons_self
    rw [List.map_cons]
    unfold compL
    rw [h1]
    simp only [cYes, Res.nox_ok, Res.bind_ok, if_true]
    rw [h2, compL_on fun y hy => h y (List.mem_cons_of_mem _ hy)]
    rfl
theorem forL_inv {t : D → Option (List D)} {is : List Nat} {g : GS} (P : DE → Prop) : ∀ {xs : List FD} {ρ : DE}, (∀ x ∈ xs, ∀ ρ, P ρ → ∃ as ρ', t x.2 = some as ∧ g (setsF ρ is as) = .nx ρ' ∧ P ρ') → P ρ → ∃ ρ', forL t is g xs ρ = .nx ρ' ∧ P ρ'
  | [], ρ, _, h => ⟨ρ, rfl, h⟩
  | x :: xs, ρ, hs, h => by
    obtain ⟨as, ρ1, h1, h2, h3⟩ := hs x List.mem_cons_self ρ h
    obtain ⟨ρ2, h4, h5⟩ := forL_inv P (fun y hy => hs y (List.mem_cons_of_mem _ hy)) h3
    refine ⟨ρ2, ?_, h5⟩
    unfold forL
    rw [h1]
    simp only [h2]
    exact h4
theorem look_mem {kds : List (Key × D)} (nd : (kds.map (·.1)).Nodup) {kv : Key × D} (h : kv ∈ kds) : look kds kv.1 = some kv.2 := by
  induction kds with
  | nil => cases h
  | cons x xs ih =>
    simp only [List.map_cons, List.nodup_cons] at nd
    unfold look
    rw [List.find?_cons]
    rcases List.mem_cons.mp h with rfl | h
    · simp
    · have hx : ¬ x.1 = kv.1 := fun e => nd.1 (List.mem_map.mpr ⟨kv, h, e.symm⟩)
      simp only [decide_eq_true_eq, hx, decide_false]
      exact ih nd.2 h
theorem look_key {kds : List (Key × D)} {k : Key} (h : k ∈ kds.map (·.1)) : ∃ v, look kds k = some v ∧ (k, v) ∈ kds := by
  cases hf : kds.find? fun kv => decide (kv.1 = k) with
  | none =>
    obtain ⟨kv, h1, h2⟩ := List.mem_map.mp h
    have := List.find?_eq_none.mp hf kv h1
    simp [h2] at this
  | some p =>
    have h1 := List.find?_some hf
    simp only [decide_eq_true_eq] at h1
    exact ⟨p.2, by unfold look; rw [hf]; rfl, by rw [← h1]; exact List.mem_of_find?_eq_some hf⟩
theorem asPairs_map : ∀ (kds : List (Key × D)), asPairs (kds.map fun kv => .tup [kD kv.1, kv.2]) = some kds
  | [] => rfl
  | (k, v) :: kds => by
    rw [List.map_cons]
    unfold asPairs
    simp only [keyOf_kD, Option.bind_some, asPairs_map kds, Option.map_some]
theorem mergeD_self : ∀ {suf pre : List (Key × D)}, ((pre ++ suf).map (·.1)).Nodup → mergeD pre suf = pre ++ suf
  | [], pre, _ => by simp [mergeD]
  | (k, v) :: suf, pre, nd => by
    have hk : k ∉ pre.map (·.1) := by
      simp only [List.map_append, List.map_cons] at nd
      intro hk
      exact (List.nodup_append.mp nd).2.2 k hk k List.mem_cons_self rfl
    show mergeD (putD pre k v) suf = _
    rw [putD_new hk, mergeD_self (by simpa using nd)]
    simp
theorem held_ok {b : Nat} (hb : b ≤ 1000) : ∀ {n m : Nat} {d : D}, TD b n d → n < m → m_held m [d] = .ok (.T, d)
  | n, 0, d, _, h => absurd h (Nat.not_lt_zero _)
  | n, m + 1, .non, _, _ => rfl
  | n, m + 1, .bl _, _, _ => rfl
  | n, m + 1, .int _, _, _ => rfl
  | n, m + 1, .str _, _, _ => rfl
  | n, m + 1, .tup _, h, _ => by cases n <;> exact h.elim
  | n, m + 1, .scr _, h, _ => by cases n <;> exact h.elim
  | 0, m + 1, .lst _, h, _ => h.elim
  | 0, m + 1, .dct _, h, _ => h.elim
  | n + 1, m + 1, .lst ds, ⟨h1, h2⟩, h => by
    have e1 : (compL t1 [1] cYes (gCall (VL.gCons (gVar 1) VL.gNil) (m_held m)) [some (.lst ds), none, none] (ds.map sh)) = .ok (ds.map fun d => (.T, d)) := compL_on fun d hd => ⟨[d], rfl, by
      simp [setsD, gCall, VL.gCons, gVar, VL.gNil, held_ok hb (h2 d hd) (Nat.lt_of_succ_lt_succ h)]⟩
    show runG 3 (g_law_held (m_held m)) [.lst ds] = _
    simp [runG, g_law_held, gSeq, gIfS, gTest, gIsi, gVar, enter, viewF, viaE, isT_list, toB, gRet, gComp, gItL, itemsL, sh_lst, wipeD, td_sz h1 hb]
    rw [e1]
    simp [mkL, allT_map]
    exact List.map_id _
  | n + 1, m + 1, .dct kds, ⟨h1, h2, h3, h4⟩, h => by
    have e1 : (compL t1 [2] cYes (gTpl (lCons (gVar 2) (lCons (gCall (VL.gCons (g2 (gVar 0) (gVar 2) (fun x y => ofO (ixD x.2 y.2))) VL.gNil) (m_held m)) lNil))) [some (.dct kds), none, none] (keysD kds)) = .ok (kds.map fun kv => (.T, .tup [kD kv.1, kv.2])) := compL_on fun kv hkv => ⟨[kD kv.1], rfl, by
      simp [setsD, gCall, VL.gCons, gVar, VL.gNil, held_ok hb (h4 kv hkv) (Nat.lt_of_succ_lt_succ h), gTpl, lCons, lNil, g2, ixD, sh_kD, keyOf_kD, look_mem h2 hkv, chk, le2, mkT, allT]⟩
    have hn := i_list_dct kds
    have hl : (keysD kds).length ≤ sizeLine := by unfold keysD; rw [List.length_map]; exact td_sz h1 hb
    have hT : allT (kds.map fun kv => ((.T, .tup [kD kv.1, kv.2]) : FD)) = true := by unfold allT; simp
    have ep : asPairs (List.map ((fun x : FD => x.2) ∘ fun kv : Key × D => ((.T, .tup [kD kv.1, kv.2]) : FD)) kds) = some kds := asPairs_map kds
    show runG 3 (g_law_held (m_held m)) [.dct kds] = _
    simp [runG, g_law_held, gSeq, gIfS, gTest, gIsi, gVar, enter, viewF, viaE, isT_dict, hn, toB, gRet, gPass, gDictT, gComp, gDct, sh_dct, wipeD, hl]
    rw [e1]
    simp [mkL, hT, ep, mergeD_self (pre := []) (suf := kds) (by simpa using h2)]
theorem kind_non : m_kind [.non] = .ok (.T, .str "nothing") := by
  cases h : sh .non with | mk f v =>
  have hv : v = .non := (congrArg Prod.snd h).symm
  subst hv
  simp [m_kind, runG, g_law_kind, gSeq, gIfS, gTest, gIsi, gIsN, isN, gVar, gCon, enter, h, viewF, viaE, toB, gRet, gPass, i_bool_non, i_int_non, i_str_non, i_list_non, i_dict_non]
theorem kind_bl (x : Bool) : m_kind [(.bl x)] = .ok (.T, .str "truth") := by
  cases h : sh (.bl x) with | mk f v =>
  have hv : v = (.bl x) := (congrArg Prod.snd h).symm
  subst hv
  simp [m_kind, runG, g_law_kind, gSeq, gIfS, gTest, gIsi, gIsN, isN, gVar, gCon, enter, h, viewF, viaE, toB, gRet, gPass, i_bool_bl, i_int_bl, i_str_bl, i_list_bl, i_dict_bl]
theorem kind_int (x : Int) : m_kind [(.int x)] = .ok (.T, .str "number") := by
  cases h : sh (.int x) with | mk f v =>
  have hv : v = (.int x) := (congrArg Prod.snd h).symm
  subst hv
  simp [m_kind, runG, g_law_kind, gSeq, gIfS, gTest, gIsi, gIsN, isN, gVar, gCon, enter, h, viewF, viaE, toB, gRet, gPass, i_bool_int, i_int_int, i_str_int, i_list_int, i_dict_int]
theorem kind_str (x : Str) : m_kind [(.str x)] = .ok (.T, .str "text") := by
  cases h : sh (.str x) with | mk f v =>
  have hv : v = (.str x) := (congrArg Prod.snd h).symm
  subst hv
  simp [m_kind, runG, g_law_kind, gSeq, gIfS, gTest, gIsi, gIsN, isN, gVar, gCon, enter, h, viewF, viaE, toB, gRet, gPass, i_bool_str, i_int_str, i_str_str, i_list_str, i_dict_str]
theorem kind_lst (x : List D) : m_kind [(.lst x)] = .ok (.T, .str "row") := by
  cases h : sh (.lst x) with | mk f v =>
  have hv : v = (.lst x) := (congrArg Prod.snd h).symm
  subst hv
  simp [m_kind, runG, g_law_kind, gSeq, gIfS, gTest, gIsi, gIsN, isN, gVar, gCon, enter, h, viewF, viaE, toB, gRet, gPass, i_bool_lst, i_int_lst, i_str_lst, i_list_lst, i_dict_lst]
theorem kind_dct (x : List (Key × D)) : m_kind [(.dct x)] = .ok (.T, .str "record") := by
  cases h : sh (.dct x) with | mk f v =>
  have hv : v = (.dct x) := (congrArg Prod.snd h).symm
  subst hv
  simp [m_kind, runG, g_law_kind, gSeq, gIfS, gTest, gIsi, gIsN, isN, gVar, gCon, enter, h, viewF, viaE, toB, gRet, gPass, i_bool_dct, i_int_dct, i_str_dct, i_list_dct, i_dict_dct]
theorem atI_nat2 {α : Type} {xs : List α} {k : Nat} (h : k < xs.length) : atI xs (k : Int) = some xs[k] := atI_nat (by rw [List.getElem?_eq_getElem h])
theorem okR_small {n : Nat} (h : n < 1000) : okR 0 (n : Int) = true := by
  have : (1000 : Nat) ≤ sizeLine := by decide
  unfold okR; simp; omega

/-! a statement at a time -/
def fin : Fo → Res FD
  | .rt x => .ok x
  | .nx _ => .ok (.T, .non)
  | .xc c fs _ => .xc c fs
  | _ => .bad
theorem run_of {n : Nat} {g : GS} {ds : List D} {o : Fo} {r : Res FD} (h : g (enter n ds) = o) (hr : fin o = r) : runG n g ds = r := by
  unfold runG; rw [h, ← hr]; cases o <;> rfl
theorem q_seq {g k : GS} {ρ ρ1 : DE} {o : Fo} (h : g ρ = .nx ρ1) (h2 : k ρ1 = o) : gSeq g k ρ = o := by unfold gSeq; rw [h]; exact h2
theorem q_rt {g k : GS} {ρ : DE} {x : FD} (h : g ρ = .rt x) : gSeq g k ρ = .rt x := by unfold gSeq; rw [h]
theorem q_set {i : Nat} {vs : List Nat} {g : GE} {ρ ρ1 : DE} {x : FD} (h : g (viewF vs 0 ρ) = .ok x) (h2 : putV vs i ρ x = ρ1) : gSet i vs g ρ = .nx ρ1 := by unfold gSet; rw [h]; subst h2; rfl
theorem q_ret {vs : List Nat} {g : GE} {ρ : DE} {x : FD} (h : g (viewF vs 0 ρ) = .ok x) : gRet vs g ρ = .rt x := by unfold gRet; rw [h]; rfl
theorem q_ift {vs : List Nat} {c : GT} {g k : GS} {ρ : DE} {o : Fo} (h : c (viewF vs 0 ρ) = .ok true) (h2 : g ρ = o) : gIfS vs c g k ρ = o := by unfold gIfS; rw [h]; exact h2
theorem q_iff {vs : List Nat} {c : GT} {g k : GS} {ρ : DE} {o : Fo} (h : c (viewF vs 0 ρ) = .ok false) (h2 : k ρ = o) : gIfS vs c g k ρ = o := by unfold gIfS; rw [h]; exact h2
theorem q_for {vs is : List Nat} {k : GA} {t : D → Option (List D)} {g : GS} {ρ ρ0 : DE} {xs : List FD} {o : Fo} (h : k (viewF vs 0 ρ) = .ok xs) (h0 : leakF vs 0 ρ = ρ0) (h2 : forL t is g xs ρ0 = o) : gFor vs is k t g ρ = o := by unfold gFor; rw [h, h0]; exact h2
theorem q_rng0 {g : GE} {ρ : List (Option D)} {fl : Fl} {i : Int} (h : g ρ = .ok (fl, .int i)) : gItR1 g ρ = itemsR 0 i := by unfold gItR1; rw [h]; rfl
theorem q_rng1 {i : Int} (h : okR 0 i = true) : itemsR 0 i = .ok (rngD 0 i) := by unfold itemsR; rw [if_pos h]
theorem q_rng {g : GE} {ρ : List (Option D)} {fl : Fl} {n : Nat} {i : Int} (h : g ρ = .ok (fl, .int i)) (hi : i = n) (hn : n < 1000) : gItR1 g ρ = .ok (rngD 0 n) :=
  (q_rng0 h).trans (hi ▸ q_rng1 (hi ▸ okR_small hn))
theorem rows_ok {b : Nat} (hb : b ≤ 1000) {mc : List D → Res FD} {ds : List D} (hl : ds.length < b) (h : ∀ d ∈ ds, mc [d, d] = .ok (.T, .int 0)) : runG 4 (g_law_rows_compare mc) [.lst ds, .lst ds] = .ok (.T, .int 0) := by
  obtain ⟨ρ', e1, x, y, e2⟩ := forL_inv (t := t1) (is := [2]) (g := gSeq (gSet 3 [0, 1, 2] (gCall (VL.gCons (g2 (gVar 0) (gVar 2) (fun x y => ofO (ixD x.2 y.2))) (VL.gCons (g2 (gVar 1) (gVar 2) (fun x y => ofO (ixD x.2 y.2))) VL.gNil)) mc)) (gIfS [3] (gTest (g2 (gVar 3) (gCon (.int 0)) (fun x y => ofO ((fB fun a b => (eqN 32 a b).map (!·)) x.2 y.2)))) (gRetV 3) gPass))
    (fun ρ => ∃ x y, ρ = [some (.S, .lst ds), some (.S, .lst ds), x, y]) (xs := rngD 0 ds.length) (ρ := [some (.S, .lst ds), some (.S, .lst ds), none, none]) (fun x hx ρ hρ => by
      obtain ⟨x1, y1, rfl⟩ := hρ
      unfold rngD at hx
      obtain ⟨k, hk, rfl⟩ := List.mem_map.mp hx
      have hk : k < ds.length := by simpa using hk
      refine ⟨[.int (0 + (k : Int))], _, rfl, ?_, some (.T, .int (0 + (k : Int))), some (.T, .int 0), rfl⟩
      have hm := h ds[k] (List.getElem_mem hk)
      simp [setsF, gSeq, gSet, gCall, VL.gCons, VL.gNil, g2, gVar, viewF, sh_lst, sh_int, ixD, atI_nat2 hk, hm, viaE, putV, gIfS, gTest, gCon, fB, eqN_int, toB, gPass]) ⟨none, none, rfl⟩
  subst e2
  unfold g_law_rows_compare
  refine run_of (q_seq (q_for ?_ ?_ e1) (q_ret (x := (.T, .int 0)) ?_)) rfl
  · exact q_rng (fl := .T) (by simp [gCall, VL.gCons, VL.gNil, gVar, enter, viewF, sh_lst, lenD, oT, minD]) rfl (Nat.lt_of_lt_of_le hl hb)
  · simp [enter, leakF, sh_lst]
  · simp [viewF, g2, gCall, VL.gCons, VL.gNil, gVar, sh_lst, lenD, oT, fB, gtD, ltD, VL.intD, subD]
end G
end

section
set_option Elab.async false
set_option maxRecDepth 100000
set_option linter.all false
set_option maxHeartbeats 4000000
namespace G
open PySem PySem.Spec
open PyProof.Rows hiding intD
open L2 hiding gCons gNil gLst
open VL
abbrev words : List D := [.str "nothing", .str "truth", .str "number", .str "text", .str "row", .str "record"]
theorem idx_non : idxD (.lst words) (.str "nothing") = some (.T, .int 0) := by kernel_rfl
theorem idx_bl : idxD (.lst words) (.str "truth") = some (.T, .int 1) := by kernel_rfl
theorem idx_int : idxD (.lst words) (.str "number") = some (.T, .int 2) := by kernel_rfl
theorem idx_str : idxD (.lst words) (.str "text") = some (.T, .int 3) := by kernel_rfl
theorem idx_lst : idxD (.lst words) (.str "row") = some (.T, .int 4) := by kernel_rfl
theorem idx_dct : idxD (.lst words) (.str "record") = some (.T, .int 5) := by kernel_rfl
theorem le6 : (6 : Nat) ≤ sizeLine := by decide
theorem str_irr (s : Str) : ¬ s.cps.toList < s.cps.toList := List.lt_irrefl _
theorem compare_head {mk mr : List D → Res FD} {d : D} {s : Str} {i : Int} {r : Res FD} (hk : mk [d] = .ok (.T, .str s)) (hi : idxD (.lst words) (.str s) = some (.T, .int i)) (hd : d.atom = false ∨ d.atom = true)
    (h : ∀ f, sh d = (f, d) → fin (gSeq (gIfS [3] (gTest (g2 (gVar 3) (gCon (.int 0)) (fun x y => ofO ((fB (eqN 32)) x.2 y.2)))) (gRet [] (gCon (.int 0))) (gPass)) (gSeq (gIfS [3] (gTest (g2 (gVar 3) (gCon (.int 4)) (fun x y => ofO ((fB ltD) x.2 y.2)))) (gRet [0, 1] (g2 (gCall (gCons (g2 (gVar 0) (gVar 1) (fun x y => ofO ((fB gtD) x.2 y.2))) (gNil)) (fun ds => ofO (intD ds))) (gCall (gCons (g2 (gVar 0) (gVar 1) (fun x y => ofO ((fB ltD) x.2 y.2))) (gNil)) (fun ds => ofO (intD ds))) (fun x y => ofO (subD x.2 y.2)))) (gPass)) (gSeq (gIfS [3] (gTest (g2 (gVar 3) (gCon (.int 4)) (fun x y => ofO ((fB (eqN 32)) x.2 y.2)))) (gRet [0, 1] (gCall (gCons (gVar 0) (gCons (gVar 1) (gNil))) mr)) (gPass)) (gSeq (gSet 5 [0] (gComp [7] [7] (gItL (gCall (gCons (gVar 0) (gNil)) (fun ds => ofO (sortD ds)))) t1 (cYes) (gLst (lCons (gVar 7) (lCons (g2 (gVar 0) (gVar 7) (fun x y => ofO (ixD x.2 y.2))) (lNil)))))) (gSeq (gSet 6 [1] (gComp [7] [7] (gItL (gCall (gCons (gVar 1) (gNil)) (fun ds => ofO (sortD ds)))) t1 (cYes) (gLst (lCons (gVar 7) (lCons (g2 (gVar 1) (gVar 7) (fun x y => ofO (ixD x.2 y.2))) (lNil)))))) (gRet [5, 6] (gCall (gCons (gVar 5) (gCons (gVar 6) (gNil))) mr)))))) [some (f, d), some (f, d), some (.T, .lst words), some (.T, .int i), some (.T, .int i), none, none, none]) = r) :
    runG 8 (g_law_compare mk mr) [d, d] = r := by
  obtain ⟨f, hf⟩ : ∃ f, sh d = (f, d) := ⟨_, rfl⟩
  refine run_of (o := gSeq _ _ _) ?_ (h f hf)
  unfold g_law_compare
  refine q_seq (ρ1 := [some (f, d), some (f, d), some (.T, .lst words), none, none, none, none, none]) ?_ (q_seq (ρ1 := [some (f, d), some (f, d), some (.T, .lst words), some (.T, .int i), none, none, none, none]) ?_ (q_seq (ρ1 := [some (f, d), some (f, d), some (.T, .lst words), some (.T, .int i), some (.T, .int i), none, none, none]) ?_ (q_seq (ρ1 := [some (f, d), some (f, d), some (.T, .lst words), some (.T, .int i), some (.T, .int i), none, none, none]) ?_ rfl)))
  · simp [gSet, enter, gLst, lCons, lNil, gCon, chk, le6, mkL, allT, viaE, putV, hf]
  · simp [gSet, viewF, gMt, gVar, sh_lst, gCall, gCons, gNil, hf, hk, hi, viaE, putV]
  · simp [gSet, viewF, gMt, gVar, sh_lst, gCall, gCons, gNil, hf, hk, hi, viaE, putV]
  · simp [gIfS, viewF, gTest, g2, gVar, sh_int, fB, eqN_int, toB, viaE, gPass]

theorem sortD_dct {kds : List (Key × D)} {ks : List Str} (h : kds.map (·.1) = ks.map Sum.inr) (hl : kds.length < 60) : sortD [.dct kds] = some (.T, .lst ((sortStr ks).map D.str)) := by
  have e : ∀ ks : List Str, keyStrs (ks.map Sum.inr) = some ks := by
    intro ks
    induction ks with
    | nil => rfl
    | cons k ks ih => rw [List.map_cons]; unfold keyStrs; rw [ih]; rfl
  have hl2 : ks.length < 64 := by
    have := congrArg List.length h
    simp at this; omega
  unfold sortD
  simp only [h, e, if_pos hl2]; rfl
theorem compare_ok {b : Nat} (hb : b ≤ 60) : ∀ {n m : Nat} {d : D}, TD b n d → 2 * n < m → m_compare m [d, d] = .ok (.T, .int 0)
  | n, 0, d, _, h => absurd h (Nat.not_lt_zero _)
  | n, m + 1, .non, _, _ => compare_head kind_non idx_non (.inr rfl) fun f hf => by
    simp [fin, gSeq, gIfS, viewF, gTest, g2, gVar, sh_int, gCon, fB, eqN_int, toB, viaE, gRet]
  | n, m + 1, .bl b, _, _ => compare_head (kind_bl b) idx_bl (.inr rfl) fun f hf => by
    rw [sh_bl] at hf
    cases hf
    simp [fin, gSeq, gIfS, viewF, gTest, g2, gVar, sh_int, sh_bl, gCon, fB, eqN_int, toB, viaE, gRet, gPass, ltD, gtD, gCall, gCons, gNil, intD, oT, subD]
  | n, m + 1, .int i, _, _ => compare_head (kind_int i) idx_int (.inr rfl) fun f hf => by
    rw [sh_int] at hf
    cases hf
    simp [fin, gSeq, gIfS, viewF, gTest, g2, gVar, sh_int, gCon, fB, eqN_int, toB, viaE, gRet, gPass, ltD, gtD, gCall, gCons, gNil, intD, oT, subD]
  | n, m + 1, .str s, _, _ => compare_head (kind_str s) idx_str (.inr rfl) fun f hf => by
    rw [sh_str] at hf
    cases hf
    have := str_irr s
    simp [fin, gSeq, gIfS, viewF, gTest, g2, gVar, sh_int, sh_str, gCon, fB, eqN_int, toB, viaE, gRet, gPass, ltD, gtD, gCall, gCons, gNil, intD, oT, subD]
  | n, m + 1, .tup _, h, _ => by cases n <;> exact h.elim
  | n, m + 1, .scr _, h, _ => by cases n <;> exact h.elim
  | 0, m + 1, .lst _, h, _ => h.elim
  | 0, m + 1, .dct _, h, _ => h.elim
  | n + 1, m + 1, .lst ds, ⟨h1, h2⟩, h => compare_head (kind_lst ds) idx_lst (.inl rfl) fun f hf => by
    rw [sh_lst] at hf
    cases hf
    have hr := rows_ok (mc := m_compare m) (Nat.le_trans hb (by decide)) h1 fun d hd => compare_ok hb (h2 d hd) (by omega)
    simp [fin, gSeq, gIfS, viewF, gTest, g2, gVar, sh_int, sh_lst, gCon, fB, eqN_int, toB, viaE, gRet, gPass, ltD, gtD, gCall, gCons, gNil, hr]
  | n + 1, m + 1, .dct kds, ⟨h1, h2, ⟨ks, h3⟩, h4⟩, h => compare_head (kind_dct kds) idx_dct (.inl rfl) fun f hf => by
    rw [sh_dct] at hf
    cases hf
    have hm : ∀ s ∈ sortStr ks, ∃ v, look kds (.inr s) = some v ∧ TD b n v := fun s hs => by
      have hs : s ∈ ks := (List.mergeSort_perm ks leStr).mem_iff.mp hs
      obtain ⟨v, hv, hm⟩ := look_key (kds := kds) (k := .inr s) (by rw [h3]; exact List.mem_map.mpr ⟨s, hs, rfl⟩)
      exact ⟨v, hv, h4 _ hm⟩
    have hsl : (sortStr ks).length < b := by
      rw [sortStr_length]
      have := congrArg List.length h3
      simp at this; omega
    obtain ⟨fr, hfr⟩ : ∃ fr : Fl, ∀ l : List Str, True := ⟨.T, fun _ => trivial⟩
    let val : Str → D := fun s => (look kds (.inr s)).getD .non
    have hrow : ∀ s ∈ sortStr ks, look kds (.inr s) = some (val s) := fun s hs => by
      obtain ⟨v, hv, _⟩ := hm s hs
      show _ = some ((look kds (.inr s)).getD .non)
      rw [hv]; rfl
    let rows : List D := (sortStr ks).map fun s => .lst [.str s, val s]
    have hr := rows_ok (mc := m_compare m) (ds := rows) (Nat.le_trans hb (by decide)) (by simpa [rows] using hsl) fun d hd => by
      obtain ⟨s, hs, rfl⟩ := List.mem_map.mp hd
      obtain ⟨v, hv, tv⟩ := hm s hs
      have hval : val s = v := by show (look kds (.inr s)).getD .non = v; rw [hv]; rfl
      rw [hval]
      cases m with
      | zero => omega
      | succ m' =>
        refine compare_head (kind_lst _) idx_lst (.inl rfl) fun f hf => ?_
        rw [sh_lst] at hf
        cases hf
        have hr := rows_ok (b := 60) (mc := m_compare m') (ds := [.str s, v]) (by decide) (by simp) fun d hd => by
          rcases List.mem_cons.mp hd with rfl | hd
          · exact compare_ok hb (n := n) (by cases n <;> trivial) (by omega)
          · rw [List.mem_singleton.mp hd]; exact compare_ok hb tv (by omega)
        simp [fin, gSeq, gIfS, viewF, gTest, g2, gVar, sh_int, sh_lst, gCon, fB, eqN_int, toB, viaE, gRet, gPass, ltD, gtD, gCall, gCons, gNil, hr]
    have hs := sortD_dct h3 (Nat.lt_of_lt_of_le h1 hb)
    have hsz : (sortStr ks).length ≤ sizeLine := td_sz hsl (Nat.le_trans hb (by decide))
    obtain ⟨fl, hfl⟩ : ∃ fl : Fl, mkL ((sortStr ks).map fun s => mkL [((.T, .str s) : FD), sh (val s)]) = (fl, .lst rows) := ⟨_, by unfold mkL; simp [rows, allT]; rfl⟩
    have hc : ∀ (i : Nat) (ρ : List (Option D)), ρ[i]? = some (some (.dct kds)) → ρ.length = 8 → i < 7 → gComp [7] [7] (gItL (gCall (gCons (gVar i) gNil) (fun ds => ofO (sortD ds)))) t1 cYes (gLst (lCons (gVar 7) (lCons (g2 (gVar i) (gVar 7) (fun x y => ofO (ixD x.2 y.2))) lNil))) ρ = .ok (fl, .lst rows) := fun i ρ hi hl h7 => by
      have e1 : compL t1 [7] cYes (gLst (lCons (gVar 7) (lCons (g2 (gVar i) (gVar 7) (fun x y => ofO (ixD x.2 y.2))) lNil))) (wipeD ρ [7]) ((sortStr ks).map fun s => sh (.str s)) = .ok ((sortStr ks).map fun s => mkL [((.T, .str s) : FD), sh (val s)]) := compL_on fun s hs => ⟨[.str s], rfl, by
        have h7' : (wipeD ρ [7]).length = 8 := by simp [wipeD, hl]
        have a7 : ((wipeD ρ [7]).set 7 (some (.str s)))[7]? = some (some (.str s)) := List.getElem?_set_self (by omega)
        have ai : ((wipeD ρ [7]).set 7 (some (.str s)))[i]? = some (some (.dct kds)) := by
          rw [List.getElem?_set_ne (by omega)]
          show (ρ.set 7 none)[i]? = _
          rw [List.getElem?_set_ne (by omega)]; exact hi
        simp [setsD, gLst, lCons, lNil, gVar, a7, ai, g2, sh_str, sh_dct, ixD, keyOf, hrow s hs, chk, le2]⟩
      have e2 : List.map sh (List.map D.str (sortStr ks)) = (sortStr ks).map fun s => sh (.str s) := by simp
      simp [gComp, gItL, gCall, gCons, gNil, gVar, hi, sh_dct, hs, itemsL, hsz, wipeD] 
      rw [show ρ.set 7 none = wipeD ρ [7] from rfl]
      simp only [Function.comp_def] 
      rw [e1]
      simp [hfl]
    have fin_of : ∀ {o : Fo} {x : FD}, o = .rt x → fin o = .ok x := fun h => by rw [h]; rfl
    refine fin_of ?_
    refine q_seq (q_iff ?_ rfl) (q_seq (q_iff ?_ rfl) (q_seq (q_iff ?_ rfl) ?_))
    · simp [viewF, gTest, g2, gVar, gCon, sh_int, fB, eqN_int, toB]
    · simp [viewF, gTest, g2, gVar, gCon, sh_int, fB, ltD, toB]
    · simp [viewF, gTest, g2, gVar, gCon, sh_int, fB, eqN_int, toB]
    · refine q_seq (q_set (hc 0 _ rfl rfl (by decide)) rfl) ?_
      cases fl
      · refine q_seq (q_set (hc 1 _ rfl rfl (by decide)) rfl) (q_ret ?_)
        simp [viewF, putV, leakF, gCall, gCons, gNil, gVar, sh_lst, sh_dct, sh_int, hr]
      · refine q_seq (q_set (hc 1 _ rfl rfl (by decide)) rfl) (q_ret ?_)
        simp [viewF, putV, leakF, gCall, gCons, gNil, gVar, sh_lst, sh_dct, sh_int, hr]
      · refine q_seq (q_set (hc 1 _ rfl rfl (by decide)) rfl) (q_ret ?_)
        simp [viewF, putV, leakF, gCall, gCons, gNil, gVar, sh_lst, sh_dct, sh_int, hr]
theorem same_ok {b n : Nat} (hb : b ≤ 60) (hn : n ≤ 11) {d : D} (h : TD b n d) : m_same [d, d] = .ok (.T, .bl true) := by
  have hc := compare_ok hb (m := 24) h (by omega)
  have key : ∀ s : Str, m_kind [d] = .ok (.T, .str s) → m_same [d, d] = .ok (.T, .bl true) := fun s hk => by
    have he : eqN 32 (.str s) (.str s) = some (s == s) := rfl
    unfold m_same
    cases hd : d.atom <;> simp [runG, g_law_same, gRet, enter, viewF, sh, hd, gAndV, gNotN, gCall, gCons, gNil, gVar, hk, isN, toB, g2, fB, he, hc, gCon, eqN_int, viaE]
  cases d with
  | non => exact key _ kind_non
  | bl x => exact key _ (kind_bl x)
  | int x => exact key _ (kind_int x)
  | str x => exact key _ (kind_str x)
  | lst x => exact key _ (kind_lst x)
  | dct x => exact key _ (kind_dct x)
  | tup x => cases n <;> exact h.elim
  | scr x => cases n <;> exact h.elim
end G
end

section
set_option Elab.async false
set_option maxRecDepth 100000
set_option linter.all false
set_option maxHeartbeats 4000000
namespace G
open PySem PySem.Spec
open PyProof.Rows hiding intD
open L2 hiding gCons gNil gLst
open VL
theorem look_nil (k : Key) : look [] k = none := rfl
theorem look_cons_pos {x : Key × D} {xs : List (Key × D)} {k : Key} (h : x.1 = k) : look (x :: xs) k = some x.2 := by unfold look; simp [List.find?_cons, h]
theorem look_cons_neg {x : Key × D} {xs : List (Key × D)} {k : Key} (h : ¬ x.1 = k) : look (x :: xs) k = look xs k := by unfold look; simp [List.find?_cons, h]
theorem look_repl {k k' : Key} {d : D} (h : k ≠ k') : ∀ kds : List (Key × D), look (kds.map fun kv => if kv.1 = k then (kv.1, d) else kv) k' = look kds k'
  | [] => rfl
  | x :: xs => by
    rw [List.map_cons]
    by_cases hx : x.1 = k
    · rw [if_pos hx, look_cons_neg (by rw [hx]; exact h), look_cons_neg (by rw [hx]; exact h), look_repl h xs]
    · rw [if_neg hx]
      by_cases hx2 : x.1 = k'
      · rw [look_cons_pos hx2, look_cons_pos hx2]
      · rw [look_cons_neg hx2, look_cons_neg hx2, look_repl h xs]
theorem look_app {k k' : Key} {d : D} (h : k ≠ k') : ∀ kds : List (Key × D), look (kds ++ [(k, d)]) k' = look kds k'
  | [] => by show look [(k, d)] k' = _; rw [look_cons_neg h]
  | x :: xs => by
    rw [List.cons_append]
    by_cases hx2 : x.1 = k'
    · rw [look_cons_pos hx2, look_cons_pos hx2]
    · rw [look_cons_neg hx2, look_cons_neg hx2, look_app h xs]
theorem look_put_ne {k k' : Key} {d : D} {kds : List (Key × D)} (h : k ≠ k') : look (putD kds k d) k' = look kds k' := by
  unfold putD
  split
  · exact look_repl h kds
  · exact look_app h kds
theorem mem_put {k : Key} {d : D} {kds : List (Key × D)} {kv : Key × D} (h : kv ∈ putD kds k d) : kv ∈ kds ∨ kv.2 = d := by
  unfold putD at h
  split at h
  · obtain ⟨x, hx, e⟩ := List.mem_map.mp h
    split at e
    · right; rw [← e]
    · left; rw [← e]; exact hx
  · rcases List.mem_append.mp h with h | h
    · exact .inl h
    · right; rw [List.mem_singleton.mp h]
theorem markL_ok {g : D → Int → Option (D × Int)} {P Q : D → Prop} (hg : ∀ d i, P d → ∃ d' j, g d i = some (d', j) ∧ Q d') : ∀ {ds : List D} {i : Int}, (∀ d ∈ ds, P d) → ∃ ds' j, markL g ds i = some (ds', j) ∧ ds'.length = ds.length ∧ ∀ d ∈ ds', Q d
  | [], i, _ => ⟨[], i, rfl, rfl, by simp⟩
  | d :: ds, i, h => by
    obtain ⟨d', j, h1, h2⟩ := hg d i (h d List.mem_cons_self)
    obtain ⟨ds', j', h3, h4, h5⟩ := markL_ok hg (ds := ds) (i := j) fun x hx => h x (List.mem_cons_of_mem _ hx)
    refine ⟨d' :: ds', j', by unfold markL; simp [h1, h3], by simp [h4], fun x hx => ?_⟩
    rcases List.mem_cons.mp hx with rfl | hx
    · exact h2
    · exact h5 x hx
theorem markN_ok {g : D → Int → Option (D × Int)} {P Q : D → Prop} (hg : ∀ d i, P d → ∃ d' j, g d i = some (d', j) ∧ Q d') : ∀ {ks : List Str} {kds : List (Key × D)} {i : Int}, ks.Nodup → (∀ k ∈ ks, ∃ v, look kds (.inr k) = some v ∧ P v) → (∀ kv ∈ kds, Q kv.2) →
    ∃ kds' j, markN g ks kds i = some (kds', j) ∧ ∀ kv ∈ kds', Q kv.2
  | [], kds, i, _, _, h => ⟨kds, i, rfl, h⟩
  | k :: ks, kds, i, nd, h, hq => by
    obtain ⟨n1, n2⟩ := List.nodup_cons.mp nd
    obtain ⟨v, hv, pv⟩ := h k List.mem_cons_self
    obtain ⟨d', j, h1, h2⟩ := hg v i pv
    obtain ⟨kds', j', h3, h4⟩ := markN_ok hg (ks := ks) (kds := putD kds (.inr k) d') (i := j) n2 (fun k' hk' => by
      rw [look_put_ne (fun e => n1 (by cases e; exact hk'))]
      exact h k' (List.mem_cons_of_mem _ hk')) (fun kv hkv => (mem_put hkv).elim (hq kv) fun e => by rw [e]; exact h2)
    exact ⟨kds', j', by unfold markN; simp [hv, h1, h3], h4⟩
theorem keyStrs_map (ks : List Str) : keyStrs (ks.map Sum.inr) = some ks := by
  induction ks with
  | nil => rfl
  | cons k ks ih => rw [List.map_cons]; unfold keyStrs; rw [ih]; rfl
theorem lt_size {n b : Nat} (h : n < b) (hb : b ≤ 1000) : n < sizeLine := Nat.lt_of_lt_of_le h (Nat.le_trans hb (by decide))
theorem mark_ok {b : Nat} (hb : b ≤ 50) : ∀ {n m : Nat} {d : D} {i : Int}, TD b n d → n < m → ∃ d' j, markF m d i = some (d', j) ∧ TD (b + 1) n d'
  | n, 0, d, i, _, h => absurd h (Nat.not_lt_zero _)
  | n, m + 1, .non, i, _, _ => ⟨.non, i + 1, rfl, by cases n <;> trivial⟩
  | n, m + 1, .bl x, i, _, _ => ⟨.bl x, i + 1, rfl, by cases n <;> trivial⟩
  | n, m + 1, .int x, i, _, _ => ⟨.int x, i + 1, rfl, by cases n <;> trivial⟩
  | n, m + 1, .str x, i, _, _ => ⟨.str x, i + 1, rfl, by cases n <;> trivial⟩
  | n, m + 1, .tup _, i, h, _ => by cases n <;> exact h.elim
  | n, m + 1, .scr _, i, h, _ => by cases n <;> exact h.elim
  | 0, m + 1, .lst _, i, h, _ => h.elim
  | 0, m + 1, .dct _, i, h, _ => h.elim
  | n + 1, m + 1, .lst ds, i, ⟨h1, h2⟩, h => by
    obtain ⟨ds', j, e1, e2, e3⟩ := markL_ok (g := markF m) (P := TD b n) (Q := TD (b + 1) n) (fun d i hd => mark_ok hb hd (Nat.lt_of_succ_lt_succ h)) (i := i) h2
    refine ⟨.lst (ds' ++ [.int j]), j + 1, ?_, by simp; omega, fun d hd => ?_⟩
    · show (markL (markF m) ds i).bind _ = _
      rw [e1]
      simp only [Option.bind_some, e2, if_pos (lt_size h1 (Nat.le_trans hb (by decide)))]
    · rcases List.mem_append.mp hd with hd | hd
      · exact e3 d hd
      · rw [List.mem_singleton.mp hd]; cases n <;> trivial
  | n + 1, m + 1, .dct kds, i, ⟨h1, h2, ⟨ks, h3⟩, h4⟩, h => by
    have hkl : ks.length = kds.length := by
      have := congrArg List.length h3
      simpa using this.symm
    have hnd : ks.Nodup := by
      rw [h3] at h2
      exact List.Pairwise.of_map _ (fun a b h e => h (congrArg Sum.inr e)) h2
    have hp : ∀ k, k ∈ sortStr ks ↔ k ∈ ks := fun k => (List.mergeSort_perm ks leStr).mem_iff
    obtain ⟨kds', j, e1, e2⟩ := markN_ok (g := markF m) (P := TD b n) (Q := TD (b + 1) n) (fun d i hd => mark_ok hb hd (Nat.lt_of_succ_lt_succ h)) (ks := sortStr ks) (kds := kds) (i := i) ((List.mergeSort_perm ks leStr).nodup_iff.mpr hnd)
      (fun k hk => by
        obtain ⟨v, hv, hm⟩ := look_key (kds := kds) (k := .inr k) (by rw [h3]; exact List.mem_map.mpr ⟨k, (hp k).mp hk, rfl⟩)
        exact ⟨v, hv, h4 _ hm⟩) (fun kv hkv => TD.mono (Nat.le_succ b) (Nat.le_refl n) (h4 kv hkv))
    have e3 := markN_keys e1
    have e4 : kds'.length = kds.length := by
      have := congrArg List.length e3
      simpa using this
    refine ⟨.dct (putD kds' (.inr "mark") (.int j)), j + 1, ?_, ?_⟩
    · show (keyStrs (kds.map (·.1))).bind _ = _
      have h64 : ks.length < 64 := by omega
      have hkk : keyStrs (List.map (fun x => x.1) kds) = some ks := by rw [h3]; exact keyStrs_map ks
      rw [hkk]
      simp only [Option.bind_some, if_pos h64, e1, e4, if_pos (lt_size h1 (Nat.le_trans hb (by decide)))]
    · have hl := putD_length kds' (.inr "mark") (.int j)
      refine ⟨by omega, putD_nodup _ _ (by rw [e3]; exact h2), ?_, fun kv hkv => (mem_put hkv).elim (e2 kv) fun e => by rw [e]; cases n <;> trivial⟩
      rw [putD_keys]
      split
      · exact ⟨ks, by rw [e3]; exact h3⟩
      · refine ⟨ks ++ [("mark" : Str)], ?_⟩
        rw [e3, h3]; simp
end G
end

section
set_option Elab.async false
set_option maxRecDepth 100000
set_option linter.all false
set_option maxHeartbeats 4000000
namespace G
open PySem PySem.Spec
open PyProof.Rows hiding intD
open L2 hiding gCons gNil gLst
open VL
/-! paths -/
def Stp (p : D) : Prop := (∃ s, p = .str s) ∨ ∃ k : Nat, p = .int k
def step (d p : D) : Option D := match d, p with
  | .dct kds, .str s => look kds (.inr s)
  | .lst ds, .int i => if 0 ≤ i then ds[i.toNat]? else none
  | _, _ => none
def walk : D → List D → Option D
  | d, [] => some d
  | d, p :: ps => (step d p).bind fun e => walk e ps
theorem sh_stp {p : D} (h : Stp p) : sh p = (.T, p) := by
  rcases h with ⟨s, rfl⟩ | ⟨k, rfl⟩ <;> rfl
theorem step_td {b n : Nat} {d p e : D} (h : TD b n d) (hs : step d p = some e) : TD b n e := by
  unfold step at hs
  split at hs
  · rename_i kds s
    cases n with
    | zero => exact h.elim
    | succ n =>
      obtain ⟨_, _, _, h4⟩ := h
      have : ∃ kv ∈ kds, kv.2 = e := by
        unfold look at hs
        obtain ⟨kv, h1, h2⟩ := Option.map_eq_some_iff.mp hs
        exact ⟨kv, List.mem_of_find?_eq_some h1, h2⟩
      obtain ⟨kv, h1, rfl⟩ := this
      exact TD.mono (Nat.le_refl b) (Nat.le_succ n) (h4 kv h1)
  · rename_i ds i
    cases n with
    | zero => exact h.elim
    | succ n =>
      obtain ⟨_, h4⟩ := h
      split at hs
      · exact TD.mono (Nat.le_refl b) (Nat.le_succ n) (h4 e (List.mem_of_getElem? hs))
      · cases hs
  · cases hs
theorem step_ix {d p e : D} (hs : step d p = some e) : ixD d p = some (sh e) := by
  unfold step at hs
  split at hs
  · rename_i kds s
    simp [ixD, keyOf, hs]
  · rename_i ds i
    split at hs
    · rename_i h0
      obtain ⟨k, rfl⟩ := Int.eq_ofNat_of_zero_le h0
      have hs : ds[k]? = some e := hs
      simp only [ixD]
      rw [atI_nat hs]; rfl
    · cases hs
  · cases hs
theorem step_len {d : D} {ds : List D} {k : Nat} (hd : d = .lst ds) : (step d (.int k)).isSome = decide (k < ds.length) := by
  subst hd
  have : step (.lst ds) (.int (k : Int)) = ds[k]? := by
    unfold step
    simp
  rw [this]
  by_cases h : k < ds.length
  · simp [h]
  · simp [h]
theorem isT_dict_ne {b n : Nat} {d : D} (h : TD b n d) (hd : ∀ kds, d ≠ .dct kds) : isT "dict" d = false := by
  cases d with
  | dct kds => exact absurd rfl (hd kds)
  | non => exact i_dict_non
  | bl x => exact i_dict_bl x
  | int x => exact i_dict_int x
  | str x => exact i_dict_str x
  | lst x => exact i_dict_lst x
  | tup x => exact i_dict_tup x
  | scr x => exact i_dict_scr x
theorem isT_list_ne {b n : Nat} {d : D} (h : TD b n d) (hd : ∀ kds, d ≠ .lst kds) : isT "list" d = false := by
  cases d with
  | lst kds => exact absurd rfl (hd kds)
  | non => exact i_list_non
  | bl x => exact i_list_bl x
  | int x => exact i_list_int x
  | str x => exact i_list_str x
  | dct x => exact i_list_dct x
  | tup x => exact i_list_tup x
  | scr x => cases n <;> exact h.elim
theorem leads_ok {b n : Nat} {d p : D} (h : TD b n d) (hp : Stp p) : m_leads_on [d, p] = .ok (.T, .bl (step d p).isSome) := by
  obtain ⟨f, hf⟩ : ∃ f, sh d = (f, d) := ⟨_, rfl⟩
  unfold m_leads_on
  rcases hp with ⟨s, rfl⟩ | ⟨k, rfl⟩
  · by_cases hd : ∃ kds, d = .dct kds
    · obtain ⟨kds, rfl⟩ := hd
      rw [sh_dct] at hf; cases hf
      simp [runG, g_leads_on, enter, gSeq, gIfS, gTest, gIsi, gVar, viewF, sh_dct, sh_str, i_str_str, i_dict_dct, toB, viaE, gRet, gAndV, g2, fB, inD, keyOf, step]
    · have h1 := isT_dict_ne h fun kds e => hd ⟨kds, e⟩
      have h2 : step d (.str s) = none := by
        unfold step
        split
        · rename_i kds s _; exact absurd ⟨_, rfl⟩ hd
        · rename_i ds i hh; cases hh
        · rfl
      simp [runG, g_leads_on, enter, gSeq, gIfS, gTest, gIsi, gVar, viewF, hf, sh_str, i_str_str, h1, toB, viaE, gRet, gAndV, h2]
  · by_cases hd : ∃ kds, d = .lst kds
    · obtain ⟨kds, rfl⟩ := hd
      rw [sh_lst] at hf; cases hf
      rw [step_len rfl]
      simp [runG, g_leads_on, enter, gSeq, gIfS, gTest, gIsi, gVar, viewF, sh_lst, sh_int, i_str_int, i_list_lst, toB, viaE, gRet, gPass, gAndV, g2, fB, gCall, gCons, gNil, lenD, oT, ltD]
    · have h1 := isT_list_ne h fun kds e => hd ⟨kds, e⟩
      have h2 : step d (.int k) = none := by
        unfold step
        split
        · rename_i ds i hh; cases hh
        · rename_i ds i h; exact absurd ⟨_, rfl⟩ hd
        · rfl
      simp [runG, g_leads_on, enter, gSeq, gIfS, gTest, gIsi, gVar, viewF, hf, sh_int, i_str_int, h1, toB, viaE, gRet, gPass, gAndV, h2]
theorem has_loop {b n : Nat} {d : D} {l : List D} : ∀ {ps : List D} {e : D} {x : Option FD}, TD b n e → (∀ p ∈ ps, Stp p) →
    (∀ r, walk e ps = some r → ∃ x', forL t1 [3] (gSeq (gIfS [2, 3] (gNotT (gTest (gCall (gCons (gVar 2) (gCons (gVar 3) (gNil))) m_leads_on))) (gRet [] (gCon (.bl false))) (gPass)) (gSet 2 [2, 3] (g2 (gVar 2) (gVar 3) (fun x y => ofO (ixD x.2 y.2))))) (ps.map sh) [some (sh d), some (.S, .lst l), some (sh e), x] = .nx [some (sh d), some (.S, .lst l), some (sh r), x']) ∧
    (walk e ps = none → forL t1 [3] (gSeq (gIfS [2, 3] (gNotT (gTest (gCall (gCons (gVar 2) (gCons (gVar 3) (gNil))) m_leads_on))) (gRet [] (gCon (.bl false))) (gPass)) (gSet 2 [2, 3] (g2 (gVar 2) (gVar 3) (fun x y => ofO (ixD x.2 y.2))))) (ps.map sh) [some (sh d), some (.S, .lst l), some (sh e), x] = .rt (.T, .bl false))
  | [], e, x, _, _ => ⟨fun r h => by cases h; exact ⟨x, rfl⟩, fun h => by cases h⟩
  | p :: ps, e, x, ht, hp => by
    have hl := leads_ok ht (hp p List.mem_cons_self)
    have hs := sh_stp (hp p List.mem_cons_self)
    obtain ⟨f, hf⟩ : ∃ f, sh e = (f, e) := ⟨_, rfl⟩
    cases hst : step e p with
    | none =>
      rw [hst] at hl
      refine ⟨fun r h => by simp [walk, hst] at h, fun _ => ?_⟩
      rw [List.map_cons]
      unfold forL
      simp [t1, setsF, hs, hf, gSeq, gIfS, gNotT, gTest, gCall, gCons, gNil, gVar, viewF, hl, toB, viaE, gRet, gCon]
    | some e' =>
      rw [hst] at hl
      have hx := step_ix hst
      obtain ⟨ih1, ih2⟩ := has_loop (d := d) (l := l) (ps := ps) (e := e') (x := some (.T, p)) (step_td ht hst) fun q hq => hp q (List.mem_cons_of_mem _ hq)
      have hstep : ∀ xs, forL t1 [3] (gSeq (gIfS [2, 3] (gNotT (gTest (gCall (gCons (gVar 2) (gCons (gVar 3) (gNil))) m_leads_on))) (gRet [] (gCon (.bl false))) (gPass)) (gSet 2 [2, 3] (g2 (gVar 2) (gVar 3) (fun x y => ofO (ixD x.2 y.2))))) (sh p :: xs) [some (sh d), some (.S, .lst l), some (sh e), x] = forL t1 [3] (gSeq (gIfS [2, 3] (gNotT (gTest (gCall (gCons (gVar 2) (gCons (gVar 3) (gNil))) m_leads_on))) (gRet [] (gCon (.bl false))) (gPass)) (gSet 2 [2, 3] (g2 (gVar 2) (gVar 3) (fun x y => ofO (ixD x.2 y.2))))) xs [some (sh d), some (.S, .lst l), some (sh e'), some (.T, p)] := fun xs => by
        obtain ⟨f0, hf0⟩ : ∃ f, sh d = (f, d) := ⟨_, rfl⟩
        have e1 : (gSeq (gIfS [2, 3] (gNotT (gTest (gCall (gCons (gVar 2) (gCons (gVar 3) (gNil))) m_leads_on))) (gRet [] (gCon (.bl false))) (gPass)) (gSet 2 [2, 3] (g2 (gVar 2) (gVar 3) (fun x y => ofO (ixD x.2 y.2))))) [some (f0, d), some (.S, .lst l), some (f, e), some (.T, p)] = .nx [some (f0, d), some (.S, .lst l), some (sh e'), some (.T, p)] := by
          obtain ⟨f2, hf2⟩ : ∃ f, sh e' = (f, e') := ⟨_, rfl⟩
          refine q_seq (q_iff ?_ rfl) (q_set (x := sh e') ?_ ?_)
          · simp [gNotT, gTest, gCall, gCons, gNil, gVar, viewF, hs, hf, hl, toB]
          · simp [g2, gVar, viewF, hs, hf, hx]
          · rw [hf2]; cases f2 <;> simp [putV, leakF, hf, hs]
        rw [forL.eq_2]
        simp only [t1, setsF, hs, hf, hf0, List.set_cons_succ, List.set_cons_zero, e1]
      rw [List.map_cons]
      refine ⟨fun r h => ?_, fun h => ?_⟩
      · rw [hstep]
        exact ih1 r (by simpa [walk, hst] using h)
      · rw [hstep]
        exact ih2 (by simpa [walk, hst] using h)
theorem has_ok {b n : Nat} {d : D} {ps : List D} (h : TD b n d) (hp : ∀ p ∈ ps, Stp p) : m_has [d, .lst ps] = .ok (.T, .bl (walk d ps).isSome) := by
  obtain ⟨f, hf⟩ : ∃ f, sh d = (f, d) := ⟨_, rfl⟩
  have hv : gSet 2 [0] (gVar 0) (enter 4 [d, .lst ps]) = .nx [some (sh d), some (.S, .lst ps), some (sh d), none] := by
    simp only [enter, gSet, List.map_cons, List.map_nil, hf, sh_lst]
    cases f <;> simp [viewF, gVar, hf, viaE, putV, leakF]
  have hL := has_loop (d := d) (l := ps) (ps := ps) (e := d) (x := none) h hp
  unfold m_has g_has
  cases hw : walk d ps with
  | none =>
    refine run_of (q_seq hv (q_rt (q_for (xs := ps.map sh) ?_ ?_ (hL.2 hw)))) rfl
    · simp only [hf]; cases f <;> simp [gItL, gVar, viewF, sh_lst, itemsL]
    · simp [leakF, sh_lst]; rfl
  | some r =>
    obtain ⟨x', e⟩ := hL.1 r hw
    refine run_of (q_seq hv (q_seq (q_for (xs := ps.map sh) ?_ ?_ e) (q_ret (x := (.T, .bl true)) rfl))) rfl
    · simp only [hf]; cases f <;> simp [gItL, gVar, viewF, sh_lst, itemsL]
    · simp [leakF, sh_lst]; rfl

theorem forL_idx {t : D → Option (List D)} {is : List Nat} {g : GS} (P : Nat → DE → Prop) : ∀ {xs : List FD} {i : Nat} {ρ : DE}, (∀ j x, xs[j]? = some x → ∀ ρ, P (i + j) ρ → ∃ as ρ', t x.2 = some as ∧ g (setsF ρ is as) = .nx ρ' ∧ P (i + j + 1) ρ') → P i ρ → ∃ ρ', forL t is g xs ρ = .nx ρ' ∧ P (i + xs.length) ρ'
  | [], i, ρ, _, h => ⟨ρ, rfl, h⟩
  | x :: xs, i, ρ, hs, h => by
    obtain ⟨as, ρ1, h1, h2, h3⟩ := hs 0 x rfl ρ h
    obtain ⟨ρ2, h4, h5⟩ := forL_idx P (xs := xs) (i := i + 1) (ρ := ρ1) (fun j y hy ρ hρ => by
      have := hs (j + 1) y hy ρ (by rw [show i + (j + 1) = i + 1 + j by omega]; exact hρ)
      rw [show i + 1 + j + 1 = i + (j + 1) + 1 by omega]; exact this) h3
    refine ⟨ρ2, ?_, by rw [List.length_cons, show i + (xs.length + 1) = i + 1 + xs.length by omega]; exact h5⟩
    rw [forL.eq_2]
    simp only [h1, h2, h4]
theorem forL_rng {is : List Nat} {g : GS} {n : Nat} {ρ : DE} (P : Nat → DE → Prop) (hs : ∀ j, j < n → ∀ ρ, P j ρ → ∃ ρ', g (setsF ρ is [.int (j : Int)]) = .nx ρ' ∧ P (j + 1) ρ') (h : P 0 ρ) : ∃ ρ', forL t1 is g (rngD 0 n) ρ = .nx ρ' ∧ P n ρ' := by
  have hl : (rngD 0 (n : Int)).length = n := by unfold rngD; simp
  obtain ⟨ρ', h1, h2⟩ := forL_idx (t := t1) (is := is) (g := g) P (xs := rngD 0 n) (i := 0) (ρ := ρ) (fun j x hx ρ hρ => by
    have hj : j < n := by rw [← hl]; exact (List.getElem?_eq_some_iff.mp hx).1
    have ex : x = (.T, .int (j : Int)) := by
      unfold rngD at hx
      simp at hx
      obtain ⟨w, hw, rfl⟩ := hx
      rw [List.getElem?_range hj] at hw
      cases hw; rfl
    subst ex
    rw [Nat.zero_add] at hρ ⊢
    obtain ⟨ρ', h1, h2⟩ := hs j hj ρ hρ
    exact ⟨[.int j], ρ', rfl, h1, h2⟩) h
  exact ⟨ρ', h1, by rw [hl, Nat.zero_add] at h2; exact h2⟩
theorem ixD_lst (ds : List D) (i : Int) : ixD (.lst ds) (.int i) = (atI ds i).map sh := rfl
theorem reached_ok {b n : Nat} {d : D} {ps : List D} {e : D} (h : TD b n d) (hp : ∀ p ∈ ps, Stp p) (hl : ps.length < 1000) (hw : walk d ps = some e) : ∃ f, m_reached [d, .lst ps] = .ok (f, e) := by
  obtain ⟨f, hf⟩ : ∃ f, sh d = (f, d) := ⟨_, rfl⟩
  have hv : gSet 2 [0] (gVar 0) (enter 4 [d, .lst ps]) = .nx [some (sh d), some (.S, .lst ps), some (sh d), none] := by
    simp only [enter, gSet, List.map_cons, List.map_nil, hf, sh_lst]
    cases f <;> simp [viewF, gVar, hf, viaE, putV, leakF]
  obtain ⟨ρ', e1, here, x, e2, htd, e3⟩ := forL_rng (is := [3]) (g := gSeq (gIfS [1, 2, 3] (gNotT (gTest (gCall (gCons (gVar 2) (gCons (g2 (gVar 1) (gVar 3) (fun x y => ofO (ixD x.2 y.2))) (gNil))) m_leads_on))) (gNever) (gPass)) (gSet 2 [1, 2, 3] (g2 (gVar 2) (g2 (gVar 1) (gVar 3) (fun x y => ofO (ixD x.2 y.2))) (fun x y => ofO (ixD x.2 y.2)))))
    (n := ps.length) (ρ := [some (sh d), some (.S, .lst ps), some (sh d), none]) (fun i ρ => ∃ here x, ρ = [some (sh d), some (.S, .lst ps), some (sh here), x] ∧ TD b n here ∧ walk here (ps.drop i) = some e) (fun j hj ρ hρ => by
      obtain ⟨here, x, rfl, ht, hw⟩ := hρ
      rw [List.drop_eq_getElem_cons hj] at hw
      obtain ⟨e', he', hw'⟩ := Option.bind_eq_some_iff.mp hw
      have hpj := hp ps[j] (List.getElem_mem hj)
      have hl := leads_ok ht hpj
      rw [he'] at hl
      have hs := sh_stp hpj
      have hx := step_ix he'
      obtain ⟨f1, hf1⟩ : ∃ f, sh here = (f, here) := ⟨_, rfl⟩
      obtain ⟨f2, hf2⟩ : ∃ f, sh e' = (f, e') := ⟨_, rfl⟩
      obtain ⟨f0, hf0⟩ : ∃ f, sh d = (f, d) := ⟨_, rfl⟩
      refine ⟨[some (sh d), some (.S, .lst ps), some (sh e'), some (.T, .int (j : Int))], ?_, e', _, rfl, step_td ht he', hw'⟩
      refine q_seq (q_iff ?_ rfl) (q_set (x := sh e') ?_ ?_)
      · simp [setsF, gNotT, gTest, gCall, gCons, gNil, g2, gVar, viewF, sh_lst, sh_int, hf0, hf1, ixD_lst, atI_nat2 hj, hs, hl, toB]
      · simp [setsF, g2, gVar, viewF, sh_lst, sh_int, hf0, hf1, ixD_lst, atI_nat2 hj, hs]
        rw [hx]; rfl
      · rw [hf2, hf0, hf1]; cases f2 <;> simp [setsF, putV, leakF, hf1, sh_lst, sh_int]) ⟨d, none, rfl, h, hw⟩
  subst e2
  rw [List.drop_length] at e3
  cases e3
  refine ⟨(sh e).1, ?_⟩
  unfold m_reached g_reached
  refine run_of (q_seq hv (q_seq (q_for (q_rng (fl := .T) (n := ps.length) ?_ rfl hl) ?_ e1) rfl)) rfl
  · simp only [hf]; cases f <;> simp [gCall, gCons, gNil, gVar, viewF, sh_lst, lenD, oT]
  · simp [leakF, sh_lst]; rfl
theorem found_ok {n : Nat} {d : D} {ps : List D} (h : TD 60 n d) (hn : n < 12) (hp : ∀ p ∈ ps, Stp p) (hl : ps.length < 1000) : m_found_or [d, .lst ps, .non] = .ok (.T, (walk d ps).getD .non) := by
  obtain ⟨f, hf⟩ : ∃ f, sh d = (f, d) := ⟨_, rfl⟩
  have hh := has_ok h hp
  unfold m_found_or g_found_or
  cases hw : walk d ps with
  | none =>
    rw [hw] at hh
    refine run_of (q_seq (q_iff ?_ rfl) (q_ret (x := (.T, .non)) ?_)) rfl
    · simp [enter, gTest, gCall, gCons, gNil, gVar, viewF, hf, sh_lst, sh_non, hh, toB]
    · simp [enter, gCall, gCons, gNil, gVar, viewF, hf, sh_lst, sh_non]
      exact copied_ok (n := 0) (m := 12) (d := .non) trivial (by decide)
  | some e =>
    rw [hw] at hh
    have ht : TD 60 n e := by
      have : ∀ {ps : List D} {d : D}, TD 60 n d → walk d ps = some e → TD 60 n e := by
        intro ps
        induction ps with
        | nil => intro d h hw; cases hw; exact h
        | cons p ps ih =>
          intro d h hw
          obtain ⟨e', h1, h2⟩ := Option.bind_eq_some_iff.mp hw
          exact ih (step_td h h1) h2
      exact this h hw
    obtain ⟨f1, hr⟩ := reached_ok h hp hl hw
    have hc := copied_ok (m := 12) ht hn
    have hta : m_thing_at [d, .lst ps] = .ok (.T, e) := by
      unfold m_thing_at
      refine run_of (q_ret (x := (.T, e)) ?_) rfl
      simp [enter, gCall, gCons, gNil, gVar, viewF, hf, sh_lst, hr, hc]
    refine run_of (q_rt (q_ift ?_ (q_ret (x := (.T, e)) ?_))) rfl
    · simp [enter, gTest, gCall, gCons, gNil, gVar, viewF, hf, sh_lst, sh_non, hh, toB]
    · simp [enter, gCall, gCons, gNil, gVar, viewF, hf, sh_lst, sh_non, hta]
end G
end

section
set_option Elab.async false
set_option maxRecDepth 100000
set_option linter.all false
set_option maxHeartbeats 4000000
namespace G
open PySem PySem.Spec
open PyProof.Rows hiding intD
open L2 hiding gCons gNil gLst
open VL
abbrev b_led : GS := gIfS [0, 2] (gAndT (gTest (gIsi "dict" (gVar 0))) (gAndT (gTest (gIsi "str" (gVar 2))) (gTest (g2 (gVar 2) (gVar 0) (fun x y => ofO ((fB inD) x.2 y.2)))))) (gSet 0 [0, 2] (g2 (gVar 0) (gVar 2) (fun x y => ofO (ixD x.2 y.2)))) (gIfS [0, 2] (gAndT (gTest (gIsi "list" (gVar 0))) (gAndT (gNotT (gTest (gIsi "str" (gVar 2)))) (gTest (g2 (gVar 2) (gCall (gCons (gVar 0) (gNil)) (fun ds => ofO (lenD ds))) (fun x y => ofO ((fB ltD) x.2 y.2)))))) (gSet 0 [0, 2] (g2 (gVar 0) (gVar 2) (fun x y => ofO (ixD x.2 y.2)))) (gRet [] (gLst (lCons (gCon (.bl false)) (lCons (gCon .non) (lNil))))))
theorem led_set {d p e : D} {l : List D} (hp : Stp p) (hs : step d p = some e) : gSet 0 [0, 2] (g2 (gVar 0) (gVar 2) (fun x y => ofO (ixD x.2 y.2))) [some (sh d), some (.S, .lst l), some (.T, p)] = .nx [some (sh e), some (.S, .lst l), some (.T, p)] := by
  obtain ⟨f, hf⟩ : ∃ f, sh d = (f, d) := ⟨_, rfl⟩
  obtain ⟨f2, hf2⟩ : ∃ f, sh e = (f, e) := ⟨_, rfl⟩
  have h1 := sh_stp hp
  have hx := step_ix hs
  refine q_set (x := sh e) ?_ ?_
  · simp [g2, gVar, viewF, hf, h1, hx]
  · rw [hf2, hf]; cases f2 <;> simp [putV, leakF, hf, h1]
theorem led_ret {ρ : DE} : gRet [] (gLst (lCons (gCon (.bl false)) (lCons (gCon .non) (lNil)))) ρ = .rt (.T, .lst [.bl false, .non]) := by
  simp [gRet, gLst, lCons, lNil, gCon, chk, le2, mkL, allT, viaE]
theorem led_body {b n : Nat} {d p : D} {l : List D} (h : TD b n d) (hp : Stp p) :
    (∀ e, step d p = some e → b_led [some (sh d), some (.S, .lst l), some (.T, p)] = .nx [some (sh e), some (.S, .lst l), some (.T, p)]) ∧
    (step d p = none → b_led [some (sh d), some (.S, .lst l), some (.T, p)] = .rt (.T, .lst [.bl false, .non])) := by
  obtain ⟨f, hf⟩ : ∃ f, sh d = (f, d) := ⟨_, rfl⟩
  rcases hp with ⟨s, rfl⟩ | ⟨k, rfl⟩
  · by_cases hd : ∃ kds, d = .dct kds
    · obtain ⟨kds, rfl⟩ := hd
      refine ⟨fun e he => q_ift ?_ (led_set (.inl ⟨s, rfl⟩) he), fun he => q_iff ?_ (q_iff ?_ led_ret)⟩
      · have he : look kds (.inr s) = some e := he
        simp [viewF, sh_dct, sh_str, gAndT, gTest, gIsi, gVar, i_dict_dct, i_str_str, toB, g2, fB, inD, keyOf, he]
      · have he : look kds (.inr s) = none := he
        simp [viewF, sh_dct, sh_str, gAndT, gTest, gIsi, gVar, i_dict_dct, i_str_str, toB, g2, fB, inD, keyOf, he]
      · simp [viewF, sh_dct, sh_str, gAndT, gTest, gIsi, gVar, i_list_dct, toB]
    · have h1 := isT_dict_ne h fun kds e => hd ⟨kds, e⟩
      have h2 : step d (.str s) = none := by
        unfold step
        split
        · rename_i kds s _; exact absurd ⟨_, rfl⟩ hd
        · rename_i ds i hh; cases hh
        · rfl
      refine ⟨fun e he => by rw [h2] at he; (cases he), fun he => q_iff ?_ (q_iff ?_ led_ret)⟩
      · simp [viewF, hf, sh_str, gAndT, gTest, gIsi, gVar, h1, toB]
      · cases hl : isT "list" d <;> simp [viewF, hf, sh_str, gAndT, gNotT, gTest, gIsi, gVar, hl, i_str_str, toB]
  · by_cases hd : ∃ kds, d = .lst kds
    · obtain ⟨kds, rfl⟩ := hd
      have hsl := step_len (d := .lst kds) (k := k) rfl
      refine ⟨fun e he => q_iff ?_ (q_ift ?_ (led_set (.inr ⟨k, rfl⟩) he)), fun he => q_iff ?_ (q_iff ?_ led_ret)⟩
      · simp [viewF, sh_lst, sh_int, gAndT, gTest, gIsi, gVar, i_dict_lst, toB]
      · rw [he] at hsl
        have hk : k < kds.length := by simpa using hsl.symm
        simp [viewF, sh_lst, sh_int, gAndT, gNotT, gTest, gIsi, gVar, i_list_lst, i_str_int, toB, g2, fB, gCall, gCons, gNil, lenD, oT, ltD, hk]
      · simp [viewF, sh_lst, sh_int, gAndT, gTest, gIsi, gVar, i_dict_lst, toB]
      · rw [he] at hsl
        have hk : ¬ k < kds.length := by simpa using hsl.symm
        simp [viewF, sh_lst, sh_int, gAndT, gNotT, gTest, gIsi, gVar, i_list_lst, i_str_int, toB, g2, fB, gCall, gCons, gNil, lenD, oT, ltD]
        omega
    · have h1 := isT_list_ne h fun kds e => hd ⟨kds, e⟩
      have h2 : step d (.int k) = none := by
        unfold step
        split
        · rename_i kds s hh; cases hh
        · rename_i ds i h; exact absurd ⟨_, rfl⟩ hd
        · rfl
      refine ⟨fun e he => by rw [h2] at he; (cases he), fun he => q_iff ?_ (q_iff ?_ led_ret)⟩
      · cases hl : isT "dict" d <;> simp [viewF, hf, sh_int, gAndT, gTest, gIsi, gVar, hl, i_str_int, toB]
      · simp [viewF, hf, sh_int, gAndT, gTest, gIsi, gVar, h1, toB]
theorem led_loop {b n : Nat} {l : List D} : ∀ {ps : List D} {d : D} {x : Option FD}, TD b n d → (∀ p ∈ ps, Stp p) →
    (∀ e, walk d ps = some e → ∃ x', forL t1 [2] b_led (ps.map sh) [some (sh d), some (.S, .lst l), x] = .nx [some (sh e), some (.S, .lst l), x']) ∧
    (walk d ps = none → forL t1 [2] b_led (ps.map sh) [some (sh d), some (.S, .lst l), x] = .rt (.T, .lst [.bl false, .non]))
  | [], d, x, _, _ => ⟨fun e h => by cases h; exact ⟨x, rfl⟩, fun h => by cases h⟩
  | p :: ps, d, x, ht, hp => by
    have hs := sh_stp (hp p List.mem_cons_self)
    have hb := led_body (l := l) ht (hp p List.mem_cons_self)
    cases hst : step d p with
    | none =>
      refine ⟨fun e h => by simp [walk, hst] at h, fun _ => ?_⟩
      rw [List.map_cons, forL.eq_2]
      simp only [t1, setsF, hs, List.set_cons_succ, List.set_cons_zero, hb.2 hst]
    | some e' =>
      obtain ⟨ih1, ih2⟩ := led_loop (l := l) (ps := ps) (d := e') (x := some (.T, p)) (step_td ht hst) fun q hq => hp q (List.mem_cons_of_mem _ hq)
      have hstep : forL t1 [2] b_led ((p :: ps).map sh) [some (sh d), some (.S, .lst l), x] = forL t1 [2] b_led (ps.map sh) [some (sh e'), some (.S, .lst l), some (.T, p)] := by
        rw [List.map_cons, forL.eq_2]
        simp only [t1, setsF, hs, List.set_cons_succ, List.set_cons_zero, hb.1 e' hst]
      rw [hstep]
      exact ⟨fun e h => ih1 e (by simpa [walk, hst] using h), fun h => ih2 (by simpa [walk, hst] using h)⟩
theorem led_ok {b n : Nat} {d : D} {ps : List D} (h : TD b n d) (hp : ∀ p ∈ ps, Stp p) : ∃ fl x, m_led [d, .lst ps] = .ok (fl, .lst [x, (walk d ps).getD .non]) := by
  have hL := led_loop (l := ps) (ps := ps) (d := d) (x := none) h hp
  obtain ⟨f, hf⟩ : ∃ f, sh d = (f, d) := ⟨_, rfl⟩
  unfold m_led g_law_led
  cases hw : walk d ps with
  | none =>
    refine ⟨.T, .bl false, run_of (q_rt (q_for (xs := ps.map sh) ?_ ?_ (hL.2 hw))) rfl⟩
    · simp [enter, gItL, gVar, viewF, sh_lst, itemsL]
    · simp [enter, leakF, sh_lst]; rfl
  | some e =>
    obtain ⟨x', e1⟩ := hL.1 e hw
    obtain ⟨f2, hf2⟩ : ∃ f, sh e = (f, e) := ⟨_, rfl⟩
    refine ⟨_, .bl true, run_of (q_seq (q_for (xs := ps.map sh) ?_ ?_ e1) (q_ret (x := mkL [((.T, .bl true) : FD), sh e]) ?_)) rfl⟩
    · simp [enter, gItL, gVar, viewF, sh_lst, itemsL]
    · simp [enter, leakF, sh_lst]; rfl
    · simp [hf2, gLst, lCons, lNil, gCon, gVar, viewF, chk, le2]
/-! shown -/
abbrev b_shown : GS := gSeq (gIfS [0, 4] (gTest (g2 (gVar 4) (gVar 0) (fun x y => ofO ((fB fun a b => (inD a b).map (!·)) x.2 y.2)))) (gRaise "NoKey") (gPass)) (gApp 3 [0, 2, 4] (gComp [5] [5] (gItL (gVar 2)) t1 (cYes) (gCall (gCons (g2 (gVar 0) (gVar 4) (fun x y => ofO (ixD x.2 y.2))) (gCons (gVar 5) (gNil))) (fun ds => m_found_or (ds ++ [D.non])))))
def rowOf (recs : List (Key × D)) (paths : List (List D)) (k : Int) : D := .lst (paths.map fun ps => (walk ((look recs (.inl k)).getD .non) ps).getD .non)
structure Good (recs : List (Key × D)) (paths : List (List D)) (k : Int) : Prop where
  ex : ∃ r n, look recs (.inl k) = some r ∧ TD 60 n r ∧ n < 12
structure Paths (paths : List (List D)) : Prop where
  sz : paths.length < 60
  ok : ∀ ps ∈ paths, (∀ p ∈ ps, Stp p) ∧ ps.length < 1000
theorem shown_row {recs : List (Key × D)} {paths : List (List D)} (hP : Paths paths) {k : Int} (hg : Good recs paths k) {ρ : List (Option D)} (h0 : ρ[0]? = some (some (.dct recs))) (h2 : ρ[2]? = some (some (.lst (paths.map D.lst)))) (h4 : ρ[4]? = some (some (.int k))) (hl : ρ.length = 6) :
    gComp [5] [5] (gItL (gVar 2)) t1 (cYes) (gCall (gCons (g2 (gVar 0) (gVar 4) (fun x y => ofO (ixD x.2 y.2))) (gCons (gVar 5) (gNil))) (fun ds => m_found_or (ds ++ [D.non]))) ρ = .ok (.T, rowOf recs paths k) := by
  obtain ⟨r, n, hr, ht, hn⟩ := hg.ex
  obtain ⟨f, hf⟩ : ∃ f, sh r = (f, r) := ⟨_, rfl⟩
  have e1 : compL t1 [5] cYes (gCall (gCons (g2 (gVar 0) (gVar 4) (fun x y => ofO (ixD x.2 y.2))) (gCons (gVar 5) (gNil))) (fun ds => m_found_or (ds ++ [D.non]))) (wipeD ρ [5]) (paths.map fun ps => sh (.lst ps)) = .ok (paths.map fun ps => ((.T, (walk r ps).getD .non) : FD)) := compL_on fun ps hps => ⟨[.lst ps], rfl, by
    have hl' : (wipeD ρ [5]).length = 6 := by simp [wipeD, hl]
    have a5 : ((wipeD ρ [5]).set 5 (some (.lst ps)))[5]? = some (some (.lst ps)) := List.getElem?_set_self (by omega)
    have ai : ∀ i : Nat, i < 5 → ((wipeD ρ [5]).set 5 (some (.lst ps)))[i]? = ρ[i]? := fun i hi => by
      rw [List.getElem?_set_ne (by omega)]
      show (ρ.set 5 none)[i]? = _
      rw [List.getElem?_set_ne (by omega)]
    have a0 := (ai 0 (by decide)).trans h0
    have a4 := (ai 4 (by decide)).trans h4
    have hfo := found_ok ht hn (hP.ok ps hps).1 (hP.ok ps hps).2
    simp [setsD, gCall, gCons, gNil, g2, gVar, a5, a0, a4, sh_lst, sh_dct, sh_int, ixD, keyOf, hr, hf, hfo]⟩
  have hsz : paths.length ≤ sizeLine := td_sz hP.sz (by decide)
  have hT : allT (paths.map fun ps => ((.T, (walk r ps).getD .non) : FD)) = true := by unfold allT; simp
  simp [gComp, gItL, gVar, h2, sh_lst, itemsL, hsz]
  have e2 : List.map (sh ∘ D.lst) paths = paths.map fun ps => sh (.lst ps) := rfl
  rw [e2, e1]
  simp [mkL, hT, rowOf, hr]
theorem shown_loop {recs : List (Key × D)} {paths : List (List D)} (hP : Paths paths) {l : List D} {tail : List FD} : ∀ {ks : List Int} {acc : List D} {x : Option FD}, (∀ k ∈ ks, Good recs paths k) → acc.length + ks.length < 1000 →
    ∃ x', forL t1 [4] b_shown (ks.map (fun k => sh (.int k)) ++ tail) [some (.S, .dct recs), some (.S, .lst l), some (.S, .lst (paths.map D.lst)), some (.T, .lst acc), x, none] =
      forL t1 [4] b_shown tail [some (.S, .dct recs), some (.S, .lst l), some (.S, .lst (paths.map D.lst)), some (.T, .lst (acc ++ ks.map (rowOf recs paths))), x', none]
  | [], acc, x, _, _ => ⟨x, by simp⟩
  | k :: ks, acc, x, h, hl => by
    obtain ⟨x', e⟩ := shown_loop hP (l := l) (tail := tail) (ks := ks) (acc := acc ++ [rowOf recs paths k]) (x := some (.T, .int k)) (fun k' hk' => h k' (List.mem_cons_of_mem _ hk')) (by simp at hl ⊢; omega)
    refine ⟨x', ?_⟩
    have hg := h k List.mem_cons_self
    have hr := shown_row hP hg (ρ := [some (.dct recs), some (.lst l), some (.lst (paths.map D.lst)), none, some (.int k), none]) rfl rfl rfl rfl
    obtain ⟨r, n, hlk, _⟩ := hg.ex
    have hacc : acc.length < sizeLine := lt_size (b := 1000) (by simp at hl; omega) (by decide)
    have e1 : b_shown [some (.S, .dct recs), some (.S, .lst l), some (.S, .lst (paths.map D.lst)), some (.T, .lst acc), some (.T, .int k), none] = .nx [some (.S, .dct recs), some (.S, .lst l), some (.S, .lst (paths.map D.lst)), some (.T, .lst (acc ++ [rowOf recs paths k])), some (.T, .int k), none] := by
      refine q_seq (q_iff ?_ rfl) ?_
      · simp [viewF, gTest, g2, gVar, sh_int, sh_dct, fB, inD, keyOf, hlk, toB]
      · simp only [gApp, List.getElem?_cons_succ, List.getElem?_cons_zero]
        rw [show viewF [0, 2, 4] 0 [some (.S, .dct recs), some (.S, .lst l), some (.S, .lst (paths.map D.lst)), some (.T, .lst acc), some (.T, .int k), none] = [some (.dct recs), some (.lst l), some (.lst (paths.map D.lst)), none, some (.int k), none] by simp [viewF], hr]
        simp [viaE, hacc, mutV]
    rw [List.map_cons, List.cons_append, forL.eq_2]
    simp only [t1, sh_int, setsF, List.set_cons_succ, List.set_cons_zero, e1]
    simp only [sh_int] at e
    rw [e]
    simp
theorem shown_ok {recs : List (Key × D)} {paths : List (List D)} (hP : Paths paths) {ks : List Int} (h : ∀ k ∈ ks, Good recs paths k) (hl : ks.length < 1000) : m_shown [.dct recs, .lst (ks.map D.int), .lst (paths.map D.lst)] = .ok (.T, .lst (ks.map (rowOf recs paths))) := by
  obtain ⟨x', e⟩ := shown_loop hP (l := ks.map D.int) (tail := []) (ks := ks) (acc := []) (x := none) h (by simpa using hl)
  rw [List.append_nil, List.nil_append] at e
  have e' : forL t1 [4] b_shown (ks.map fun k => sh (.int k)) _ = .nx _ := e
  unfold m_shown g_shown
  refine run_of (q_seq (q_set (x := (.T, .lst [])) ?_ rfl) (q_seq (q_for (xs := ks.map fun k => sh (.int k)) ?_ ?_ e') rfl)) rfl
  · simp [gLst, lNil, chk, mkL, allT]
  · simp [enter, gItL, gVar, viewF, putV, sh_lst, sh_dct, itemsL]
  · simp [enter, leakF, putV, sh_lst, sh_dct]
theorem refused_ok {recs : List (Key × D)} {paths : List (List D)} (hP : Paths paths) {ks ks2 : List Int} {far : Int} (h : ∀ k ∈ ks, Good recs paths k) (hl : ks.length < 1000) (hf : look recs (.inl far) = none) :
    m_refused [.dct recs, .lst (ks.map D.int ++ .int far :: ks2.map D.int), .lst (paths.map D.lst)] = .ok (.T, .bl true) := by
  obtain ⟨x', e⟩ := shown_loop hP (l := ks.map D.int ++ .int far :: ks2.map D.int) (tail := sh (.int far) :: (ks2.map D.int).map sh) (ks := ks) (acc := []) (x := none) h (by simpa using hl)
  have e1 : ∀ {acc y xs}, forL t1 [4] b_shown (sh (.int far) :: xs) [some (.S, .dct recs), some (.S, .lst (ks.map D.int ++ .int far :: ks2.map D.int)), some (.S, .lst (paths.map D.lst)), some (.T, .lst acc), y, none] = .xc "NoKey" [] [some (.S, .dct recs), some (.S, .lst (ks.map D.int ++ .int far :: ks2.map D.int)), some (.S, .lst (paths.map D.lst)), some (.T, .lst acc), some (.T, .int far), none] := fun {acc y xs} => by
    have e2 : b_shown [some (.S, .dct recs), some (.S, .lst (ks.map D.int ++ .int far :: ks2.map D.int)), some (.S, .lst (paths.map D.lst)), some (.T, .lst acc), some (.T, .int far), none] = .xc "NoKey" [] [some (.S, .dct recs), some (.S, .lst (ks.map D.int ++ .int far :: ks2.map D.int)), some (.S, .lst (paths.map D.lst)), some (.T, .lst acc), some (.T, .int far), none] := by
      have : gIfS [0, 4] (gTest (g2 (gVar 4) (gVar 0) (fun x y => ofO ((fB fun a b => (inD a b).map (!·)) x.2 y.2)))) (gRaise "NoKey") (gPass) [some (.S, .dct recs), some (.S, .lst (ks.map D.int ++ .int far :: ks2.map D.int)), some (.S, .lst (paths.map D.lst)), some (.T, .lst acc), some (.T, .int far), none] = .xc "NoKey" [] [some (.S, .dct recs), some (.S, .lst (ks.map D.int ++ .int far :: ks2.map D.int)), some (.S, .lst (paths.map D.lst)), some (.T, .lst acc), some (.T, .int far), none] :=
        q_ift (by simp [viewF, gTest, g2, gVar, sh_int, sh_dct, fB, inD, keyOf, hf, toB]) rfl
      unfold b_shown gSeq
      rw [this]
    rw [forL.eq_2]
    simp only [t1, sh_int, setsF, List.set_cons_succ, List.set_cons_zero, e2]
  have hs : m_shown [.dct recs, .lst (ks.map D.int ++ .int far :: ks2.map D.int), .lst (paths.map D.lst)] = .xc "NoKey" [] := by
    unfold m_shown g_shown
    have hseq : ∀ {g k : GS} {ρ ρ' : DE}, g ρ = .xc "NoKey" [] ρ' → gSeq g k ρ = .xc "NoKey" [] ρ' := fun h => by unfold gSeq; rw [h]
    refine run_of (q_seq (q_set (x := (.T, .lst [])) ?_ rfl) (hseq (q_for (xs := ks.map (fun k => sh (.int k)) ++ (sh (.int far) :: (ks2.map D.int).map sh)) ?_ ?_ (e.trans e1)))) rfl
    · simp [gLst, lNil, chk, mkL, allT]
    · simp [enter, gItL, gVar, viewF, putV, sh_lst, sh_dct, itemsL]
    · simp [enter, leakF, putV, sh_lst, sh_dct]
  unfold m_refused g_law_refused
  simp [runG, gSeq, gTry, gDrop, enter, viewF, sh_dct, sh_lst, gCall, gCons, gNil, gVar, hs, viaE, leakF, mtN, hN]
end G
end

section
set_option Elab.async false
set_option maxRecDepth 100000
set_option linter.all false
set_option maxHeartbeats 4000000
namespace G
open PySem PySem.Spec
open PyProof.Rows hiding intD
open L2 hiding gCons gNil gLst
open VL
theorem dv_of {i j : Int} (h : 0 < j) (h2 : j.natAbs.log2 < 9000) : divD (.int i) (.int j) = some (.T, .int (i / j)) := by simp only [divD]; rw [if_pos ⟨h, h2⟩]
theorem md_of {i j : Int} (h : 0 < j) : modD (.int i) (.int j) = some (.T, .int (i % j)) := by simp only [modD]; rw [if_pos h]
theorem pw_of {i j : Int} (h : 0 ≤ j ∧ j ≤ 1000000 ∧ i.natAbs < 2 ^ 64) : powD (.int i) (.int j) = some (.T, .int (i ^ j.toNat)) := by simp only [powD]; rw [if_pos h]
theorem ml_of {i j : Int} (h : (-(2 ^ 64) < i ∧ i < 2 ^ 64) ∨ (-(2 ^ 64) < j ∧ j < 2 ^ 64)) : mulD (.int i) (.int j) = some (.T, .int (i * j)) := by simp only [mulD]; rw [if_pos h]
theorem dv_2 (i : Int) : divD (.int i) (.int 2) = some (.T, .int (i / 2)) := dv_of (by decide +kernel) (by decide +kernel)
theorem md_2 (i : Int) : modD (.int i) (.int 2) = some (.T, .int (i % 2)) := md_of (by decide +kernel)
theorem dv_3 (i : Int) : divD (.int i) (.int 3) = some (.T, .int (i / 3)) := dv_of (by decide +kernel) (by decide +kernel)
theorem md_3 (i : Int) : modD (.int i) (.int 3) = some (.T, .int (i % 3)) := md_of (by decide +kernel)
theorem dv_4 (i : Int) : divD (.int i) (.int 4) = some (.T, .int (i / 4)) := dv_of (by decide +kernel) (by decide +kernel)
theorem md_4 (i : Int) : modD (.int i) (.int 4) = some (.T, .int (i % 4)) := md_of (by decide +kernel)
theorem dv_5 (i : Int) : divD (.int i) (.int 5) = some (.T, .int (i / 5)) := dv_of (by decide +kernel) (by decide +kernel)
theorem md_5 (i : Int) : modD (.int i) (.int 5) = some (.T, .int (i % 5)) := md_of (by decide +kernel)
theorem dv_7 (i : Int) : divD (.int i) (.int 7) = some (.T, .int (i / 7)) := dv_of (by decide +kernel) (by decide +kernel)
theorem md_7 (i : Int) : modD (.int i) (.int 7) = some (.T, .int (i % 7)) := md_of (by decide +kernel)
theorem dv_8 (i : Int) : divD (.int i) (.int 8) = some (.T, .int (i / 8)) := dv_of (by decide +kernel) (by decide +kernel)
theorem md_8 (i : Int) : modD (.int i) (.int 8) = some (.T, .int (i % 8)) := md_of (by decide +kernel)
theorem dv_9 (i : Int) : divD (.int i) (.int 9) = some (.T, .int (i / 9)) := dv_of (by decide +kernel) (by decide +kernel)
theorem md_9 (i : Int) : modD (.int i) (.int 9) = some (.T, .int (i % 9)) := md_of (by decide +kernel)
theorem dv_10 (i : Int) : divD (.int i) (.int 10) = some (.T, .int (i / 10)) := dv_of (by decide +kernel) (by decide +kernel)
theorem md_10 (i : Int) : modD (.int i) (.int 10) = some (.T, .int (i % 10)) := md_of (by decide +kernel)
theorem dv_11 (i : Int) : divD (.int i) (.int 11) = some (.T, .int (i / 11)) := dv_of (by decide +kernel) (by decide +kernel)
theorem md_11 (i : Int) : modD (.int i) (.int 11) = some (.T, .int (i % 11)) := md_of (by decide +kernel)
theorem dv_12 (i : Int) : divD (.int i) (.int 12) = some (.T, .int (i / 12)) := dv_of (by decide +kernel) (by decide +kernel)
theorem md_12 (i : Int) : modD (.int i) (.int 12) = some (.T, .int (i % 12)) := md_of (by decide +kernel)
theorem dv_13 (i : Int) : divD (.int i) (.int 13) = some (.T, .int (i / 13)) := dv_of (by decide +kernel) (by decide +kernel)
theorem md_13 (i : Int) : modD (.int i) (.int 13) = some (.T, .int (i % 13)) := md_of (by decide +kernel)
theorem dv_17 (i : Int) : divD (.int i) (.int 17) = some (.T, .int (i / 17)) := dv_of (by decide +kernel) (by decide +kernel)
theorem md_17 (i : Int) : modD (.int i) (.int 17) = some (.T, .int (i % 17)) := md_of (by decide +kernel)
theorem dv_18 (i : Int) : divD (.int i) (.int 18) = some (.T, .int (i / 18)) := dv_of (by decide +kernel) (by decide +kernel)
theorem md_18 (i : Int) : modD (.int i) (.int 18) = some (.T, .int (i % 18)) := md_of (by decide +kernel)
theorem dv_26 (i : Int) : divD (.int i) (.int 26) = some (.T, .int (i / 26)) := dv_of (by decide +kernel) (by decide +kernel)
theorem md_26 (i : Int) : modD (.int i) (.int 26) = some (.T, .int (i % 26)) := md_of (by decide +kernel)
theorem dv_27 (i : Int) : divD (.int i) (.int 27) = some (.T, .int (i / 27)) := dv_of (by decide +kernel) (by decide +kernel)
theorem md_27 (i : Int) : modD (.int i) (.int 27) = some (.T, .int (i % 27)) := md_of (by decide +kernel)
theorem dv_35 (i : Int) : divD (.int i) (.int 35) = some (.T, .int (i / 35)) := dv_of (by decide +kernel) (by decide +kernel)
theorem md_35 (i : Int) : modD (.int i) (.int 35) = some (.T, .int (i % 35)) := md_of (by decide +kernel)
theorem dv_36 (i : Int) : divD (.int i) (.int 36) = some (.T, .int (i / 36)) := dv_of (by decide +kernel) (by decide +kernel)
theorem md_36 (i : Int) : modD (.int i) (.int 36) = some (.T, .int (i % 36)) := md_of (by decide +kernel)
theorem dv_41 (i : Int) : divD (.int i) (.int 41) = some (.T, .int (i / 41)) := dv_of (by decide +kernel) (by decide +kernel)
theorem md_41 (i : Int) : modD (.int i) (.int 41) = some (.T, .int (i % 41)) := md_of (by decide +kernel)
theorem dv_72 (i : Int) : divD (.int i) (.int 72) = some (.T, .int (i / 72)) := dv_of (by decide +kernel) (by decide +kernel)
theorem md_72 (i : Int) : modD (.int i) (.int 72) = some (.T, .int (i % 72)) := md_of (by decide +kernel)
theorem dv_81 (i : Int) : divD (.int i) (.int 81) = some (.T, .int (i / 81)) := dv_of (by decide +kernel) (by decide +kernel)
theorem md_81 (i : Int) : modD (.int i) (.int 81) = some (.T, .int (i % 81)) := md_of (by decide +kernel)
theorem dv_93 (i : Int) : divD (.int i) (.int 93) = some (.T, .int (i / 93)) := dv_of (by decide +kernel) (by decide +kernel)
theorem md_93 (i : Int) : modD (.int i) (.int 93) = some (.T, .int (i % 93)) := md_of (by decide +kernel)
theorem dv_94 (i : Int) : divD (.int i) (.int 94) = some (.T, .int (i / 94)) := dv_of (by decide +kernel) (by decide +kernel)
theorem md_94 (i : Int) : modD (.int i) (.int 94) = some (.T, .int (i % 94)) := md_of (by decide +kernel)
theorem dv_155 (i : Int) : divD (.int i) (.int 155) = some (.T, .int (i / 155)) := dv_of (by decide +kernel) (by decide +kernel)
theorem md_155 (i : Int) : modD (.int i) (.int 155) = some (.T, .int (i % 155)) := md_of (by decide +kernel)
theorem dv_243 (i : Int) : divD (.int i) (.int 243) = some (.T, .int (i / 243)) := dv_of (by decide +kernel) (by decide +kernel)
theorem md_243 (i : Int) : modD (.int i) (.int 243) = some (.T, .int (i % 243)) := md_of (by decide +kernel)
theorem dv_465 (i : Int) : divD (.int i) (.int 465) = some (.T, .int (i / 465)) := dv_of (by decide +kernel) (by decide +kernel)
theorem md_465 (i : Int) : modD (.int i) (.int 465) = some (.T, .int (i % 465)) := md_of (by decide +kernel)
theorem dv_729 (i : Int) : divD (.int i) (.int 729) = some (.T, .int (i / 729)) := dv_of (by decide +kernel) (by decide +kernel)
theorem md_729 (i : Int) : modD (.int i) (.int 729) = some (.T, .int (i % 729)) := md_of (by decide +kernel)
theorem dv_864 (i : Int) : divD (.int i) (.int 864) = some (.T, .int (i / 864)) := dv_of (by decide +kernel) (by decide +kernel)
theorem md_864 (i : Int) : modD (.int i) (.int 864) = some (.T, .int (i % 864)) := md_of (by decide +kernel)
theorem dv_31 (i : Int) : divD (.int i) (.int 31) = some (.T, .int (i / 31)) := dv_of (by decide +kernel) (by decide +kernel)
theorem md_31 (i : Int) : modD (.int i) (.int 31) = some (.T, .int (i % 31)) := md_of (by decide +kernel)
theorem dv_6 (i : Int) : divD (.int i) (.int 6) = some (.T, .int (i / 6)) := dv_of (by decide +kernel) (by decide +kernel)
theorem md_6 (i : Int) : modD (.int i) (.int 6) = some (.T, .int (i % 6)) := md_of (by decide +kernel)
theorem dv_1000003 (i : Int) : divD (.int i) (.int 1000003) = some (.T, .int (i / 1000003)) := dv_of (by decide +kernel) (by decide +kernel)
theorem md_1000003 (i : Int) : modD (.int i) (.int 1000003) = some (.T, .int (i % 1000003)) := md_of (by decide +kernel)
theorem sz_1 : (1 : Nat) ≤ sizeLine := by decide +kernel
theorem sz_2 : (2 : Nat) ≤ sizeLine := by decide +kernel
theorem sz_3 : (3 : Nat) ≤ sizeLine := by decide +kernel
theorem sz_4 : (4 : Nat) ≤ sizeLine := by decide +kernel
theorem sz_7 : (7 : Nat) ≤ sizeLine := by decide +kernel
theorem sz_8 : (8 : Nat) ≤ sizeLine := by decide +kernel
theorem sz_18 : (18 : Nat) ≤ sizeLine := by decide +kernel
theorem ml_r {i j : Int} (h : -(2 ^ 64) < j ∧ j < 2 ^ 64) : mulD (.int i) (.int j) = some (.T, .int (i * j)) := ml_of (.inr h)
theorem ml_l {i j : Int} (h : -(2 ^ 64) < i ∧ i < 2 ^ 64) : mulD (.int i) (.int j) = some (.T, .int (i * j)) := ml_of (.inl h)
theorem ad_i (i j : Int) : addD (.int i) (.int j) = some (.T, .int (i + j)) := rfl
theorem sb_i (i j : Int) : subD (.int i) (.int j) = some (.T, .int (i - j)) := rfl
theorem ix_lst {ds : List D} {i : Int} (h0 : 0 ≤ i) (h : i < ds.length) : ∃ d, d ∈ ds ∧ ixD (.lst ds) (.int i) = some (sh d) := by
  obtain ⟨k, rfl⟩ := Int.eq_ofNat_of_zero_le h0
  have hk : k < ds.length := by omega
  exact ⟨ds[k], List.getElem_mem hk, by rw [ixD_lst]; show (atI ds (k : Int)).map sh = _; rw [atI_nat2 hk]; rfl⟩
theorem ix_str {z : Str} {i : Int} (hz : z.length ≤ sizeLine) (h0 : 0 ≤ i) (h : i < z.length) : ∃ c, ixD (.str z) (.int i) = some (.T, .str ⟨#[c]⟩) := by
  obtain ⟨k, rfl⟩ := Int.eq_ofNat_of_zero_le h0
  have hk : k < z.cps.toList.length := by rw [Array.length_toList]; have : z.length = z.cps.size := rfl; omega
  refine ⟨z.cps.toList[k], ?_⟩
  show (if z.length ≤ sizeLine then (atI z.cps.toList (k : Int)).map fun c => ((.T, .str ⟨#[c]⟩) : FD) else none) = _
  rw [if_pos hz, atI_nat2 hk]; rfl
theorem eq_int (i j : Int) : (fB (eqN 32)) (.int i) (.int j) = some (.T, .bl (i == j)) := rfl
end G
end

section
set_option Elab.async false
set_option maxRecDepth 100000
set_option linter.all false
set_option maxHeartbeats 4000000
namespace G
open PySem PySem.Spec
open PyProof.Rows hiding intD
open L2 hiding gCons gNil gLst
open VL
/-! cells -/
theorem cell_ok {ns : List Int} (hn : ns.length ≤ 1000) {k : Int} (h0 : 0 ≤ k) (h1 : k < 2 ^ 50) : ∃ c, m_cell [.scr ns, .int k] = .ok (.T, .int c) ∧ 0 ≤ c ∧ c < 1000003 := by
  have tail : ∀ m : Int, 0 ≤ m → m < 2 ^ 64 → ∃ c, gRet [2] (g2 (g2 (g2 (g2 (gVar 2) (gVar 2) (fun x y => ofO (mulD x.2 y.2))) (gCon (.int 11)) (fun x y => ofO (divD x.2 y.2))) (g2 (gCon (.int 13)) (gVar 2) (fun x y => ofO (mulD x.2 y.2))) (fun x y => ofO (addD x.2 y.2))) (gCon (.int 1000003)) (fun x y => ofO (modD x.2 y.2))) [some (.S, .scr ns), some (.T, .int k), some (.T, .int m)] = .rt (.T, .int c) ∧ 0 ≤ c ∧ c < 1000003 := fun m hm0 hm1 => by
    refine ⟨(m * m / 11 + 13 * m) % 1000003, q_ret ?_, Int.emod_nonneg _ (by decide), Int.emod_lt_of_pos _ (by decide)⟩
    simp [viewF, g2, gVar, gCon, sh_int, ml_l (i := m) (j := m) ⟨by omega, by omega⟩, ml_l (i := 13) (j := m) ⟨by decide, by decide⟩, dv_11, md_1000003, ad_i]
  have e1 : gSet 2 [1] (g2 (gVar 1) (gCon (.int 7919)) (fun x y => ofO (mulD x.2 y.2))) (enter 3 [.scr ns, .int k]) = .nx [some (.S, .scr ns), some (.T, .int k), some (.T, .int (k * 7919))] := by
    refine q_set (x := (.T, .int (k * 7919))) ?_ rfl
    simp [enter, viewF, g2, gVar, gCon, sh_int, sh_scr, ml_r (i := k) (j := 7919) ⟨by decide, by decide⟩]
  have hq : eqN 32 (.scr ns) (.lst []) = some ns.isEmpty := rfl
  unfold m_cell g_law_cell
  cases hns : ns with
  | nil =>
    subst hns
    obtain ⟨c, hc, b1, b2⟩ := tail (k * 7919) (by omega) (by omega)
    refine ⟨c, run_of (q_seq e1 (q_seq (q_iff ?_ rfl) hc)) rfl, b1, b2⟩
    simp [viewF, gTest, g2, gVar, sh_scr, gLst, lNil, chk, mkL, allT, fB, hq, toB]
  | cons a r =>
    rw [← hns]
    have hl : 0 < ns.length := by rw [hns]; simp
    have hlog : ns.length.log2 < 9000 := Nat.lt_of_le_of_lt (Nat.log2_le_self _) (by omega)
    have hd : divD (.int k) (.int (ns.length : Int)) = some (.T, .int (k / ns.length)) := dv_of (by omega) (by simpa using hlog)
    have hm : modD (.int k) (.int (ns.length : Int)) = some (.T, .int (k % ns.length)) := md_of (by omega)
    obtain ⟨x, hx⟩ : ∃ x, ixD (.scr ns) (.int (k % ns.length)) = some (.T, .int x) := by
      obtain ⟨j, hj⟩ := Int.eq_ofNat_of_zero_le (Int.emod_nonneg k (b := (ns.length : Int)) (by omega))
      have hjl : j < ns.length := by have := Int.emod_lt_of_pos k (b := (ns.length : Int)) (by omega); omega
      refine ⟨ns[j], ?_⟩
      rw [hj]
      show (atI ns (j : Int)).map _ = _
      rw [atI_nat2 hjl]; rfl
    obtain ⟨c, hc, b1, b2⟩ := tail ((k * 7919 + k / ns.length * 104729 + x * 48271) % 1000003) (Int.emod_nonneg _ (by decide)) (Int.lt_trans (Int.emod_lt_of_pos _ (by decide)) (by decide))
    refine ⟨c, run_of (q_seq e1 (q_seq (q_ift ?_ (q_seq (q_set (x := (.T, .int (k * 7919 + k / ns.length * 104729))) ?_ rfl) (q_set (x := (.T, .int ((k * 7919 + k / ns.length * 104729 + x * 48271) % 1000003))) ?_ rfl))) hc)) rfl, b1, b2⟩
    · have : ns.isEmpty = false := by rw [hns]; rfl
      simp [viewF, gTest, g2, gVar, sh_scr, gLst, lNil, chk, mkL, allT, fB, hq, this, toB]
    · simp [viewF, g2, gVar, gCon, gCall, gCons, gNil, sh_scr, sh_int, lenD, oT, hd, ml_r (i := k / ns.length) (j := 104729) ⟨by decide, by decide⟩, ad_i]
    · simp [viewF, putV, g2, gVar, gCon, gCall, gCons, gNil, sh_scr, sh_int, lenD, oT, hm, hx, ml_r (i := x) (j := 48271) ⟨by decide, by decide⟩, ad_i, md_1000003]
end G
end

section
set_option Elab.async false
set_option maxRecDepth 100000
set_option linter.all false
set_option maxHeartbeats 4000000
namespace G
open PySem PySem.Spec
open PyProof.Rows hiding intD
open L2 hiding gCons gNil gLst
open VL
/-! numbers -/
theorem pw_12 : powD (.int 10) (.int 12) = some (.T, .int 1000000000000) := pw_of (by decide +kernel)
theorem pw_11 : powD (.int 10) (.int 11) = some (.T, .int 100000000000) := pw_of (by decide +kernel)
theorem num_ok {c : Int} (h0 : 0 ≤ c) (h1 : c < 2 ^ 60) : ∃ i, m_number_by [.int c] = .ok (.T, .int i) := by
  have p4 : powD (.int c) (.int 4) = some (.T, .int (c ^ 4)) := pw_of ⟨by decide, by decide, by omega⟩
  have pbig : modD (.int (c ^ 4)) (.int (2 * 1000000000000 + 1)) = some (.T, .int (c ^ 4 % (2 * 1000000000000 + 1))) := md_of (by decide +kernel)
  have m2 : mulD (.int 2) (.int 1000000000000) = some (.T, .int (2 * 1000000000000)) := ml_l ⟨by decide, by decide⟩
  unfold m_number_by g_law_number_by
  by_cases a : c % 3 = 0
  · refine ⟨_, run_of (q_rt (q_ift ?_ (q_ret (x := (.T, .int (c / 3 % 41 - 20))) ?_))) rfl⟩
    · simp [enter, viewF, gTest, g2, gVar, gCon, sh_int, md_3, eq_int, a, toB]
    · simp [enter, viewF, g2, gVar, gCon, sh_int, dv_3, md_41, sb_i]
  · by_cases b : c % 3 = 1
    · refine ⟨_, run_of (q_seq (q_iff ?_ rfl) (q_rt (q_ift ?_ (q_ret (x := (.T, .int (c ^ 4 % (2 * 1000000000000 + 1) - 1000000000000))) ?_)))) rfl⟩
      · simp [enter, viewF, gTest, g2, gVar, gCon, sh_int, md_3, eq_int, a, toB]
      · simp [enter, viewF, gTest, g2, gVar, gCon, sh_int, md_3, eq_int, b, toB]
      · simp only [enter, viewF, g2, gVar, gCon, sh_int, List.map_cons, List.map_nil, List.cons_append, List.nil_append, List.getElem?_cons_zero, p4, pw_12, m2, ad_i, pbig, sb_i, Res.bind_ok, ofO_some, List.contains_cons, BEq.rfl, Bool.true_or, or_true, if_true]
    · obtain ⟨d, hd, hx⟩ := ix_lst (ds := [.int 1000000000000, .int (-1000000000000), .int (1000000000000 - 1), .int 0, .int 1, .int (-1), .int 100000000000, .int 999]) (i := c / 3 % 8) (Int.emod_nonneg _ (by decide)) (Int.emod_lt_of_pos _ (by decide))
      have hi : ∃ i, d = .int i := by
        simp only [List.mem_cons, List.not_mem_nil, or_false] at hd
        rcases hd with h | h | h | h | h | h | h | h <;> exact ⟨_, h⟩
      obtain ⟨i, rfl⟩ := hi
      refine ⟨i, run_of (q_seq (q_iff ?_ rfl) (q_seq (q_iff ?_ rfl) (q_ret (x := (.T, .int i)) ?_))) rfl⟩
      · simp [enter, viewF, gTest, g2, gVar, gCon, sh_int, md_3, eq_int, a, toB]
      · simp [enter, viewF, gTest, g2, gVar, gCon, sh_int, md_3, eq_int, b, toB]
      · simp only [enter, viewF, g2, gVar, gCon, sh_int, List.map_cons, List.map_nil, List.cons_append, List.nil_append, List.getElem?_cons_zero, pw_12, pw_11, negD, ad_i, sb_i, Res.bind_ok, ofO_some, List.contains_cons, BEq.rfl, Bool.true_or, or_true, if_true, gLst, lCons, lNil, chk, List.length_cons, List.length_nil, mkL, dv_3, md_8]
        rw [if_pos]
        · simp only [Res.bind_ok, hx, ofO_some, sh_int]
        · decide +kernel
end G
end

section
set_option Elab.async false
set_option maxRecDepth 100000
set_option linter.all false
set_option maxHeartbeats 4000000
namespace G
open PySem PySem.Spec
open PyProof.Rows hiding intD
open L2 hiding gCons gNil gLst
open VL
theorem compL_ex {t : D → Option (List D)} {is : List Nat} {g : GE} {ρ : List (Option D)} (P : FD → Prop) : ∀ {xs : List FD}, (∀ x ∈ xs, ∃ as y, t x.2 = some as ∧ g (setsD ρ is as) = .ok y ∧ P y) → ∃ ys, compL t is cYes g ρ xs = .ok ys ∧ ys.length = xs.length ∧ ∀ y ∈ ys, P y
  | [], _ => ⟨[], rfl, rfl, by simp⟩
  | x :: xs, h => by
    obtain ⟨as, y, h1, h2, h3⟩ := h x List.mem_cons_self
    obtain ⟨ys, e1, e2, e3⟩ := compL_ex P (xs := xs) fun z hz => h z (List.mem_cons_of_mem _ hz)
    refine ⟨y :: ys, ?_, by simp [e2], fun z hz => ?_⟩
    · unfold compL
      rw [h1]
      simp only [cYes, Res.nox_ok, Res.bind_ok, if_true]
      rw [h2, e1]
      rfl
    · rcases List.mem_cons.mp hz with rfl | hz
      · exact h3
      · exact e3 z hz
theorem mem_rng {n : Nat} {x : FD} (h : x ∈ rngD 0 (n : Int)) : ∃ j : Nat, j < n ∧ x = (.T, .int (j : Int)) := by
  unfold rngD at h
  obtain ⟨j, hj, rfl⟩ := List.mem_map.mp h
  refine ⟨j, by simpa using hj, by simp⟩
theorem rng_len (n : Nat) : (rngD 0 (n : Int)).length = n := by unfold rngD; simp
def Sgn (y : FD) : Prop := ∃ c, y = (Fl.T, D.str ⟨#[c]⟩)
theorem signs_list : ∀ {ys : List FD}, (∀ y ∈ ys, Sgn y) → ∃ ss : List Str, ys.map (·.2) = ss.map D.str ∧ (∀ z ∈ ss, z.length = 1) ∧ allT ys = true ∧ ss.length = ys.length
  | [], _ => ⟨[], rfl, by simp, rfl, rfl⟩
  | y :: ys, h => by
    obtain ⟨c, rfl⟩ := h y List.mem_cons_self
    obtain ⟨ss, h1, h2, h3, h4⟩ := signs_list (ys := ys) fun z hz => h z (List.mem_cons_of_mem _ hz)
    refine ⟨⟨#[c]⟩ :: ss, by simp [h1], fun z hz => ?_, by unfold allT at h3 ⊢; simpa using h3, by simp [h4]⟩
    rcases List.mem_cons.mp hz with rfl | hz
    · rfl
    · exact h2 z hz
theorem joinL_len : ∀ {ps : List (List Nat)}, (∀ p ∈ ps, p.length = 1) → (TL.joinL [] ps).length = ps.length
  | [], _ => rfl
  | [p], h => h p List.mem_cons_self
  | p :: q :: r, h => by
    show (p ++ ([] ++ TL.joinL [] (q :: r))).length = _
    rw [List.nil_append, List.length_append, joinL_len fun x hx => h x (List.mem_cons_of_mem _ hx), h p List.mem_cons_self]
    simp; omega
theorem asStrs_map (ss : List Str) : asStrs (ss.map D.str) = some ss := by
  induction ss with
  | nil => rfl
  | cons s ss ih => rw [List.map_cons]; unfold asStrs; rw [ih]; rfl
theorem join_ok {ss : List Str} (h : ∀ z ∈ ss, z.length = 1) (hl : ss.length ≤ 1000) : ∃ s : Str, joinD (.str "") (.lst (ss.map D.str)) = some (.T, .str s) ∧ s.length = ss.length := by
  have hsum : ∀ {l : List Str}, (∀ z ∈ l, z.length = 1) → (l.map fun x => x.length).sum = l.length := by
    intro l
    induction l with
    | nil => intro _; rfl
    | cons a l ih => intro h; simp [h a List.mem_cons_self, ih fun z hz => h z (List.mem_cons_of_mem _ hz)]; omega
  have h0 : ("" : Str).length = 0 := by decide +kernel
  have ht : TL.tl ("" : Str) = [] := by decide +kernel
  refine ⟨Txt.join "" ss, ?_, ?_⟩
  · simp only [joinD, asStrs_map, Option.bind_some, h0, hsum h, Nat.mul_zero, Nat.add_zero]
    rw [if_pos (by omega)]
  · have e := TL.tl_join "" ss
    rw [ht, ← TL.join_eq] at e
    have e2 := congrArg List.length e
    rw [joinL_len (by
      intro p hp
      obtain ⟨z, hz, rfl⟩ := List.mem_map.mp hp
      have := h z hz
      rw [← this]; exact Array.length_toList), List.length_map] at e2
    rw [← e2]; exact (Array.length_toList).symm
theorem rep_ok {z : Str} {n : Int} (hz : z.length ≤ 1) (h0 : 0 ≤ n) (h1 : n ≤ 100) : ∃ s : Str, mulD (.str z) (.int n) = some (.T, .str s) ∧ (s.length : Int) ≤ n := by
  refine ⟨repS z n.toNat, by simp only [mulD]; rw [if_pos ⟨h0, by omega, by omega⟩], ?_⟩
  have e : (repS z n.toNat).length = n.toNat * z.length := by
    show (repS z n.toNat).cps.size = _
    unfold repS
    rw [repS_length]; simp
  rw [e]
  have : n.toNat * z.length ≤ n.toNat * 1 := Nat.mul_le_mul_left _ hz
  omega
theorem cat_ok {a b : Str} (h : a.length + b.length ≤ 1000) : ∃ s : Str, addD (.str a) (.str b) = some (.T, .str s) ∧ s.length = a.length + b.length := by
  refine ⟨a ++ b, ?_, Str.length_append a b⟩
  simp only [addD]; rw [if_pos (Nat.le_trans h (by decide))]
theorem comp_signs {i : Nat} {own : List Nat} {e idx : GE} {ρ : List (Option D)} {z : Str} {n : Nat} {m : Int} (hown : own = [i]) (hi : i < ρ.length) (he : ∃ fl, e ρ = .ok (fl, .int n)) (hn : n < 1000) (hz : z.length ≤ sizeLine) (hm : m = z.length)
    (hv : ∀ j : Nat, j < n → gVar 1 ((wipeD ρ own).set i (some (.int (j : Int)))) = .ok (.T, .str z)) (hx : ∀ j : Nat, j < n → ∃ fl k, idx ((wipeD ρ own).set i (some (.int (j : Int)))) = .ok (fl, .int (k % m))) (hpos : 0 < m) :
    ∃ ss : List Str, gComp own [i] (gItR1 e) t1 cYes (g2 (gVar 1) idx (fun x y => ofO (ixD x.2 y.2))) ρ = .ok (.T, .lst (ss.map D.str)) ∧ (∀ z ∈ ss, z.length = 1) ∧ ss.length = n := by
  obtain ⟨fl, he⟩ := he
  obtain ⟨ys, e1, e2, e3⟩ := compL_ex (t := t1) (is := [i]) (g := g2 (gVar 1) idx (fun x y => ofO (ixD x.2 y.2))) (ρ := wipeD ρ own) Sgn (xs := rngD 0 n) fun x hx' => by
    obtain ⟨j, hj, rfl⟩ := mem_rng hx'
    obtain ⟨fl, k, hk⟩ := hx j hj
    obtain ⟨c, hc⟩ := ix_str (z := z) (i := k % m) hz (Int.emod_nonneg _ (by omega)) (by rw [← hm]; exact Int.emod_lt_of_pos _ hpos)
    refine ⟨[.int (j : Int)], (.T, .str ⟨#[c]⟩), rfl, ?_, c, rfl⟩
    simp only [setsD, g2, hv j hj, hk, Res.bind_ok, hc, ofO_some]
  rw [rng_len] at e2
  obtain ⟨ss, h1, h2, h3, h4⟩ := signs_list e3
  refine ⟨ss, ?_, h2, by omega⟩
  unfold gComp
  rw [q_rng he rfl hn]
  simp only [Res.bind_ok, rng_len, if_pos (td_sz (b := 1000) hn (by decide)), e1, mkL, h3, h1, if_true]
end G
end

section
set_option Elab.async false
set_option maxRecDepth 100000
set_option linter.all false
set_option maxHeartbeats 4000000
namespace G
open PySem PySem.Spec
open PyProof.Rows hiding intD
open L2 hiding gCons gNil gLst
open VL
abbrev letters : Str := "abcdefghijklmnopqrstuvwxyz0123456789"
theorem letters_len : letters.length = 36 := by decide +kernel
theorem sz1q : decide (0 + 1 ≤ sizeLine) = true := by decide +kernel
theorem sz2q : decide (0 + 1 + 1 ≤ sizeLine) = true := by decide +kernel
theorem sz3q : decide (0 + 1 + 1 + 1 ≤ sizeLine) = true := by decide +kernel
theorem fin_rt {o : Fo} {x : FD} (h : o = .rt x) : fin o = .ok x := by rw [h]; rfl
theorem one_len {c : Nat} : (⟨#[c]⟩ : Str).length = 1 := rfl
theorem name_ok {c : Int} (h0 : 0 ≤ c) (h1 : c < 2 ^ 60) : ∃ s : Str, s.length ≤ 12 ∧ m_name_by [.int c] = .ok (.T, .str s) := by
  have hL : letters.length ≤ sizeLine := by rw [letters_len]; decide
  obtain ⟨d, hd, hx⟩ := ix_lst (ds := [.int 1, .int (1 + c / 3 % 4), .int (1 + c / 3 % 12)]) (i := c % 3) (Int.emod_nonneg _ (by decide)) (Int.emod_lt_of_pos _ (by decide))
  obtain ⟨z, rfl, z1, z2⟩ : ∃ z : Int, d = .int z ∧ 1 ≤ z ∧ z ≤ 12 := by
    simp only [List.mem_cons, List.not_mem_nil, or_false] at hd
    rcases hd with h | h | h
    · exact ⟨_, h, by omega, by omega⟩
    · exact ⟨_, h, by omega, by omega⟩
    · exact ⟨_, h, by omega, by omega⟩
  have s1 : gSet 1 [] (gCon (.str "abcdefghijklmnopqrstuvwxyz0123456789")) (enter 8 [.int c]) = .nx [some (.T, .int c), some (.T, .str letters), none, none, none, none, none, none] := q_set (x := (.T, .str letters)) rfl rfl
  unfold m_name_by g_law_name_by
  have s2 : ∀ {k : GS} {r : Res FD}, (∀ o, k [some (.T, .int c), some (.T, .str letters), some (.T, .int z), none, none, none, none, none] = o → fin o = r) → fin (gSeq (gSet 2 [0] (g2 (gLst (lCons (gCon (.int 1)) (lCons (g2 (gCon (.int 1)) (g2 (g2 (gVar 0) (gCon (.int 3)) (fun x y => ofO (divD x.2 y.2))) (gCon (.int 4)) (fun x y => ofO (modD x.2 y.2))) (fun x y => ofO (addD x.2 y.2))) (lCons (g2 (gCon (.int 1)) (g2 (g2 (gVar 0) (gCon (.int 3)) (fun x y => ofO (divD x.2 y.2))) (gCon (.int 12)) (fun x y => ofO (modD x.2 y.2))) (fun x y => ofO (addD x.2 y.2))) (lNil))))) (g2 (gVar 0) (gCon (.int 3)) (fun x y => ofO (modD x.2 y.2))) (fun x y => ofO (ixD x.2 y.2)))) k [some (.T, .int c), some (.T, .str letters), none, none, none, none, none, none]) = r := fun {k r} hk => by
    rw [q_seq (ρ1 := [some (.T, .int c), some (.T, .str letters), some (.T, .int z), none, none, none, none, none]) (q_set (x := (.T, .int z)) ?_ rfl) rfl]
    · exact hk _ rfl
    · show g2 _ _ _ [some (.int c), none, none, none, none, none, none, none] = _
      simp only [g2, gLst, lCons, lNil, gCon, gVar, List.getElem?_cons_zero, sh_int, Res.bind_ok, dv_3, md_4, md_12, md_3, ofO_some, ad_i, chk, List.length_cons, List.length_nil, sz3q, if_true, mkL, List.map_cons, List.map_nil, hx, ofO_some, sh_int]
  by_cases a : c / 36 % 2 = 1
  · obtain ⟨at1, hat⟩ : ∃ at1, at1 = c / 72 % z := ⟨_, rfl⟩
    have a0 : 0 ≤ at1 := by rw [hat]; exact Int.emod_nonneg _ (by omega)
    have a1 : at1 < z := by rw [hat]; exact Int.emod_lt_of_pos _ (by omega)
    obtain ⟨sa, ha, la⟩ := rep_ok (z := "a") (n := at1) (by decide +kernel) a0 (by omega)
    obtain ⟨sb, hb, lb⟩ := rep_ok (z := "a") (n := z - at1 - 1) (by decide +kernel) (by omega) (by omega)
    obtain ⟨ch, hch⟩ := ix_str (z := letters) (i := c / 864 % 26) hL (Int.emod_nonneg _ (by decide)) (by rw [letters_len]; exact Int.lt_trans (Int.emod_lt_of_pos _ (by decide)) (by decide))
    obtain ⟨s2', hs2, l2⟩ := cat_ok (a := sa) (b := ⟨#[ch]⟩) (by rw [one_len]; omega)
    obtain ⟨s3, hs3, l3⟩ := cat_ok (a := s2') (b := sb) (by rw [l2, one_len]; omega)
    rw [one_len] at l2
    refine ⟨s3, by omega, run_of (q_seq s1 rfl) (s2 fun o ho => ?_)⟩
    subst ho
    have md : modD (.int (c / 72)) (.int z) = some (.T, .int at1) := by rw [hat]; exact md_of (by omega)
    refine fin_rt (q_rt (x := (.T, .str s3)) ?_)
    · refine q_ift ?_ (q_seq (q_set (x := (.T, .int at1)) ?_ rfl) (q_seq (q_set (x := (.T, .str s3)) ?_ rfl) rfl))
      · simp [viewF, gTest, g2, gVar, gCon, sh_int, dv_36, md_2, eq_int, a, toB]
      · simp [viewF, g2, gVar, gCon, sh_int, dv_72, md]
      · show g2 _ _ _ [some (.int c), some (.str letters), some (.int z), none, none, some (.int at1), none, none] = _
        simp only [g2, gCon, gVar, List.getElem?_cons_zero, List.getElem?_cons_succ, sh_int, sh_str, Res.bind_ok, ha, dv_864, md_26, hch, ofO_some, hs2, sb_i, hb, hs3]
  · have key : ∀ y : Int, 0 ≤ y → y < 1000 → (g2 (g2 (g2 (gVar 0) (gCon (.int 7)) (fun x y => ofO (divD x.2 y.2))) (g2 (gVar 7) (gVar 3) (fun x y => ofO (mulD x.2 y.2))) (fun x y => ofO (addD x.2 y.2))) (gCon (.int 36)) (fun x y => ofO (modD x.2 y.2))) [some (.int c), some (.str letters), some (.int z), some (.int (1 + c / 11 % 35)), none, none, none, some (.int y)] = .ok (.T, .int ((c / 7 + y * (1 + c / 11 % 35)) % 36)) := fun y y0 y1 => by
      simp only [g2, gVar, gCon, List.getElem?_cons_zero, List.getElem?_cons_succ, sh_int, Res.bind_ok, dv_7, ofO_some, ml_l (i := y) (j := 1 + c / 11 % 35) ⟨by omega, by omega⟩, ad_i, md_36]
    obtain ⟨ss, hc, hs, hlen⟩ := comp_signs (i := 7) (own := [7]) (e := g2 (gVar 2) (gCon (.int 1)) (fun x y => ofO (subD x.2 y.2))) (idx := g2 (g2 (g2 (gVar 0) (gCon (.int 7)) (fun x y => ofO (divD x.2 y.2))) (g2 (gVar 7) (gVar 3) (fun x y => ofO (mulD x.2 y.2))) (fun x y => ofO (addD x.2 y.2))) (gCon (.int 36)) (fun x y => ofO (modD x.2 y.2)))
      (ρ := [some (.int c), some (.str letters), some (.int z), some (.int (1 + c / 11 % 35)), none, none, none, none]) (z := letters) (n := (z - 1).toNat) (m := 36) rfl (by simp) ⟨.T, by
        simp only [g2, gVar, gCon, List.getElem?_cons_zero, List.getElem?_cons_succ, sh_int, Res.bind_ok, sb_i, ofO_some]
        rw [Int.toNat_of_nonneg (by omega)]⟩ (by omega) hL (by rw [letters_len]; rfl) (fun j hj => rfl) (fun j hj => ⟨.T, _, key (j : Int) (by omega) (by omega)⟩) (by decide)
    obtain ⟨sj, hj, lj⟩ := join_ok hs (by omega)
    obtain ⟨ch, hch⟩ := ix_str (z := letters) (i := c / 72 % 26) hL (Int.emod_nonneg _ (by decide)) (by rw [letters_len]; exact Int.lt_trans (Int.emod_lt_of_pos _ (by decide)) (by decide))
    obtain ⟨s2', hs2, l2⟩ := cat_ok (a := ⟨#[ch]⟩) (b := sj) (by rw [one_len]; omega)
    rw [one_len] at l2
    refine ⟨s2', by omega, run_of (q_seq s1 rfl) (s2 fun o ho => ?_)⟩
    subst ho
    refine fin_rt (q_seq (q_iff ?_ rfl) (q_seq (q_set (x := (.T, .int (1 + c / 11 % 35))) ?_ rfl) (q_seq (q_set (x := (.T, .lst (ss.map D.str))) hc rfl) (q_ret (x := (.T, .str s2')) ?_))))
    · simp [viewF, gTest, g2, gVar, gCon, sh_int, dv_36, md_2, eq_int, a, toB]
    · simp [viewF, g2, gVar, gCon, sh_int, dv_11, md_35, ad_i]
    · show g2 _ _ _ [some (.int c), some (.str letters), none, none, some (.lst (ss.map D.str)), none, none, none] = _
      simp only [g2, gCon, gVar, List.getElem?_cons_zero, List.getElem?_cons_succ, sh_int, sh_str, sh_lst, Res.bind_ok, dv_72, md_26, hch, ofO_some, gJoin, hj, hs2]
end G
end

section
set_option Elab.async false
set_option maxRecDepth 100000
set_option linter.all false
set_option maxHeartbeats 4000000
namespace G
open PySem PySem.Spec
open PyProof.Rows hiding intD
open L2 hiding gCons gNil gLst
open VL
theorem signs_ok : ∃ z : Str, m_signs [] = .ok (.T, .str z) ∧ z.length = 94 := by
  refine ⟨" !\"#$&'()*+,-./0123456789:;<=>?@ABCDEFGHIJKLMNOPQRSTUVWXYZ[\\]^_`" ++ "abcdefghijklmnopqrstuvwxyz{|}~", ?_, by decide +kernel⟩
  unfold m_signs g_law_signs
  refine run_of (q_seq (q_set (x := (.T, .str " !\"#$&'()*+,-./0123456789:;<=>?@ABCDEFGHIJKLMNOPQRSTUVWXYZ[\\]^_`")) rfl rfl) (q_ret (x := (.T, .str _)) ?_)) rfl
  have hl : (" !\"#$&'()*+,-./0123456789:;<=>?@ABCDEFGHIJKLMNOPQRSTUVWXYZ[\\]^_`" : Str).length + ("abcdefghijklmnopqrstuvwxyz{|}~" : Str).length ≤ sizeLine := by decide +kernel
  show g2 _ _ _ [some (.str _)] = _
  simp only [g2, gVar, gCon, List.getElem?_cons_zero, sh_str, Res.bind_ok, addD, if_pos hl, ofO_some]
theorem text_ok {c : Int} (h0 : 0 ≤ c) (h1 : c < 2 ^ 60) : ∃ s : Str, m_text_by [.int c] = .ok (.T, .str s) := by
  obtain ⟨sg, hsg, lsg⟩ := signs_ok
  have hL : sg.length ≤ sizeLine := by rw [lsg]; decide
  obtain ⟨d, hd, hx⟩ := ix_lst (ds := [.int (c / 5 % 4), .int (c / 5 % 9), .int (c / 5 % 31)]) (i := c % 3) (Int.emod_nonneg _ (by decide)) (Int.emod_lt_of_pos _ (by decide))
  obtain ⟨z, rfl, z1, z2⟩ : ∃ z : Int, d = .int z ∧ 0 ≤ z ∧ z ≤ 30 := by
    simp only [List.mem_cons, List.not_mem_nil, or_false] at hd
    rcases hd with h | h | h
    · exact ⟨_, h, by omega, by omega⟩
    · exact ⟨_, h, by omega, by omega⟩
    · exact ⟨_, h, by omega, by omega⟩
  unfold m_text_by g_law_text_by
  have s1 : gSet 1 [] (gCall gNil m_signs) (enter 7 [.int c]) = .nx [some (.T, .int c), some (.T, .str sg), none, none, none, none, none] := q_set (x := (.T, .str sg)) (by simp only [gCall, gNil, Res.bind_ok, hsg]) rfl
  have s2 : g2 (gLst (lCons (g2 (g2 (gVar 0) (gCon (.int 5)) (fun x y => ofO (divD x.2 y.2))) (gCon (.int 4)) (fun x y => ofO (modD x.2 y.2))) (lCons (g2 (g2 (gVar 0) (gCon (.int 5)) (fun x y => ofO (divD x.2 y.2))) (gCon (.int 9)) (fun x y => ofO (modD x.2 y.2))) (lCons (g2 (g2 (gVar 0) (gCon (.int 5)) (fun x y => ofO (divD x.2 y.2))) (gCon (.int 31)) (fun x y => ofO (modD x.2 y.2))) (lNil))))) (g2 (gVar 0) (gCon (.int 3)) (fun x y => ofO (modD x.2 y.2))) (fun x y => ofO (ixD x.2 y.2)) [some (.int c), none, none, none, none, none, none] = .ok (.T, .int z) := by
    simp only [g2, gLst, lCons, lNil, gCon, gVar, List.getElem?_cons_zero, sh_int, Res.bind_ok, dv_5, md_4, md_9, md_31, md_3, ofO_some, chk, List.length_cons, List.length_nil, sz3q, if_true, mkL, List.map_cons, List.map_nil, hx]
  by_cases a : c / 155 % 3 = 1
  · obtain ⟨ch, hch⟩ := ix_str (z := sg) (i := c / 465 % 94) hL (Int.emod_nonneg _ (by decide)) (by rw [lsg]; exact Int.emod_lt_of_pos _ (by decide))
    obtain ⟨sa, ha, la⟩ := rep_ok (z := "'") (n := z / 2) (by decide +kernel) (by omega) (by omega)
    obtain ⟨sb, hb, lb⟩ := rep_ok (z := ⟨#[ch]⟩) (n := z - z / 2) (by rw [one_len]; omega) (by omega) (by omega)
    obtain ⟨s3, hs3, l3⟩ := cat_ok (a := sa) (b := sb) (by omega)
    refine ⟨s3, run_of (q_seq s1 (q_seq (q_set (x := (.T, .int z)) s2 rfl) (q_rt (x := (.T, .str s3)) (q_ift ?_ (q_seq (q_set (x := (.T, .int (z / 2))) ?_ rfl) (q_seq (q_set (x := (.T, .str ⟨#[ch]⟩)) ?_ rfl) (q_ret ?_))))))) rfl⟩
    · simp [viewF, putV, gTest, g2, gVar, gCon, sh_int, dv_155, md_3, eq_int, a, toB]
    · show g2 _ _ _ [none, none, some (.int z), none, none, none, none] = _
      simp only [g2, gVar, gCon, List.getElem?_cons_zero, List.getElem?_cons_succ, sh_int, Res.bind_ok, dv_2, ofO_some]
    · show g2 _ _ _ [some (.int c), some (.str sg), none, none, none, none, none] = _
      simp only [g2, gVar, gCon, List.getElem?_cons_zero, List.getElem?_cons_succ, sh_int, sh_str, Res.bind_ok, dv_465, md_94, hch, ofO_some]
    · show g2 _ _ _ [none, none, some (.int z), none, some (.int (z / 2)), some (.str ⟨#[ch]⟩), none] = _
      simp only [g2, gVar, gCon, List.getElem?_cons_zero, List.getElem?_cons_succ, sh_int, sh_str, Res.bind_ok, sb_i, ha, hb, hs3, ofO_some]
  · have key : ∀ y : Int, 0 ≤ y → y < 1000 → (g2 (g2 (g2 (gVar 0) (gCon (.int 7)) (fun x y => ofO (divD x.2 y.2))) (g2 (gVar 6) (gVar 3) (fun x y => ofO (mulD x.2 y.2))) (fun x y => ofO (addD x.2 y.2))) (gCon (.int 94)) (fun x y => ofO (modD x.2 y.2))) [some (.int c), some (.str sg), some (.int z), some (.int (1 + c / 13 % 93)), none, none, some (.int y)] = .ok (.T, .int ((c / 7 + y * (1 + c / 13 % 93)) % 94)) := fun y y0 y1 => by
      simp only [g2, gVar, gCon, List.getElem?_cons_zero, List.getElem?_cons_succ, sh_int, Res.bind_ok, dv_7, ofO_some, ml_l (i := y) (j := 1 + c / 13 % 93) ⟨by omega, by omega⟩, ad_i, md_94]
    obtain ⟨ss, hc, hs, hlen⟩ := comp_signs (i := 6) (own := [6]) (e := gVar 2) (idx := g2 (g2 (g2 (gVar 0) (gCon (.int 7)) (fun x y => ofO (divD x.2 y.2))) (g2 (gVar 6) (gVar 3) (fun x y => ofO (mulD x.2 y.2))) (fun x y => ofO (addD x.2 y.2))) (gCon (.int 94)) (fun x y => ofO (modD x.2 y.2)))
      (ρ := [some (.int c), some (.str sg), some (.int z), some (.int (1 + c / 13 % 93)), none, none, none]) (z := sg) (n := z.toNat) (m := 94) rfl (by simp) ⟨.T, by
        simp only [gVar, List.getElem?_cons_zero, List.getElem?_cons_succ, sh_int]
        rw [Int.toNat_of_nonneg z1]⟩ (by omega) hL (by rw [lsg]; rfl) (fun j hj => rfl) (fun j hj => ⟨.T, _, key (j : Int) (by omega) (by omega)⟩) (by decide)
    obtain ⟨sj, hj, lj⟩ := join_ok hs (by omega)
    refine ⟨sj, run_of (q_seq s1 (q_seq (q_set (x := (.T, .int z)) s2 rfl) (q_seq (q_iff ?_ rfl) (q_seq (q_set (x := (.T, .int (1 + c / 13 % 93))) ?_ rfl) (q_ret (x := (.T, .str sj)) ?_))))) rfl⟩
    · simp [viewF, putV, gTest, g2, gVar, gCon, sh_int, dv_155, md_3, eq_int, a, toB]
    · simp [viewF, putV, g2, gVar, gCon, sh_int, dv_13, md_93, ad_i]
    · show gJoin _ _ [some (.int c), some (.str sg), some (.int z), some (.int (1 + c / 13 % 93)), none, none, none] = _
      simp only [gJoin, gCon, Res.bind_ok, hc, hj, ofO_some]
end G
end

section
set_option Elab.async false
set_option maxRecDepth 100000
set_option linter.all false
set_option maxHeartbeats 4000000
namespace G
open PySem PySem.Spec
open PyProof.Rows hiding intD
open L2 hiding gCons gNil gLst
open VL
abbrev c_thing (mt : List D → Res FD) : GE := gComp [7] [7] (gItR1 (g2 (g2 (gVar 3) (gCon (.int 9)) (fun x y => ofO (divD x.2 y.2))) (gCon (.int 5)) (fun x y => ofO (modD x.2 y.2)))) t1 (cYes) (gCall (gCons (gVar 0) (gCons (g2 (g2 (g2 (gVar 1) (gCon (.int 5)) (fun x y => ofO (mulD x.2 y.2))) (gCon (.int 1)) (fun x y => ofO (addD x.2 y.2))) (gVar 7) (fun x y => ofO (addD x.2 y.2))) (gCons (g2 (gVar 2) (gCon (.int 1)) (fun x y => ofO (subD x.2 y.2))) (gNil)))) mt)
abbrev b_thing : GS := gSetIt 6 [0, 1, 5, 7] (gCall (gCons (g2 (g2 (gCall (gCons (gVar 0) (gCons (g2 (g2 (g2 (gVar 1) (gCon (.int 5)) (fun x y => ofO (mulD x.2 y.2))) (gCon (.int 1)) (fun x y => ofO (addD x.2 y.2))) (gVar 7) (fun x y => ofO (addD x.2 y.2))) (gNil))) m_cell) (gCon (.int 9)) (fun x y => ofO (divD x.2 y.2))) (gVar 7) (fun x y => ofO (addD x.2 y.2))) (gNil)) m_name_by) (g2 (gVar 5) (gVar 7) (fun x y => ofO (ixD x.2 y.2)))
abbrev r_thing (mt : List D → Res FD) : GS := gSeq (gSet 5 [0, 1, 2, 3] (c_thing mt)) (gSeq (gIfS [4] (gTest (g2 (gVar 4) (gCon (.int 7)) (fun x y => ofO ((fB ltD) x.2 y.2)))) (gRetV 5) (gPass)) (gSeq (gSet 6 [] (gCon (.dct []))) (gSeq (gFor [5] [7] (gItR1 (gCall (gCons (gVar 5) (gNil)) (fun ds => ofO (lenD ds)))) t1 b_thing) (gRetV 6))))
theorem fin_seq {g k : GS} {ρ ρ1 : DE} {r : Res FD} (h : g ρ = .nx ρ1) (h2 : fin (k ρ1) = r) : fin (gSeq g k ρ) = r := by rw [q_seq h rfl]; exact h2
theorem fin_q {g k : GS} {ρ : DE} {x : FD} (h : g ρ = .rt x) : fin (gSeq g k ρ) = .ok x := by rw [q_rt h]; rfl
theorem runG_fin {n : Nat} {g : GS} {ds : List D} {r : Res FD} (h : fin (g (enter n ds)) = r) : runG n g ds = r := run_of rfl h
theorem g2_ok {ga gb : GE} {f : FD → FD → Res FD} {ρ : List (Option D)} {x y : FD} (ha : ga ρ = .ok x) (hb : gb ρ = .ok y) : g2 ga gb f ρ = f x y := by unfold g2; rw [ha, Res.bind_ok, hb, Res.bind_ok]
theorem thing_head {mt : List D → Res FD} {ns : List Int} {k deep c q : Int} {n : Nat} (hc : m_cell [.scr ns, .int k] = .ok (.T, .int c)) (h0 : 0 ≤ c) (h1 : c < 1000003)
    (hq : g2 (gLst (lCons (gCon (.int 5)) (lCons (gCon (.int 9)) (lNil)))) (gCall (gCons (g2 (gVar 2) (gCon (.int 0)) (fun x y => ofO ((fB gtD) x.2 y.2))) (gNil)) (fun ds => ofO (intD ds))) (fun x y => ofO (ixD x.2 y.2)) [some (.scr ns), none, some (.int deep), some (.int c), none, none, none, none] = .ok (.T, .int q)) (hq0 : 0 < q)
    (rest : 5 ≤ c % q → ∃ fl d, fin (r_thing mt [some (.S, .scr ns), some (.T, .int k), some (.T, .int deep), some (.T, .int c), some (.T, .int (c % q)), none, none, none]) = .ok (fl, d) ∧ TD 20 n d) :
    ∃ fl d, runG 8 (g_law_thing_by m_cell m_number_by m_text_by mt m_name_by) [.scr ns, .int k, .int deep] = .ok (fl, d) ∧ TD 20 n d := by
  have e1 : gSet 3 [0, 1] (gCall (gCons (gVar 0) (gCons (gVar 1) (gNil))) m_cell) (enter 8 [.scr ns, .int k, .int deep]) = .nx [some (.S, .scr ns), some (.T, .int k), some (.T, .int deep), some (.T, .int c), none, none, none, none] := by
    refine q_set (x := (.T, .int c)) ?_ rfl
    show gCall _ _ [some (.scr ns), some (.int k), none, none, none, none, none, none] = _
    simp only [gCall, gCons, gNil, gVar, List.getElem?_cons_zero, List.getElem?_cons_succ, sh_int, sh_scr, Res.bind_ok, hc]
  have e2 : gSet 4 [2, 3] (g2 (gVar 3) (g2 (gLst (lCons (gCon (.int 5)) (lCons (gCon (.int 9)) (lNil)))) (gCall (gCons (g2 (gVar 2) (gCon (.int 0)) (fun x y => ofO ((fB gtD) x.2 y.2))) (gNil)) (fun ds => ofO (intD ds))) (fun x y => ofO (ixD x.2 y.2))) (fun x y => ofO (modD x.2 y.2))) [some (.S, .scr ns), some (.T, .int k), some (.T, .int deep), some (.T, .int c), none, none, none, none] = .nx [some (.S, .scr ns), some (.T, .int k), some (.T, .int deep), some (.T, .int c), some (.T, .int (c % q)), none, none, none] := by
    refine q_set (x := (.T, .int (c % q))) ?_ rfl
    rw [show viewF [2, 3] 0 [some (.S, .scr ns), some (.T, .int k), some (.T, .int deep), some (.T, .int c), none, none, none, none] = [some (.scr ns), none, some (.int deep), some (.int c), none, none, none, none] from rfl]
    rw [g2_ok (x := (.T, .int c)) (y := (.T, .int q)) rfl hq]
    simp only [md_of hq0, ofO_some]
  have c9 : 0 ≤ c / 9 ∧ c / 9 < 2 ^ 60 := by omega
  have v3 : viewF [3] 0 [some (.S, .scr ns), some (.T, .int k), some (.T, .int deep), some (.T, .int c), some (.T, .int (c % q)), none, none, none] = [some (.scr ns), none, none, some (.int c), none, none, none, none] := rfl
  have v4 : viewF [4] 0 [some (.S, .scr ns), some (.T, .int k), some (.T, .int deep), some (.T, .int c), some (.T, .int (c % q)), none, none, none] = [some (.scr ns), none, none, none, some (.int (c % q)), none, none, none] := rfl
  have t0 : ∀ b, (c % q == 0) = b → gTest (g2 (gVar 4) (gCon (.int 0)) (fun x y => ofO ((fB (eqN 32)) x.2 y.2))) [some (.scr ns), none, none, none, some (.int (c % q)), none, none, none] = .ok b := fun b hb => by
    simp only [gTest, g2, gVar, gCon, List.getElem?_cons_zero, List.getElem?_cons_succ, sh_int, Res.bind_ok, eq_int, ofO_some, toB, hb]
  have tl : ∀ (y : Int) b, decide (c % q < y) = b → gTest (g2 (gVar 4) (gCon (.int y)) (fun x y => ofO ((fB ltD) x.2 y.2))) [some (.scr ns), none, none, none, some (.int (c % q)), none, none, none] = .ok b := fun y b hb => by
    simp only [gTest, g2, gVar, gCon, List.getElem?_cons_zero, List.getElem?_cons_succ, sh_int, Res.bind_ok, fB, ltD, Option.map_some, ofO_some, toB, hb]
  by_cases a0 : c % q = 0
  · obtain ⟨d, hd, hx⟩ := ix_lst (ds := [.non, .bl true, .bl false]) (i := c / 9 % 3) (Int.emod_nonneg _ (by decide)) (Int.emod_lt_of_pos _ (by decide))
    refine ⟨(sh d).1, d, runG_fin ?_, ?_⟩
    · unfold g_law_thing_by
      refine fin_seq e1 (fin_seq e2 (fin_q (q_ift (by rw [v4]; exact t0 true (by simpa using a0)) (q_ret ?_))))
      rw [v3]
      simp only [g2, gLst, lCons, lNil, gCon, gVar, List.getElem?_cons_zero, List.getElem?_cons_succ, sh_int, Res.bind_ok, dv_9, md_3, ofO_some, chk, List.length_cons, List.length_nil, sz3q, if_true, mkL, List.map_cons, List.map_nil, hx]
      rfl
    · simp only [List.mem_cons, List.not_mem_nil, or_false] at hd
      rcases hd with h | h | h <;> rw [h] <;> cases n <;> trivial
  · by_cases a3 : c % q < 3
    · obtain ⟨i, hi⟩ := num_ok c9.1 c9.2
      refine ⟨.T, .int i, runG_fin ?_, by cases n <;> trivial⟩
      unfold g_law_thing_by
      refine fin_seq e1 (fin_seq e2 (fin_seq (q_iff (by rw [v4]; exact t0 false (by simpa using a0)) rfl) (fin_q (q_ift (by rw [v4]; exact tl 3 true (by simpa using a3)) (q_ret ?_)))))
      rw [v3]
      simp only [gCall, gCons, gNil, g2, gCon, gVar, List.getElem?_cons_zero, List.getElem?_cons_succ, sh_int, Res.bind_ok, dv_9, ofO_some, hi]
    · by_cases a5 : c % q < 5
      · obtain ⟨i, hi⟩ := text_ok c9.1 c9.2
        refine ⟨.T, .str i, runG_fin ?_, by cases n <;> trivial⟩
        unfold g_law_thing_by
        refine fin_seq e1 (fin_seq e2 (fin_seq (q_iff (by rw [v4]; exact t0 false (by simpa using a0)) rfl) (fin_seq (q_iff (by rw [v4]; exact tl 3 false (by simpa using a3)) rfl) (fin_q (q_ift (by rw [v4]; exact tl 5 true (by simpa using a5)) (q_ret ?_))))))
        rw [v3]
        simp only [gCall, gCons, gNil, g2, gCon, gVar, List.getElem?_cons_zero, List.getElem?_cons_succ, sh_int, Res.bind_ok, dv_9, ofO_some, hi]
      · obtain ⟨fl, d, hr, ht⟩ := rest (by omega)
        refine ⟨fl, d, runG_fin ?_, ht⟩
        unfold g_law_thing_by
        exact fin_seq e1 (fin_seq e2 (fin_seq (q_iff (by rw [v4]; exact t0 false (by simpa using a0)) rfl) (fin_seq (q_iff (by rw [v4]; exact tl 3 false (by simpa using a3)) rfl) (fin_seq (q_iff (by rw [v4]; exact tl 5 false (by simpa using a5)) rfl) hr))))
end G
end

section
set_option Elab.async false
set_option maxRecDepth 100000
set_option linter.all false
set_option maxHeartbeats 4000000
namespace G
open PySem PySem.Spec
open PyProof.Rows hiding intD
open L2 hiding gCons gNil gLst
open VL
/-- a record under way: text keys, things -/
structure Rec (b n : Nat) (l : Nat) (cur : List (Key × D)) : Prop where
  len : cur.length ≤ l
  nd : (cur.map (·.1)).Nodup
  ks : ∃ ks : List Str, cur.map (·.1) = ks.map Sum.inr
  td : ∀ kv ∈ cur, TD b n kv.2
theorem Rec.nil {b n : Nat} : Rec b n 0 [] := ⟨Nat.le_refl _, by simp, ⟨[], rfl⟩, by simp⟩
theorem Rec.put {b n l : Nat} {cur : List (Key × D)} (h : Rec b n l cur) {s : Str} {d : D} (hd : TD b n d) : Rec b n (l + 1) (putD cur (.inr s) d) := by
  obtain ⟨h1, h2, ⟨ks, h3⟩, h4⟩ := h
  refine ⟨Nat.le_trans (putD_length _ _ _) (Nat.succ_le_succ h1), putD_nodup _ _ h2, ?_, fun kv hkv => (mem_put hkv).elim (h4 kv) fun e => by rw [e]; exact hd⟩
  rw [putD_keys]
  split
  · exact ⟨ks, h3⟩
  · exact ⟨ks ++ [s], by rw [h3]; simp⟩
theorem Rec.thing {b n l : Nat} {cur : List (Key × D)} (h : Rec b n l cur) (hl : l < b) : TD b (n + 1) (.dct cur) := ⟨Nat.lt_of_le_of_lt h.len hl, h.nd, h.ks, h.td⟩
/-- an entry set in a dict that a slot owns -/
theorem q_setit {i : Nat} {vs : List Nat} {gk ge : GE} {ρ : DE} {f : Fl} {cur : List (Key × D)} {s : Str} {fk : Fl} {y : FD} {k : Key} {kd : D} (hρ : ρ[i]? = some (some (f, .dct cur))) (hf : f ≠ .S) (hv : ge (viewF vs 0 ρ) = .ok y) (hk : gk (viewF vs 0 ρ) = .ok (fk, kd)) (hkk : keyOf kd = some k) (hlk : leakF vs 0 ρ = ρ) (hc : vs.contains i = false) (hl : cur.length < sizeLine) :
    ∃ f', f' ≠ .S ∧ gSetIt i vs gk ge ρ = .nx (ρ.set i (some (f', .dct (putD cur k y.2)))) := by
  have e : gSetIt i vs gk ge ρ = mutV i vs ρ f y (.dct (putD cur k y.2)) := by
    unfold gSetIt
    rw [hρ]
    simp only [hv, viaE, hk, setD, hkk, Option.bind_some, if_pos hl]
  rw [e]
  unfold mutV
  by_cases h : f = .T ∧ y.1 = .T
  · rw [if_pos h]; exact ⟨.T, by decide, rfl⟩
  · rw [if_neg h, if_pos ⟨hf, .inr hc⟩]
    refine ⟨.R, by decide, ?_⟩
    have : envP vs ρ y = ρ := by
      unfold envP
      cases y.1 <;> first | rfl | exact hlk
    rw [this]
theorem ix_nat {ds : List D} {j : Nat} (h : j < ds.length) : ixD (.lst ds) (.int (j : Int)) = some (sh ds[j]) := by
  rw [ixD_lst, atI_nat2 h]; rfl
theorem pow8 (n : Nat) : (0 : Int) < 8 ^ n := Int.pow_pos (by decide)
theorem thing_ok {ns : List Int} (hn : ns.length ≤ 1000) : ∀ (n f : Nat) (k deep : Int), n < f → deep = n → 0 ≤ k → (k + 1) * 8 ^ n < 2 ^ 45 → ∃ fl d, m_thing_by f [.scr ns, .int k, .int deep] = .ok (fl, d) ∧ TD 20 n d
  | n, 0, k, deep, h, _, _, _ => absurd h (Nat.not_lt_zero _)
  | 0, f + 1, k, deep, h, hd, h0, h1 => by
    have h1 : k + 1 < 2 ^ 45 := by simpa using h1
    obtain ⟨c, hc, c0, c1⟩ := cell_ok hn h0 (k := k) (by omega)
    have hd : deep = 0 := by simpa using hd
    refine thing_head (q := 5) hc c0 c1 ?_ (by decide) fun h5 => ?_
    · simp only [g2, gLst, lCons, lNil, gCon, gVar, gCall, gCons, gNil, List.getElem?_cons_zero, List.getElem?_cons_succ, sh_int, Res.bind_ok, ofO_some, chk, List.length_cons, List.length_nil, sz2q, if_true, mkL, List.map_cons, List.map_nil, fB, gtD, Option.map_some, intD, oT]
      rw [hd]
      rfl
    · have := Int.emod_lt_of_pos c (b := 5) (by decide); omega
  | n + 1, f + 1, k, deep, h, hd, h0, h1 => by
    have p8 := pow8 n
    have p8' := pow8 (n + 1)
    have hk45 : k + 1 < 2 ^ 45 := by
      have h2 : (k + 1) * 1 ≤ (k + 1) * 8 ^ (n + 1) := Int.mul_le_mul_of_nonneg_left (by omega) (by omega)
      omega
    obtain ⟨c, hc, c0, c1⟩ := cell_ok hn h0 (k := k) (by omega)
    have hpos : 0 < deep := by omega
    refine thing_head (q := 9) hc c0 c1 ?_ (by decide) fun h5 => ?_
    · simp only [g2, gLst, lCons, lNil, gCon, gVar, gCall, gCons, gNil, List.getElem?_cons_zero, List.getElem?_cons_succ, sh_int, Res.bind_ok, ofO_some, chk, List.length_cons, List.length_nil, sz2q, if_true, mkL, List.map_cons, List.map_nil, fB, gtD, Option.map_some, intD, oT, decide_eq_true hpos]
      rfl
    · obtain ⟨N, hN⟩ := Int.eq_ofNat_of_zero_le (show 0 ≤ c / 9 % 5 by omega)
      have hN5 : N < 5 := by omega
      have child : ∀ y : Int, 0 ≤ y → y < 5 → ∃ fl d, m_thing_by f [.scr ns, .int (k * 5 + 1 + y), .int (deep - 1)] = .ok (fl, d) ∧ TD 20 n d := fun y y0 y1 => by
        refine thing_ok hn n f (k * 5 + 1 + y) (deep - 1) (Nat.lt_of_succ_lt_succ h) (by omega) (by omega) ?_
        have h2 : (k * 5 + 1 + y + 1) * 8 ^ n ≤ ((k + 1) * 8) * 8 ^ n := Int.mul_le_mul_of_nonneg_right (by omega) (Int.le_of_lt p8)
        rw [Int.pow_succ] at h1
        have h3 : (k + 1) * 8 * 8 ^ n = (k + 1) * (8 ^ n * 8) := by rw [Int.mul_assoc, Int.mul_comm 8 (8 ^ n)]
        omega
      have arg : ∀ y : Int, gCall (gCons (gVar 0) (gCons (g2 (g2 (g2 (gVar 1) (gCon (.int 5)) (fun x y => ofO (mulD x.2 y.2))) (gCon (.int 1)) (fun x y => ofO (addD x.2 y.2))) (gVar 7) (fun x y => ofO (addD x.2 y.2))) (gCons (g2 (gVar 2) (gCon (.int 1)) (fun x y => ofO (subD x.2 y.2))) (gNil)))) (m_thing_by f) [some (.scr ns), some (.int k), some (.int deep), some (.int c), none, none, none, some (.int y)] = m_thing_by f [.scr ns, .int (k * 5 + 1 + y), .int (deep - 1)] := fun y => by
        simp only [gCall, gCons, gNil, g2, gVar, gCon, List.getElem?_cons_zero, List.getElem?_cons_succ, sh_int, sh_scr, Res.bind_ok, ml_r (i := k) (j := 5) ⟨by decide, by decide⟩, ad_i, sb_i, ofO_some]
      obtain ⟨ys, e1, e2, e3⟩ := compL_ex (t := t1) (is := [7]) (g := gCall (gCons (gVar 0) (gCons (g2 (g2 (g2 (gVar 1) (gCon (.int 5)) (fun x y => ofO (mulD x.2 y.2))) (gCon (.int 1)) (fun x y => ofO (addD x.2 y.2))) (gVar 7) (fun x y => ofO (addD x.2 y.2))) (gCons (g2 (gVar 2) (gCon (.int 1)) (fun x y => ofO (subD x.2 y.2))) (gNil)))) (m_thing_by f)) (ρ := [some (.scr ns), some (.int k), some (.int deep), some (.int c), none, none, none, none]) (fun y => TD 20 n y.2) (xs := rngD 0 N) fun x hx => by
        obtain ⟨j, hj, rfl⟩ := mem_rng hx
        obtain ⟨fl, d, h1, h2⟩ := child (j : Int) (by omega) (by omega)
        exact ⟨[.int (j : Int)], (fl, d), rfl, (arg (j : Int)).trans h1, h2⟩
      rw [rng_len] at e2
      obtain ⟨ds, hds⟩ : ∃ ds, ds = ys.map (·.2) := ⟨_, rfl⟩
      have hdl : ds.length = N := by rw [hds, List.length_map, e2]
      have hdt : ∀ d ∈ ds, TD 20 n d := fun d hd => by
        rw [hds] at hd
        obtain ⟨y, hy, rfl⟩ := List.mem_map.mp hd
        exact e3 y hy
      obtain ⟨fl, hfl⟩ : ∃ fl, mkL ys = (fl, .lst ds) := ⟨_, by unfold mkL; rw [hds]⟩
      have hcomp : c_thing (m_thing_by f) [some (.scr ns), some (.int k), some (.int deep), some (.int c), none, none, none, none] = .ok (fl, .lst ds) := by
        unfold c_thing gComp
        rw [q_rng (fl := .T) (n := N) (i := c / 9 % 5) (by simp only [g2, gVar, gCon, List.getElem?_cons_zero, List.getElem?_cons_succ, sh_int, Res.bind_ok, dv_9, md_5, ofO_some]) hN (by omega)]
        rw [Res.bind_ok, if_pos (by rw [rng_len]; exact td_sz (b := 1000) (by omega) (by decide))]
        have ew : wipeD [some (.scr ns), some (.int k), some (.int deep), some (.int c), none, none, none, none] [7] = [some (.scr ns), some (.int k), some (.int deep), some (.int c), none, none, none, none] := rfl
        rw [ew, e1, Res.bind_ok, hfl]
      have s5 : gSet 5 [0, 1, 2, 3] (c_thing (m_thing_by f)) [some (.S, .scr ns), some (.T, .int k), some (.T, .int deep), some (.T, .int c), some (.T, .int (c % 9)), none, none, none] = .nx [some (.S, .scr ns), some (.T, .int k), some (.T, .int deep), some (.T, .int c), some (.T, .int (c % 9)), some (fl, .lst ds), none, none] := by
        refine q_set (x := (fl, .lst ds)) hcomp ?_
        cases fl <;> rfl
      by_cases h7 : c % 9 < 7
      · refine ⟨fl, .lst ds, fin_seq s5 (fin_q (q_ift (g := gRetV 5) ?_ rfl)), ⟨by omega, hdt⟩⟩
        have : ∀ fl : Fl, viewF [4] 0 [some (.S, .scr ns), some (.T, .int k), some (.T, .int deep), some (.T, .int c), some (.T, .int (c % 9)), some (fl, .lst ds), none, none] = [some (.scr ns), none, none, none, some (.int (c % 9)), (if fl = .S then some (.lst ds) else none), none, none] := fun fl => by cases fl <;> rfl
        rw [this]
        simp only [gTest, g2, gVar, gCon, List.getElem?_cons_zero, List.getElem?_cons_succ, sh_int, Res.bind_ok, fB, ltD, Option.map_some, ofO_some, toB, decide_eq_true h7]
      · obtain ⟨ρ', e4, f6, cur, x, e5, hf6, hcur⟩ := forL_rng (is := [7]) (g := b_thing) (n := ds.length) (ρ := [some (.S, .scr ns), some (.T, .int k), some (.T, .int deep), some (.T, .int c), some (.T, .int (c % 9)), some (.S, .lst ds), some (.T, .dct []), none])
          (fun i ρ => ∃ f6 cur x, ρ = [some (.S, .scr ns), some (.T, .int k), some (.T, .int deep), some (.T, .int c), some (.T, .int (c % 9)), some (.S, .lst ds), some (f6, .dct cur), x] ∧ f6 ≠ Fl.S ∧ Rec 20 n i cur) (fun j hj ρ hρ => by
            obtain ⟨f6, cur, x, rfl, hf6, hcur⟩ := hρ
            obtain ⟨c2, hc2, d0, d1⟩ := cell_ok hn (k := k * 5 + 1 + (j : Int)) (by omega) (by omega)
            obtain ⟨s, _, hs⟩ := name_ok (c := c2 / 9 + (j : Int)) (by omega) (by omega)
            have hname : ∀ y : Int, m_cell [.scr ns, .int (k * 5 + 1 + y)] = .ok (.T, .int c2) → m_name_by [.int (c2 / 9 + y)] = .ok (.T, .str s) → (gCall (gCons (g2 (g2 (gCall (gCons (gVar 0) (gCons (g2 (g2 (g2 (gVar 1) (gCon (.int 5)) (fun x y => ofO (mulD x.2 y.2))) (gCon (.int 1)) (fun x y => ofO (addD x.2 y.2))) (gVar 7) (fun x y => ofO (addD x.2 y.2))) (gNil))) m_cell) (gCon (.int 9)) (fun x y => ofO (divD x.2 y.2))) (gVar 7) (fun x y => ofO (addD x.2 y.2))) (gNil)) m_name_by) [some (.scr ns), some (.int k), none, none, none, some (.lst ds), none, some (.int y)] = .ok (.T, .str s) := fun y h1 h2 => by
              simp only [gCall, gCons, gNil, g2, gVar, gCon, List.getElem?_cons_zero, List.getElem?_cons_succ, sh_int, sh_scr, Res.bind_ok, ml_r (i := k) (j := 5) ⟨by decide, by decide⟩, ad_i, ofO_some, h1, dv_9, h2]
            have hval : (g2 (gVar 5) (gVar 7) (fun x y => ofO (ixD x.2 y.2))) [some (.scr ns), some (.int k), none, none, none, some (.lst ds), none, some (.int (j : Int))] = .ok (sh ds[j]) := by
              rw [g2_ok (x := (.S, .lst ds)) (y := (.T, .int (j : Int))) rfl rfl, ix_nat hj]; rfl
            have hv : ∀ f6 : Fl, f6 ≠ .S → viewF [0, 1, 5, 7] 0 [some (.S, .scr ns), some (.T, .int k), some (.T, .int deep), some (.T, .int c), some (.T, .int (c % 9)), some (.S, .lst ds), some (f6, .dct cur), some (.T, .int (j : Int))] = [some (.scr ns), some (.int k), none, none, none, some (.lst ds), none, some (.int (j : Int))] := fun f6 h => by
              cases f6
              · exact absurd rfl h
              · rfl
              · rfl
            obtain ⟨f', hf', e⟩ := q_setit (i := 6) (vs := [0, 1, 5, 7]) (ρ := [some (.S, .scr ns), some (.T, .int k), some (.T, .int deep), some (.T, .int c), some (.T, .int (c % 9)), some (.S, .lst ds), some (f6, .dct cur), some (.T, .int (j : Int))]) (s := s) rfl hf6 (by rw [hv f6 hf6]; exact hval) (by rw [hv f6 hf6]; exact hname _ hc2 hs) (k := .inr s) rfl rfl rfl (lt_size (b := 1000) (by have := hcur.len; omega) (by decide))
            refine ⟨_, e, f', _, _, rfl, hf', ?_⟩
            rw [sh_2]
            exact hcur.put (hdt _ (List.getElem_mem hj))) ⟨.T, [], none, rfl, by decide, Rec.nil⟩
        subst e5
        refine ⟨f6, .dct cur, fin_seq s5 (fin_seq (q_iff (k := gPass) ?_ rfl) (fin_seq (q_set (x := (.T, .dct [])) rfl rfl) (fin_seq (q_for (xs := rngD 0 ds.length) ?_ ?_ e4) rfl))), hcur.thing (by omega)⟩
        · have : ∀ fl : Fl, viewF [4] 0 [some (.S, .scr ns), some (.T, .int k), some (.T, .int deep), some (.T, .int c), some (.T, .int (c % 9)), some (fl, .lst ds), none, none] = [some (.scr ns), none, none, none, some (.int (c % 9)), (if fl = .S then some (.lst ds) else none), none, none] := fun fl => by cases fl <;> rfl
          rw [this]
          simp only [gTest, g2, gVar, gCon, List.getElem?_cons_zero, List.getElem?_cons_succ, sh_int, Res.bind_ok, fB, ltD, Option.map_some, ofO_some, toB, decide_eq_false h7]
        · refine q_rng (fl := .T) (n := ds.length) ?_ rfl (by omega)
          have : ∀ fl : Fl, viewF [5] 0 (putV [] 6 [some (.S, .scr ns), some (.T, .int k), some (.T, .int deep), some (.T, .int c), some (.T, .int (c % 9)), some (fl, .lst ds), none, none] (.T, .dct [])) = [some (.scr ns), none, none, none, none, some (.lst ds), none, none] := fun fl => by cases fl <;> rfl
          rw [this]
          simp only [gCall, gCons, gNil, gVar, List.getElem?_cons_zero, List.getElem?_cons_succ, sh_lst, Res.bind_ok, lenD, oT, ofO_some]
        · cases fl <;> rfl
end G
end

section
set_option Elab.async false
set_option maxRecDepth 100000
set_option linter.all false
set_option maxHeartbeats 4000000
namespace G
open PySem PySem.Spec
open PyProof.Rows hiding intD
open L2 hiding gCons gNil gLst
open VL
def smalls : List D := [.non, .bl true, .bl false, .int 0, .int 1, .int 2, .str "a", .str "b", .str "", .lst [], .lst [.int 0], .dct [], .dct [(.inr "a", .int 1)], .dct [(.inr "a", .int 2)], .int (-1), .lst [.int 1, .str "x"], .lst [.int 2], .str "ab"]
theorem smalls_td : ∀ d ∈ smalls, TD 20 2 d := by
  intro d hd
  simp only [smalls, List.mem_cons, List.not_mem_nil, or_false] at hd
  rcases hd with rfl | rfl | rfl | rfl | rfl | rfl | rfl | rfl | rfl | rfl | rfl | rfl | rfl | rfl | rfl | rfl | rfl | rfl
  · trivial
  · trivial
  · trivial
  · trivial
  · trivial
  · trivial
  · trivial
  · trivial
  · trivial
  · exact ⟨by decide, fun d hd => by cases hd⟩
  · exact ⟨by decide, fun d hd => by rw [List.mem_singleton.mp hd]; trivial⟩
  · exact ⟨by decide, by simp, ⟨[], rfl⟩, fun d hd => by cases hd⟩
  · exact ⟨by decide, by simp, ⟨["a"], rfl⟩, fun d hd => by rw [List.mem_singleton.mp hd]; trivial⟩
  · exact ⟨by decide, by simp, ⟨["a"], rfl⟩, fun d hd => by rw [List.mem_singleton.mp hd]; trivial⟩
  · trivial
  · exact ⟨by decide, fun d hd => by
      rcases List.mem_cons.mp hd with h | hd
      · rw [h]; trivial
      · rw [List.mem_singleton.mp hd]; trivial⟩
  · exact ⟨by decide, fun d hd => by rw [List.mem_singleton.mp hd]; trivial⟩
  · trivial
theorem cell_set {ns : List Int} {k c : Int} (hc : m_cell [.scr ns, .int k] = .ok (.T, .int c)) (r : List (Option D)) : gCall (gCons (gVar 0) (gCons (gVar 1) gNil)) m_cell (some (.scr ns) :: some (.int k) :: r) = .ok (.T, .int c) := by
  simp only [gCall, gCons, gNil, gVar, List.getElem?_cons_zero, List.getElem?_cons_succ, sh_int, sh_scr, Res.bind_ok, hc]
theorem small_ok {ns : List Int} (hn : ns.length ≤ 1000) {k : Int} (h0 : 0 ≤ k) (h1 : k < 2 ^ 30) : ∃ fl d, m_small [.scr ns, .int k] = .ok (fl, d) ∧ TD 20 3 d := by
  obtain ⟨c, hc, c0, c1⟩ := cell_ok hn h0 (k := k) (by omega)
  have e1 : gSet 2 [0, 1] (gCall (gCons (gVar 0) (gCons (gVar 1) (gNil))) m_cell) (enter 4 [.scr ns, .int k]) = .nx [some (.S, .scr ns), some (.T, .int k), some (.T, .int c), none] := q_set (x := (.T, .int c)) (cell_set hc _) rfl
  have e2 : gSet 3 [] (gLst (lCons (gCon .non) (lCons (gCon (.bl true)) (lCons (gCon (.bl false)) (lCons (gCon (.int 0)) (lCons (gCon (.int 1)) (lCons (gCon (.int 2)) (lCons (gCon (.str "a")) (lCons (gCon (.str "b")) (lCons (gCon (.str "")) (lCons (gLst (lNil)) (lCons (gLst (lCons (gCon (.int 0)) (lNil))) (lCons (gCon (.dct [])) (lCons (gD1 (gCon (.str "a")) (gCon (.int 1))) (lCons (gD1 (gCon (.str "a")) (gCon (.int 2))) (lCons (fun ρ => ((gCon (.int 1)) ρ).bind fun x => ofO (negD x.2)) (lCons (gLst (lCons (gCon (.int 1)) (lCons (gCon (.str "x")) (lNil)))) (lCons (gLst (lCons (gCon (.int 2)) (lNil))) (lCons (gCon (.str "ab")) (lNil)))))))))))))))))))) [some (.S, .scr ns), some (.T, .int k), some (.T, .int c), none] = .nx [some (.S, .scr ns), some (.T, .int k), some (.T, .int c), some (.T, .lst smalls)] := q_set (x := (.T, .lst smalls)) rfl rfl
  have v2 : viewF [2] 0 [some (.S, .scr ns), some (.T, .int k), some (.T, .int c), some (.T, .lst smalls)] = [some (.scr ns), none, some (.int c), none] := rfl
  have tm : ∀ (y : Int) b, (c % 4 == y) = b → gTest (g2 (g2 (gVar 2) (gCon (.int 4)) (fun x y => ofO (modD x.2 y.2))) (gCon (.int y)) (fun x y => ofO ((fB (eqN 32)) x.2 y.2))) [some (.scr ns), none, some (.int c), none] = .ok b := fun y b hb => by
    simp only [gTest, g2, gVar, gCon, List.getElem?_cons_zero, List.getElem?_cons_succ, sh_int, Res.bind_ok, md_4, eq_int, ofO_some, toB, hb]
  unfold m_small
  by_cases a0 : c % 4 = 0
  · obtain ⟨fl, d, hd, ht⟩ := thing_ok hn 2 4 (k + 1) 2 (by decide) rfl (by omega) (by omega)
    refine ⟨fl, d, runG_fin ?_, TD.mono (Nat.le_refl _) (by decide) ht⟩
    unfold g_law_small
    refine fin_seq e1 (fin_seq e2 (fin_q (q_ift (by rw [v2]; exact tm 0 true (by simpa using a0)) (q_ret ?_))))
    show gCall _ _ [some (.scr ns), some (.int k), none, none] = _
    simp only [gCall, gCons, gNil, g2, gVar, gCon, List.getElem?_cons_zero, List.getElem?_cons_succ, sh_int, sh_scr, Res.bind_ok, ad_i, ofO_some, hd]
  · by_cases a1 : c % 4 = 1
    · refine ⟨.T, .int (c / 4 % 5), runG_fin ?_, trivial⟩
      unfold g_law_small
      refine fin_seq e1 (fin_seq e2 (fin_seq (q_iff (by rw [v2]; exact tm 0 false (by simpa using a0)) rfl) (fin_q (q_ift (by rw [v2]; exact tm 1 true (by simpa using a1)) (q_ret ?_)))))
      rw [v2]
      simp only [g2, gVar, gCon, List.getElem?_cons_zero, List.getElem?_cons_succ, sh_int, Res.bind_ok, dv_4, md_5, ofO_some]
    · obtain ⟨d, hd, hx⟩ := ix_lst (ds := smalls) (i := c / 4 % 18) (Int.emod_nonneg _ (by decide)) (Int.emod_lt_of_pos _ (by decide))
      refine ⟨(sh d).1, d, runG_fin ?_, TD.mono (Nat.le_refl _) (by decide) (smalls_td d hd)⟩
      unfold g_law_small
      refine fin_seq e1 (fin_seq e2 (fin_seq (q_iff (by rw [v2]; exact tm 0 false (by simpa using a0)) rfl) (fin_seq (q_iff (by rw [v2]; exact tm 1 false (by simpa using a1)) rfl) ?_)))
      refine fin_rt (q_ret ?_)
      show g2 _ _ _ [some (.scr ns), none, some (.int c), some (.lst smalls)] = _
      simp only [g2, gVar, gCon, List.getElem?_cons_zero, List.getElem?_cons_succ, sh_int, sh_lst, Res.bind_ok, dv_4, md_18, ofO_some, hx]
      rfl
def Tri (d : D) : Prop := ∃ a b c : Str, d = .lst [.str a, .str b, .str c]
theorem names_ok {ns : List Int} (hn : ns.length ≤ 1000) : ∃ fl d, m_names [.scr ns] = .ok (fl, d) ∧ Tri d := by
  obtain ⟨c, hc, c0, c1⟩ := cell_ok hn (k := 990) (by decide) (by decide)
  obtain ⟨s, ls, hs⟩ := name_ok (c := c / 4) (by omega) (by omega)
  have lc := Nat.le_trans (cutS_length s none (some 11)) ls
  obtain ⟨s2, hs2, l2⟩ := cat_ok (a := cutS s none (some 11)) (b := "0") (by have : ("0" : Str).length = 1 := by decide +kernel
                                                                             omega)
  have hsl : s.length ≤ sizeLine := Nat.le_trans ls (by decide)
  obtain ⟨some1, hsome⟩ : ∃ l : List D, l = [.lst [.str "a", .str "b", .str "r"], .lst [.str "aa", .str "a", .str "ab"], .lst [.str "x12", .str "x1", .str "x2"]] := ⟨_, rfl⟩
  have e1 : gSet 1 [0] (gCall (gCons (gVar 0) (gCons (gCon (.int 990)) (gNil))) m_cell) (enter 4 [.scr ns]) = .nx [some (.S, .scr ns), some (.T, .int c), none, none] := by
    refine q_set (x := (.T, .int c)) ?_ rfl
    show gCall _ _ [some (.scr ns), none, none, none] = _
    simp only [gCall, gCons, gNil, gVar, gCon, List.getElem?_cons_zero, List.getElem?_cons_succ, sh_scr, Res.bind_ok, hc]
  have e2 : gSet 2 [] (gLst (lCons (gLst (lCons (gCon (.str "a")) (lCons (gCon (.str "b")) (lCons (gCon (.str "r")) (lNil))))) (lCons (gLst (lCons (gCon (.str "aa")) (lCons (gCon (.str "a")) (lCons (gCon (.str "ab")) (lNil))))) (lCons (gLst (lCons (gCon (.str "x12")) (lCons (gCon (.str "x1")) (lCons (gCon (.str "x2")) (lNil))))) (lNil))))) [some (.S, .scr ns), some (.T, .int c), none, none] = .nx [some (.S, .scr ns), some (.T, .int c), some (.T, .lst some1), none] := q_set (x := (.T, .lst some1)) (by rw [hsome]; rfl) rfl
  have e3 : gSet 3 [1] (gLst (lCons (gCall (gCons (g2 (gVar 1) (gCon (.int 4)) (fun x y => ofO (divD x.2 y.2))) (gNil)) m_name_by) (lCons (g2 (gSl (gCall (gCons (g2 (gVar 1) (gCon (.int 4)) (fun x y => ofO (divD x.2 y.2))) (gNil)) m_name_by) none (some (gCon (.int 11)))) (gCon (.str "0")) (fun x y => ofO (addD x.2 y.2))) (lCons (gCon (.str "z")) (lNil))))) [some (.S, .scr ns), some (.T, .int c), some (.T, .lst some1), none] = .nx [some (.S, .scr ns), some (.T, .int c), some (.T, .lst some1), some (.T, .lst [.str s, .str s2, .str "z"])] := by
    refine q_set (x := (.T, .lst [.str s, .str s2, .str "z"])) ?_ rfl
    show gLst _ [some (.scr ns), some (.int c), none, none] = _
    simp only [gLst, lCons, lNil, gCall, gCons, gNil, g2, gVar, gCon, gSl, gPt, List.getElem?_cons_zero, List.getElem?_cons_succ, sh_int, Res.bind_ok, dv_4, ofO_some, hs, sliceD, if_pos hsl, hs2, chk, List.length_cons, List.length_nil, sz3q, if_true, mkL, List.map_cons, List.map_nil]
    rfl
  have hall : ∀ d ∈ some1 ++ [.lst [.str s, .str s2, .str "z"]], Tri d := fun d hd => by
    rw [hsome] at hd
    simp only [List.cons_append, List.nil_append, List.mem_cons, List.not_mem_nil, or_false] at hd
    rcases hd with h | h | h | h <;> exact ⟨_, _, _, h⟩
  have hl3 : some1.length = 3 := by rw [hsome]; rfl
  obtain ⟨d, hd, hx⟩ := ix_lst (ds := some1 ++ [.lst [.str s, .str s2, .str "z"]]) (i := c % 4) (Int.emod_nonneg _ (by decide)) (by rw [List.length_append, hl3]; exact Int.emod_lt_of_pos _ (by decide))
  refine ⟨(sh d).1, d, ?_, hall d hd⟩
  unfold m_names g_law_names
  refine runG_fin (fin_seq e1 (fin_seq e2 (fin_seq e3 (fin_rt (q_ret ?_)))))
  show g2 _ _ _ [some (.scr ns), some (.int c), some (.lst some1), some (.lst [.str s, .str s2, .str "z"])] = _
  have hadd : addD (.lst some1) (.lst [.lst [.str s, .str s2, .str "z"]]) = some (.R, .lst (some1 ++ [.lst [.str s, .str s2, .str "z"]])) := by
    simp only [addD]; rw [if_pos (by rw [hl3]; exact sz_4)]
  simp only [g2, gLst, lCons, lNil, gVar, gCon, List.getElem?_cons_zero, List.getElem?_cons_succ, sh_int, sh_lst, Res.bind_ok, chk, List.length_cons, List.length_nil, sz1q, if_true, mkL, List.map_cons, List.map_nil, hadd, ofO_some, md_4, hx]
  rfl
end G
end

section
set_option Elab.async false
set_option maxRecDepth 100000
set_option linter.all false
set_option maxHeartbeats 4000000
namespace G
open PySem PySem.Spec
open PyProof.Rows hiding intD
open L2 hiding gCons gNil gLst
open VL
theorem name_at {ns : List Int} {fl : Fl} {d : D} (hm : m_names [.scr ns] = .ok (fl, d)) (ht : Tri d) {i : Nat} {e : GE} {j : Nat} (hj : j < 3) {ρ : List (Option D)} (h0 : ρ[0]? = some (some (.scr ns))) (he : ∃ f, e ρ = .ok (f, .int (j : Int))) : ∃ s : Str, (g2 (gCall (gCons (gVar 0) (gNil)) m_names) e (fun x y => ofO (ixD x.2 y.2))) ρ = .ok (.T, .str s) := by
  obtain ⟨a, b, c, rfl⟩ := ht
  obtain ⟨f, he⟩ := he
  have hc : gCall (gCons (gVar 0) gNil) m_names ρ = .ok (fl, .lst [.str a, .str b, .str c]) := by
    simp only [gCall, gCons, gNil, gVar, h0, sh_scr, Res.bind_ok, hm]
  refine ⟨[a, b, c][j]'(by simpa using hj), ?_⟩
  · rw [g2_ok hc he, ix_nat (j := j) (by simpa using hj)]
    have : [D.str a, D.str b, D.str c][j]'(by simpa using hj) = .str ([a, b, c][j]'(by simpa using hj)) := by
      rcases j with _ | _ | _ | j
      · rfl
      · rfl
      · rfl
      · omega
    rw [this]; rfl
theorem record_ok {ns : List Int} (hn : ns.length ≤ 1000) {k : Int} (h0 : 0 ≤ k) (h1 : k < 2 ^ 25) : ∃ fl d, m_record [.scr ns, .int k] = .ok (fl, d) ∧ TD 20 5 d := by
  obtain ⟨c, hc, c0, c1⟩ := cell_ok hn h0 (k := k) (by omega)
  obtain ⟨fn, dn, hnm, htri⟩ := names_ok hn
  have e1 : gSet 2 [0, 1] (gCall (gCons (gVar 0) (gCons (gVar 1) (gNil))) m_cell) (enter 5 [.scr ns, .int k]) = .nx [some (.S, .scr ns), some (.T, .int k), some (.T, .int c), none, none] := q_set (x := (.T, .int c)) (cell_set hc _) rfl
  unfold m_record g_law_record
  by_cases a0 : c % 9 = 0
  · obtain ⟨fl, d, hd, ht⟩ := small_ok hn (k := k + 1) (by omega) (by omega)
    refine ⟨fl, d, runG_fin (fin_seq e1 (fin_q (q_ift ?_ (q_ret ?_)))), TD.mono (Nat.le_refl _) (by decide) ht⟩
    · show gTest _ [some (.scr ns), none, some (.int c), none, none] = _
      simp only [gTest, g2, gVar, gCon, List.getElem?_cons_zero, List.getElem?_cons_succ, sh_int, Res.bind_ok, md_9, eq_int, ofO_some, toB, a0]
      rfl
    · show gCall _ _ [some (.scr ns), some (.int k), none, none, none] = _
      simp only [gCall, gCons, gNil, g2, gVar, gCon, List.getElem?_cons_zero, List.getElem?_cons_succ, sh_int, sh_scr, Res.bind_ok, ad_i, ofO_some, hd]
  · obtain ⟨ρ', e4, f3, cur, x, e5, hf3, hcur⟩ := forL_rng (is := [4]) (g := gIfS [2, 4] (gTest (g2 (g2 (g2 (gVar 2) (g2 (gLst (lCons (gCon (.int 9)) (lCons (gCon (.int 27)) (lCons (gCon (.int 81)) (lNil))))) (gVar 4) (fun x y => ofO (ixD x.2 y.2))) (fun x y => ofO (divD x.2 y.2))) (gCon (.int 3)) (fun x y => ofO (modD x.2 y.2))) (gCon (.int 0)) (fun x y => ofO ((fB gtD) x.2 y.2)))) (gSetIt 3 [0, 1, 4] (g2 (gCall (gCons (gVar 0) (gNil)) m_names) (gVar 4) (fun x y => ofO (ixD x.2 y.2))) (gCall (gCons (gVar 0) (gCons (g2 (g2 (gVar 1) (gCon (.int 20)) (fun x y => ofO (addD x.2 y.2))) (g2 (gCon (.int 31)) (gVar 4) (fun x y => ofO (mulD x.2 y.2))) (fun x y => ofO (addD x.2 y.2))) (gNil))) m_small)) (gPass)) (n := 3)
        (ρ := [some (.S, .scr ns), some (.T, .int k), some (.T, .int c), some (.T, .dct []), none])
        (fun i ρ => ∃ f3 cur x, ρ = [some (.S, .scr ns), some (.T, .int k), some (.T, .int c), some (f3, .dct cur), x] ∧ f3 ≠ Fl.S ∧ Rec 20 4 i cur) (fun j hj ρ hρ => by
          obtain ⟨f3, cur, x, rfl, hf3, hcur⟩ := hρ
          have vw : ∀ f3 : Fl, f3 ≠ .S → viewF [2, 4] 0 [some (.S, .scr ns), some (.T, .int k), some (.T, .int c), some (f3, .dct cur), some (.T, .int (j : Int))] = [some (.scr ns), none, some (.int c), none, some (.int (j : Int))] := fun f3 h => by
            cases f3
            · exact absurd rfl h
            · rfl
            · rfl
          have vw2 : ∀ f3 : Fl, f3 ≠ .S → viewF [0, 1, 4] 0 [some (.S, .scr ns), some (.T, .int k), some (.T, .int c), some (f3, .dct cur), some (.T, .int (j : Int))] = [some (.scr ns), some (.int k), none, none, some (.int (j : Int))] := fun f3 h => by
            cases f3
            · exact absurd rfl h
            · rfl
            · rfl
          obtain ⟨b, hb⟩ : ∃ b, gTest (g2 (g2 (g2 (gVar 2) (g2 (gLst (lCons (gCon (.int 9)) (lCons (gCon (.int 27)) (lCons (gCon (.int 81)) (lNil))))) (gVar 4) (fun x y => ofO (ixD x.2 y.2))) (fun x y => ofO (divD x.2 y.2))) (gCon (.int 3)) (fun x y => ofO (modD x.2 y.2))) (gCon (.int 0)) (fun x y => ofO ((fB gtD) x.2 y.2))) [some (.scr ns), none, some (.int c), none, some (.int (j : Int))] = .ok b := by
            obtain ⟨q, hq, hx⟩ : ∃ q : Int, (q = 9 ∨ q = 27 ∨ q = 81) ∧ ixD (.lst [.int 9, .int 27, .int 81]) (.int (j : Int)) = some (.T, .int q) := by
              rw [ix_nat (ds := [.int 9, .int 27, .int 81]) (j := j) (by simpa using hj)]
              rcases j with _ | _ | _ | j
              · exact ⟨9, .inl rfl, rfl⟩
              · exact ⟨27, .inr (.inl rfl), rfl⟩
              · exact ⟨81, .inr (.inr rfl), rfl⟩
              · omega
            have hdv : divD (.int c) (.int q) = some (.T, .int (c / q)) := by
              rcases hq with rfl | rfl | rfl
              · exact dv_9 c
              · exact dv_27 c
              · exact dv_81 c
            refine ⟨decide (0 < c / q % 3), ?_⟩
            · simp only [gTest, g2, gLst, lCons, lNil, gVar, gCon, List.getElem?_cons_zero, List.getElem?_cons_succ, sh_int, Res.bind_ok, chk, List.length_cons, List.length_nil, sz3q, if_true, mkL, List.map_cons, List.map_nil, hx, ofO_some, hdv, md_3, fB, gtD, Option.map_some, toB]
          cases b with
          | false =>
            refine ⟨_, q_iff (by rw [show setsF [some (.S, .scr ns), some (.T, .int k), some (.T, .int c), some (f3, .dct cur), x] [4] [.int (j : Int)] = [some (.S, .scr ns), some (.T, .int k), some (.T, .int c), some (f3, .dct cur), some (.T, .int (j : Int))] from rfl, vw f3 hf3]; exact hb) rfl, f3, cur, _, rfl, hf3, ⟨Nat.le_succ_of_le hcur.len, hcur.nd, hcur.ks, hcur.td⟩⟩
          | true =>
            obtain ⟨s, hs⟩ := name_at hnm htri (i := 0) (e := gVar 4) hj (ρ := [some (.scr ns), some (.int k), none, none, some (.int (j : Int))]) rfl ⟨.T, rfl⟩
            obtain ⟨fs, ds, hsm, hst⟩ := small_ok hn (k := k + 20 + 31 * (j : Int)) (by omega) (by omega)
            have hge : ∀ y : Int, m_small [.scr ns, .int (k + 20 + 31 * y)] = .ok (fs, ds) → gCall (gCons (gVar 0) (gCons (g2 (g2 (gVar 1) (gCon (.int 20)) (fun x y => ofO (addD x.2 y.2))) (g2 (gCon (.int 31)) (gVar 4) (fun x y => ofO (mulD x.2 y.2))) (fun x y => ofO (addD x.2 y.2))) (gNil))) m_small [some (.scr ns), some (.int k), none, none, some (.int y)] = .ok (fs, ds) := fun y h => by
              simp only [gCall, gCons, gNil, g2, gVar, gCon, List.getElem?_cons_zero, List.getElem?_cons_succ, sh_int, sh_scr, Res.bind_ok, ml_l (i := 31) (j := y) ⟨by decide, by decide⟩, ad_i, ofO_some, h]
            obtain ⟨f', hf', e⟩ := q_setit (i := 3) (vs := [0, 1, 4]) (ρ := [some (.S, .scr ns), some (.T, .int k), some (.T, .int c), some (f3, .dct cur), some (.T, .int (j : Int))]) (s := s) rfl hf3 (by rw [vw2 f3 hf3]; exact hge _ hsm) (by rw [vw2 f3 hf3]; exact hs) (k := .inr s) rfl rfl rfl (lt_size (b := 1000) (by have := hcur.len; omega) (by decide))
            refine ⟨_, q_ift (by rw [show setsF [some (.S, .scr ns), some (.T, .int k), some (.T, .int c), some (f3, .dct cur), x] [4] [.int (j : Int)] = [some (.S, .scr ns), some (.T, .int k), some (.T, .int c), some (f3, .dct cur), some (.T, .int (j : Int))] from rfl, vw f3 hf3]; exact hb) e, f', _, _, rfl, hf', hcur.put (TD.mono (Nat.le_refl _) (by decide) hst)⟩) ⟨.T, [], none, rfl, by decide, Rec.nil⟩
    subst e5
    have hfor : gFor [] [4] (gItR1 (gCon (.int 3))) t1 (gIfS [2, 4] (gTest (g2 (g2 (g2 (gVar 2) (g2 (gLst (lCons (gCon (.int 9)) (lCons (gCon (.int 27)) (lCons (gCon (.int 81)) (lNil))))) (gVar 4) (fun x y => ofO (ixD x.2 y.2))) (fun x y => ofO (divD x.2 y.2))) (gCon (.int 3)) (fun x y => ofO (modD x.2 y.2))) (gCon (.int 0)) (fun x y => ofO ((fB gtD) x.2 y.2)))) (gSetIt 3 [0, 1, 4] (g2 (gCall (gCons (gVar 0) (gNil)) m_names) (gVar 4) (fun x y => ofO (ixD x.2 y.2))) (gCall (gCons (gVar 0) (gCons (g2 (g2 (gVar 1) (gCon (.int 20)) (fun x y => ofO (addD x.2 y.2))) (g2 (gCon (.int 31)) (gVar 4) (fun x y => ofO (mulD x.2 y.2))) (fun x y => ofO (addD x.2 y.2))) (gNil))) m_small)) (gPass)) [some (.S, .scr ns), some (.T, .int k), some (.T, .int c), some (.T, .dct []), none] = .nx [some (.S, .scr ns), some (.T, .int k), some (.T, .int c), some (f3, .dct cur), x] :=
      q_for (xs := rngD 0 (3 : Nat)) (q_rng (fl := .T) (n := 3) (i := 3) rfl rfl (by decide)) rfl e4
    have vx : ∀ (f3 : Fl) (x : Option FD), f3 ≠ .S → ∃ u, viewF [2] 0 [some (.S, .scr ns), some (.T, .int k), some (.T, .int c), some (f3, .dct cur), x] = [some (.scr ns), none, some (.int c), none, u] := fun f3 x h => by
      cases f3
      · exact absurd rfl h
      · rcases x with _ | ⟨f, d⟩ <;> exact ⟨_, rfl⟩
      · rcases x with _ | ⟨f, d⟩ <;> exact ⟨_, rfl⟩
    obtain ⟨u, hu⟩ := vx f3 x hf3
    have t9 : gTest (g2 (g2 (gVar 2) (gCon (.int 9)) (fun x y => ofO (modD x.2 y.2))) (gCon (.int 0)) (fun x y => ofO ((fB (eqN 32)) x.2 y.2))) [some (.scr ns), none, some (.int c), none, none] = .ok false := by
      have : (c % 9 == 0) = false := by simpa using a0
      simp only [gTest, g2, gVar, gCon, List.getElem?_cons_zero, List.getElem?_cons_succ, sh_int, Res.bind_ok, md_9, eq_int, ofO_some, toB, this]
    have t243 : ∀ b, (c / 243 % 3 == 1) = b → gTest (g2 (g2 (g2 (gVar 2) (gCon (.int 243)) (fun x y => ofO (divD x.2 y.2))) (gCon (.int 3)) (fun x y => ofO (modD x.2 y.2))) (gCon (.int 1)) (fun x y => ofO ((fB (eqN 32)) x.2 y.2))) [some (.scr ns), none, some (.int c), none, u] = .ok b := fun b hb => by
      simp only [gTest, g2, gVar, gCon, List.getElem?_cons_zero, List.getElem?_cons_succ, sh_int, Res.bind_ok, dv_243, md_3, eq_int, ofO_some, toB, hb]
    by_cases a1 : c / 243 % 3 = 1
    · obtain ⟨N, hN⟩ := Int.eq_ofNat_of_zero_le (show 0 ≤ c / 729 % 4 by omega)
      have hN4 : N < 4 := by omega
      have arg : ∀ y : Int, gCall (gCons (gVar 0) (gCons (g2 (g2 (gVar 1) (gCon (.int 200)) (fun x y => ofO (addD x.2 y.2))) (g2 (gCon (.int 17)) (gVar 4) (fun x y => ofO (mulD x.2 y.2))) (fun x y => ofO (addD x.2 y.2))) (gNil))) m_small [some (.scr ns), some (.int k), some (.int c), none, some (.int y)] = m_small [.scr ns, .int (k + 200 + 17 * y)] := fun y => by
        simp only [gCall, gCons, gNil, g2, gVar, gCon, List.getElem?_cons_zero, List.getElem?_cons_succ, sh_int, sh_scr, Res.bind_ok, ml_l (i := 17) (j := y) ⟨by decide, by decide⟩, ad_i, ofO_some]
      obtain ⟨ys, q1, q2, q3⟩ := compL_ex (t := t1) (is := [4]) (g := gCall (gCons (gVar 0) (gCons (g2 (g2 (gVar 1) (gCon (.int 200)) (fun x y => ofO (addD x.2 y.2))) (g2 (gCon (.int 17)) (gVar 4) (fun x y => ofO (mulD x.2 y.2))) (fun x y => ofO (addD x.2 y.2))) (gNil))) m_small) (ρ := [some (.scr ns), some (.int k), some (.int c), none, none]) (fun y => TD 20 3 y.2) (xs := rngD 0 N) fun x hx => by
        obtain ⟨j, hj, rfl⟩ := mem_rng hx
        obtain ⟨fl, d, z1, z2⟩ := small_ok hn (k := k + 200 + 17 * (j : Int)) (by omega) (by omega)
        exact ⟨[.int (j : Int)], (fl, d), rfl, (arg (j : Int)).trans z1, z2⟩
      rw [rng_len] at q2
      have hcomp : ∀ u, gComp [4] [4] (gItR1 (g2 (g2 (gVar 2) (gCon (.int 729)) (fun x y => ofO (divD x.2 y.2))) (gCon (.int 4)) (fun x y => ofO (modD x.2 y.2)))) t1 (cYes) (gCall (gCons (gVar 0) (gCons (g2 (g2 (gVar 1) (gCon (.int 200)) (fun x y => ofO (addD x.2 y.2))) (g2 (gCon (.int 17)) (gVar 4) (fun x y => ofO (mulD x.2 y.2))) (fun x y => ofO (addD x.2 y.2))) (gNil))) m_small) [some (.scr ns), some (.int k), some (.int c), none, u] = .ok (mkL ys) := fun u => by
        unfold gComp
        rw [q_rng (fl := .T) (n := N) (i := c / 729 % 4) (by simp only [g2, gVar, gCon, List.getElem?_cons_zero, List.getElem?_cons_succ, sh_int, Res.bind_ok, dv_729, md_4, ofO_some]) hN (by omega)]
        rw [Res.bind_ok, if_pos (by rw [rng_len]; exact td_sz (b := 1000) (by omega) (by decide))]
        have ew : wipeD [some (.scr ns), some (.int k), some (.int c), none, u] [4] = [some (.scr ns), some (.int k), some (.int c), none, none] := rfl
        rw [ew, q1, Res.bind_ok]
      have hy : TD 20 4 (mkL ys).2 := ⟨by rw [List.length_map, q2]; omega, fun d hd => by
        obtain ⟨y, hy, rfl⟩ := List.mem_map.mp hd
        exact q3 y hy⟩
      have vx2 : ∀ (f3 : Fl) (x : Option FD), f3 ≠ .S → ∃ u, viewF [0, 1, 2] 0 [some (.S, .scr ns), some (.T, .int k), some (.T, .int c), some (f3, .dct cur), x] = [some (.scr ns), some (.int k), some (.int c), none, u] := fun f3 x h => by
        cases f3
        · exact absurd rfl h
        · rcases x with _ | ⟨f, d⟩ <;> exact ⟨_, rfl⟩
        · rcases x with _ | ⟨f, d⟩ <;> exact ⟨_, rfl⟩
      obtain ⟨u2, hu2⟩ := vx2 f3 x hf3
      obtain ⟨s, hs⟩ := name_at hnm htri (i := 0) (e := gCon (.int 2)) (j := 2) (by decide) (ρ := [some (.scr ns), some (.int k), some (.int c), none, u2]) rfl ⟨.T, rfl⟩
      obtain ⟨f', hf', e⟩ := q_setit (i := 3) (vs := [0, 1, 2]) (ρ := [some (.S, .scr ns), some (.T, .int k), some (.T, .int c), some (f3, .dct cur), x]) (s := s) rfl hf3 (by rw [hu2]; exact hcomp u2) (by rw [hu2]; exact hs) (k := .inr s) rfl (by rcases x with _ | ⟨f, d⟩ <;> rfl) rfl (lt_size (b := 1000) (by have := hcur.len; omega) (by decide))
      refine ⟨f', .dct _, runG_fin (fin_seq e1 (fin_seq (q_iff t9 rfl) (fin_seq (q_set (x := (.T, .dct [])) rfl rfl) (fin_seq hfor (fin_seq (q_ift (by rw [hu]; exact t243 true (by simpa using a1)) e) rfl))))), (hcur.put hy).thing (by decide)⟩
    · refine ⟨f3, .dct cur, runG_fin (fin_seq e1 (fin_seq (q_iff t9 rfl) (fin_seq (q_set (x := (.T, .dct [])) rfl rfl) (fin_seq hfor (fin_seq (q_iff (k := gPass) (by rw [hu]; exact t243 false (by simpa using a1)) rfl) rfl))))), hcur.thing (by decide)⟩
end G
end

section
set_option Elab.async false
set_option maxRecDepth 100000
set_option linter.all false
set_option maxHeartbeats 4000000
namespace G
open PySem PySem.Spec
open PyProof.Rows hiding intD
open L2 hiding gCons gNil gLst
open VL
/-- records: whole keys -/
structure Recs (l : Nat) (cur : List (Key × D)) : Prop where
  len : cur.length ≤ l
  nd : (cur.map (·.1)).Nodup
  ks : ∃ ks : List Int, cur.map (·.1) = ks.map Sum.inl ∧ ∀ i ∈ ks, 0 ≤ i ∧ i < 1000000
  td : ∀ kv ∈ cur, TD 20 5 kv.2
theorem Recs.put {l : Nat} {cur : List (Key × D)} (h : Recs l cur) {i : Int} {d : D} (hi : 0 ≤ i ∧ i < 1000000) (hd : TD 20 5 d) : Recs (l + 1) (putD cur (.inl i) d) := by
  obtain ⟨h1, h2, ⟨ks, h3, h5⟩, h4⟩ := h
  refine ⟨Nat.le_trans (putD_length _ _ _) (Nat.succ_le_succ h1), putD_nodup _ _ h2, ?_, fun kv hkv => (mem_put hkv).elim (h4 kv) fun e => by rw [e]; exact hd⟩
  rw [putD_keys]
  split
  · exact ⟨ks, h3, h5⟩
  · refine ⟨ks ++ [i], by rw [h3]; simp, fun j hj => ?_⟩
    rcases List.mem_append.mp hj with hj | hj
    · exact h5 j hj
    · rw [List.mem_singleton.mp hj]; exact hi
theorem records_ok {ns : List Int} (hn : ns.length ≤ 1000) : ∃ fl recs, m_records [.scr ns, .int 10] = .ok (fl, .dct recs) ∧ Recs 10 recs := by
  obtain ⟨c0, hc0, b0, b1⟩ := cell_ok hn (k := 0) (by decide) (by decide)
  obtain ⟨N, hN⟩ := Int.eq_ofNat_of_zero_le (show 0 ≤ c0 % (10 + 1) by omega)
  have hN10 : N ≤ 10 := by omega
  obtain ⟨ρ', e4, f2, cur, o3, o4, o5, e5, hf2, hcur⟩ := forL_rng (is := [3]) (g := gSeq (gSet 4 [0, 3] (gCall (gCons (gVar 0) (gCons (g2 (gCon (.int 400)) (gVar 3) (fun x y => ofO (addD x.2 y.2))) (gNil))) m_cell)) (gSeq (gSet 5 [3, 4] (g2 (gLst (lCons (gVar 3) (lCons (g2 (g2 (gVar 4) (gCon (.int 3)) (fun x y => ofO (divD x.2 y.2))) (gCon (.int 12)) (fun x y => ofO (modD x.2 y.2))) (lCons (g2 (gVar 4) (gCon (.int 3)) (fun x y => ofO (divD x.2 y.2))) (lNil))))) (g2 (gVar 4) (gCon (.int 3)) (fun x y => ofO (modD x.2 y.2))) (fun x y => ofO (ixD x.2 y.2)))) (gSetIt 2 [0, 3, 5] (gVar 5) (gCall (gCons (gVar 0) (gCons (g2 (gCon (.int 1000)) (g2 (gCon (.int 700)) (gVar 3) (fun x y => ofO (mulD x.2 y.2))) (fun x y => ofO (addD x.2 y.2))) (gNil))) m_record)))) (n := N)
      (ρ := [some (.S, .scr ns), some (.T, .int 10), some (.T, .dct []), none, none, none])
      (fun i ρ => ∃ f2 cur o3 o4 o5, ρ = [some (.S, .scr ns), some (.T, .int 10), some (f2, .dct cur), o3, o4, o5] ∧ f2 ≠ Fl.S ∧ Recs i cur) (fun j hj ρ hρ => by
        obtain ⟨f2, cur, o3, o4, o5, rfl, hf2, hcur⟩ := hρ
        obtain ⟨c, hc, c0, c1⟩ := cell_ok hn (k := 400 + (j : Int)) (by omega) (by omega)
        obtain ⟨fr, dr, hr, htr⟩ := record_ok hn (k := 1000 + 700 * (j : Int)) (by omega) (by omega)
        obtain ⟨y, hy⟩ : ∃ y : Int, y = j := ⟨_, rfl⟩
        have y0 : 0 ≤ y ∧ y < 11 := by omega
        rw [← hy] at hc hr ⊢
        obtain ⟨d, hd, hx⟩ := ix_lst (ds := [.int y, .int (c / 3 % 12), .int (c / 3)]) (i := c % 3) (Int.emod_nonneg _ (by decide)) (Int.emod_lt_of_pos _ (by decide))
        obtain ⟨z, rfl, z0⟩ : ∃ z : Int, d = .int z ∧ 0 ≤ z ∧ z < 1000000 := by
          simp only [List.mem_cons, List.not_mem_nil, or_false] at hd
          rcases hd with h | h | h
          · exact ⟨_, h, by omega, by omega⟩
          · exact ⟨_, h, by omega, by omega⟩
          · exact ⟨_, h, by omega, by omega⟩
        have va : ∀ (f2 : Fl) (x x' : Option FD), f2 ≠ .S → ∃ u u', viewF [0, 3] 0 [some (.S, .scr ns), some (.T, .int 10), some (f2, .dct cur), some (.T, .int y), x, x'] = [some (.scr ns), none, none, some (.int y), u, u'] := fun f2 x x' h => by
          cases f2
          · exact absurd rfl h
          · rcases x with _ | ⟨f, d⟩ <;> rcases x' with _ | ⟨f', d'⟩ <;> exact ⟨_, _, rfl⟩
          · rcases x with _ | ⟨f, d⟩ <;> rcases x' with _ | ⟨f', d'⟩ <;> exact ⟨_, _, rfl⟩
        have vb : ∀ (f2 : Fl) (x' : Option FD), f2 ≠ .S → ∃ u', viewF [3, 4] 0 [some (.S, .scr ns), some (.T, .int 10), some (f2, .dct cur), some (.T, .int y), some (.T, .int c), x'] = [some (.scr ns), none, none, some (.int y), some (.int c), u'] := fun f2 x' h => by
          cases f2
          · exact absurd rfl h
          · rcases x' with _ | ⟨f', d'⟩ <;> exact ⟨_, rfl⟩
          · rcases x' with _ | ⟨f', d'⟩ <;> exact ⟨_, rfl⟩
        have vc : ∀ (f2 : Fl), f2 ≠ .S → viewF [0, 3, 5] 0 [some (.S, .scr ns), some (.T, .int 10), some (f2, .dct cur), some (.T, .int y), some (.T, .int c), some (.T, .int z)] = [some (.scr ns), none, none, some (.int y), none, some (.int z)] := fun f2 h => by
          cases f2
          · exact absurd rfl h
          · rfl
          · rfl
        obtain ⟨u, u', hu⟩ := va f2 o4 o5 hf2
        obtain ⟨w, hw⟩ := vb f2 o5 hf2
        have s4 : gSet 4 [0, 3] (gCall (gCons (gVar 0) (gCons (g2 (gCon (.int 400)) (gVar 3) (fun x y => ofO (addD x.2 y.2))) (gNil))) m_cell) [some (.S, .scr ns), some (.T, .int 10), some (f2, .dct cur), some (.T, .int y), o4, o5] = .nx [some (.S, .scr ns), some (.T, .int 10), some (f2, .dct cur), some (.T, .int y), some (.T, .int c), o5] := by
          refine q_set (x := (.T, .int c)) ?_ rfl
          rw [hu]
          simp only [gCall, gCons, gNil, g2, gVar, gCon, List.getElem?_cons_zero, List.getElem?_cons_succ, sh_int, sh_scr, Res.bind_ok, ad_i, ofO_some, hc]
        have s5 : gSet 5 [3, 4] (g2 (gLst (lCons (gVar 3) (lCons (g2 (g2 (gVar 4) (gCon (.int 3)) (fun x y => ofO (divD x.2 y.2))) (gCon (.int 12)) (fun x y => ofO (modD x.2 y.2))) (lCons (g2 (gVar 4) (gCon (.int 3)) (fun x y => ofO (divD x.2 y.2))) (lNil))))) (g2 (gVar 4) (gCon (.int 3)) (fun x y => ofO (modD x.2 y.2))) (fun x y => ofO (ixD x.2 y.2))) [some (.S, .scr ns), some (.T, .int 10), some (f2, .dct cur), some (.T, .int y), some (.T, .int c), o5] = .nx [some (.S, .scr ns), some (.T, .int 10), some (f2, .dct cur), some (.T, .int y), some (.T, .int c), some (.T, .int z)] := by
          refine q_set (x := (.T, .int z)) ?_ rfl
          rw [hw]
          simp only [g2, gLst, lCons, lNil, gVar, gCon, List.getElem?_cons_zero, List.getElem?_cons_succ, sh_int, Res.bind_ok, dv_3, md_12, md_3, ofO_some, chk, List.length_cons, List.length_nil, sz3q, if_true, mkL, List.map_cons, List.map_nil, hx]
        have hge : gCall (gCons (gVar 0) (gCons (g2 (gCon (.int 1000)) (g2 (gCon (.int 700)) (gVar 3) (fun x y => ofO (mulD x.2 y.2))) (fun x y => ofO (addD x.2 y.2))) (gNil))) m_record [some (.scr ns), none, none, some (.int y), none, some (.int z)] = .ok (fr, dr) := by
          simp only [gCall, gCons, gNil, g2, gVar, gCon, List.getElem?_cons_zero, List.getElem?_cons_succ, sh_int, sh_scr, Res.bind_ok, ml_l (i := 700) (j := y) ⟨by decide, by decide⟩, ad_i, ofO_some, hr]
        obtain ⟨f', hf', e⟩ := q_setit (i := 2) (vs := [0, 3, 5]) (gk := gVar 5) (ρ := [some (.S, .scr ns), some (.T, .int 10), some (f2, .dct cur), some (.T, .int y), some (.T, .int c), some (.T, .int z)]) (s := "") rfl hf2 (by rw [vc f2 hf2]; exact hge) (by rw [vc f2 hf2]; rfl) (k := .inl z) (kd := .int z) rfl rfl rfl (lt_size (b := 1000) (by have := hcur.len; omega) (by decide))
        exact ⟨_, q_seq s4 (q_seq s5 e), f', _, _, _, _, rfl, hf', hcur.put z0 htr⟩) ⟨.T, [], none, none, none, rfl, by decide, ⟨Nat.le_refl _, by simp, ⟨[], rfl, by simp⟩, by simp⟩⟩
  subst e5
  refine ⟨f2, cur, ?_, ⟨Nat.le_trans hcur.len hN10, hcur.nd, hcur.ks, hcur.td⟩⟩
  unfold m_records g_law_records
  refine runG_fin (fin_seq (q_set (x := (.T, .dct [])) rfl rfl) (fin_seq (q_for (xs := rngD 0 N) (q_rng (fl := .T) (n := N) (i := c0 % (10 + 1)) ?_ hN (by omega)) rfl e4) rfl))
  show g2 _ _ _ [some (.scr ns), some (.int 10), none, none, none, none] = _
  have m11 : modD (.int c0) (.int (10 + 1)) = some (.T, .int (c0 % (10 + 1))) := md_of (by decide)
  simp only [g2, gCall, gCons, gNil, gVar, gCon, List.getElem?_cons_zero, List.getElem?_cons_succ, sh_int, sh_scr, Res.bind_ok, hc0, ad_i, ofO_some, m11]
/-! paths -/
def Pth (d : D) : Prop := ∃ ps : List D, d = .lst ps ∧ (∀ p ∈ ps, Stp p) ∧ ps.length < 1000
theorem pth0 : Pth (.lst []) := ⟨[], rfl, by simp, by simp⟩
theorem pth_s {s : Str} {ps : List D} (h : Pth (.lst ps)) (hl : ps.length < 10) : Pth (.lst (.str s :: ps)) := by
  obtain ⟨_, h1, h2, h3⟩ := h
  cases h1
  refine ⟨_, rfl, fun p hp => ?_, by simp; omega⟩
  rcases List.mem_cons.mp hp with rfl | hp
  · exact .inl ⟨_, rfl⟩
  · exact h2 p hp
theorem pth_i {k : Nat} {ps : List D} (h : Pth (.lst ps)) (hl : ps.length < 10) : Pth (.lst (.int (k : Int) :: ps)) := by
  obtain ⟨_, h1, h2, h3⟩ := h
  cases h1
  refine ⟨_, rfl, fun p hp => ?_, by simp; omega⟩
  rcases List.mem_cons.mp hp with rfl | hp
  · exact .inr ⟨_, rfl⟩
  · exact h2 p hp
theorem path_ok {ns : List Int} (hn : ns.length ≤ 1000) {k : Int} (h0 : 0 ≤ k) (h1 : k < 2 ^ 25) : ∃ fl ps, m_path [.scr ns, .int k] = .ok (fl, .lst ps) ∧ (∀ p ∈ ps, Stp p) ∧ ps.length < 1000 := by
  obtain ⟨c, hc, c0, c1⟩ := cell_ok hn h0 (k := k) (by omega)
  obtain ⟨fn, dn, hnm, a, b, z, rfl⟩ := names_ok hn
  obtain ⟨some7, h7⟩ : ∃ l : List D, l = [.lst [.str a], .lst [.str b], .lst [.str z], .lst [], .lst [.str z, .int 0], .lst [.str a, .str "a"], .lst [.str z, .int 1]] := ⟨_, rfl⟩
  obtain ⟨more3, h3⟩ : ∃ l : List D, l = [.lst [.str a, .int 0], .lst [.str "zz"], .lst [.str z, .int 0, .str "a"]] := ⟨_, rfl⟩
  have hcut : cutL some7 none (some 3) = [.lst [.str a], .lst [.str b], .lst [.str z]] := by rw [h7]; rfl
  have hall : ∀ d ∈ (some7 ++ more3) ++ [.lst [.str a], .lst [.str b], .lst [.str z]], Pth d := fun d hd => by
    rw [h7, h3] at hd
    simp only [List.cons_append, List.nil_append, List.mem_cons, List.not_mem_nil, or_false] at hd
    rcases hd with rfl | rfl | rfl | rfl | rfl | rfl | rfl | rfl | rfl | rfl | rfl | rfl | rfl
    · exact pth_s pth0 (by decide)
    · exact pth_s pth0 (by decide)
    · exact pth_s pth0 (by decide)
    · exact pth0
    · exact pth_s (pth_i (k := 0) pth0 (by decide)) (by decide)
    · exact pth_s (pth_s pth0 (by decide)) (by decide)
    · exact pth_s (pth_i (k := 1) pth0 (by decide)) (by decide)
    · exact pth_s (pth_i (k := 0) pth0 (by decide)) (by decide)
    · exact pth_s pth0 (by decide)
    · exact pth_s (pth_i (k := 0) (pth_s pth0 (by decide)) (by decide)) (by decide)
    · exact pth_s pth0 (by decide)
    · exact pth_s pth0 (by decide)
    · exact pth_s pth0 (by decide)
  have l7 : some7.length = 7 := by rw [h7]; rfl
  have l3 : more3.length = 3 := by rw [h3]; rfl
  obtain ⟨d, hd, hx⟩ := ix_lst (ds := (some7 ++ more3) ++ [.lst [.str a], .lst [.str b], .lst [.str z]]) (i := c % 13) (Int.emod_nonneg _ (by decide)) (by rw [List.length_append, List.length_append, l7, l3]; exact Int.emod_lt_of_pos _ (by decide))
  obtain ⟨ps, rfl, hp1, hp2⟩ := hall d hd
  have nm : ∀ (j : Nat) (s : Str), [D.str a, D.str b, D.str z][j]? = some (.str s) → ∀ r, (g2 (gCall (gCons (gVar 0) (gNil)) m_names) (gCon (.int (j : Int))) (fun x y => ofO (ixD x.2 y.2))) (some (.scr ns) :: r) = .ok (.T, .str s) := fun j s hj r => by
    have hc : gCall (gCons (gVar 0) gNil) m_names (some (.scr ns) :: r) = .ok (fn, .lst [.str a, .str b, .str z]) := by
      simp only [gCall, gCons, gNil, gVar, List.getElem?_cons_zero, sh_scr, Res.bind_ok, hnm]
    rw [g2_ok hc (y := (.T, .int (j : Int))) rfl]
    show ofO (ixD (.lst [D.str a, D.str b, D.str z]) (.int (j : Int))) = _
    rw [ixD_lst, atI_nat hj]; rfl
  refine ⟨flL ps, ps, ?_, hp1, hp2⟩
  unfold m_path g_law_path
  have e1 : gSet 2 [0, 1] (gCall (gCons (gVar 0) (gCons (gVar 1) (gNil))) m_cell) (enter 6 [.scr ns, .int k]) = .nx [some (.S, .scr ns), some (.T, .int k), some (.T, .int c), none, none, none] := q_set (x := (.T, .int c)) (cell_set hc _) rfl
  refine runG_fin (fin_seq e1 (fin_seq (q_set (x := (.T, .str a)) (nm 0 a rfl _) rfl) (fin_seq (q_set (x := (.T, .str z)) (nm 2 z rfl _) rfl) (fin_seq (ρ1 := [some (.S, .scr ns), some (.T, .int k), some (.T, .int c), some (.T, .str a), some (.T, .str z), some (.T, .lst some7)]) (q_set (x := (.T, .lst some7)) ?_ rfl) (fin_rt (q_ret ?_))))))
  · have hb := nm 1 b rfl [none, none, some (.str a), some (.str z), none]
    show gLst _ [some (.scr ns), none, none, some (.str a), some (.str z), none] = _
    have hb' : (g2 (gCall (gCons (gVar 0) (gNil)) m_names) (gCon (.int 1)) (fun x y => ofO (ixD x.2 y.2))) [some (.scr ns), none, none, some (.str a), some (.str z), none] = .ok (.T, .str b) := hb
    have sz7q : decide (0 + 1 + 1 + 1 + 1 + 1 + 1 + 1 ≤ sizeLine) = true := by decide +kernel
    have sz0q : decide (0 ≤ sizeLine) = true := by decide +kernel
    simp only [gLst, lCons, lNil, hb', gVar, gCon, List.getElem?_cons_zero, List.getElem?_cons_succ, sh_str, Res.bind_ok, chk, List.length_cons, List.length_nil, sz0q, sz1q, sz2q, sz7q, if_true, mkL, List.map_cons, List.map_nil, h7]
    rfl
  · show gCall _ _ [some (.scr ns), none, some (.int c), some (.str a), some (.str z), some (.lst some7)] = _
    have ha1 : addD (.lst some7) (.lst more3) = some (.R, .lst (some7 ++ more3)) := by
      simp only [addD]; rw [if_pos (by rw [l7, l3]; decide)]
    have ha2 : addD (.lst (some7 ++ more3)) (.lst (cutL some7 none (some 3))) = some (.R, .lst ((some7 ++ more3) ++ [.lst [.str a], .lst [.str b], .lst [.str z]])) := by
      rw [hcut]; simp only [addD]; rw [if_pos (by rw [List.length_append, l7, l3]; exact (show (7 + 3 + 3 : Nat) ≤ sizeLine by decide))]
    have hm3 : gLst (lCons (gLst (lCons (gVar 3) (lCons (gCon (.int 0)) (lNil)))) (lCons (gLst (lCons (gCon (.str "zz")) (lNil))) (lCons (gLst (lCons (gVar 4) (lCons (gCon (.int 0)) (lCons (gCon (.str "a")) (lNil))))) (lNil)))) [some (.scr ns), none, some (.int c), some (.str a), some (.str z), some (.lst some7)] = .ok (.T, .lst more3) := by
      simp only [gLst, lCons, lNil, gVar, gCon, List.getElem?_cons_zero, List.getElem?_cons_succ, sh_str, Res.bind_ok, chk, List.length_cons, List.length_nil, sz1q, sz2q, sz3q, if_true, mkL, List.map_cons, List.map_nil, h3]
      rfl
    have hsl : gSl (gVar 5) none (some (gCon (.int 3))) [some (.scr ns), none, some (.int c), some (.str a), some (.str z), some (.lst some7)] = .ok (flL (cutL some7 none (some 3)), .lst (cutL some7 none (some 3))) := rfl
    have hadd : (g2 (g2 (gVar 5) (gLst (lCons (gLst (lCons (gVar 3) (lCons (gCon (.int 0)) (lNil)))) (lCons (gLst (lCons (gCon (.str "zz")) (lNil))) (lCons (gLst (lCons (gVar 4) (lCons (gCon (.int 0)) (lCons (gCon (.str "a")) (lNil))))) (lNil))))) (fun x y => ofO (addD x.2 y.2))) (gSl (gVar 5) none (some (gCon (.int 3)))) (fun x y => ofO (addD x.2 y.2))) [some (.scr ns), none, some (.int c), some (.str a), some (.str z), some (.lst some7)] = .ok (.R, .lst ((some7 ++ more3) ++ [.lst [.str a], .lst [.str b], .lst [.str z]])) := by
      rw [g2_ok (x := (.R, .lst (some7 ++ more3))) (by rw [g2_ok (x := (.S, .lst some7)) rfl hm3]; simp only [ha1, ofO_some]) hsl]
      simp only [ha2, ofO_some]
    have hixx : (g2 (g2 (g2 (gVar 5) (gLst (lCons (gLst (lCons (gVar 3) (lCons (gCon (.int 0)) (lNil)))) (lCons (gLst (lCons (gCon (.str "zz")) (lNil))) (lCons (gLst (lCons (gVar 4) (lCons (gCon (.int 0)) (lCons (gCon (.str "a")) (lNil))))) (lNil))))) (fun x y => ofO (addD x.2 y.2))) (gSl (gVar 5) none (some (gCon (.int 3)))) (fun x y => ofO (addD x.2 y.2))) (g2 (gVar 2) (gCon (.int 13)) (fun x y => ofO (modD x.2 y.2))) (fun x y => ofO (ixD x.2 y.2))) [some (.scr ns), none, some (.int c), some (.str a), some (.str z), some (.lst some7)] = .ok (sh (.lst ps)) := by
      rw [g2_ok hadd (y := (.T, .int (c % 13))) (by simp only [g2, gVar, gCon, List.getElem?_cons_zero, List.getElem?_cons_succ, sh_int, Res.bind_ok, md_13, ofO_some])]
      simp only [hx, ofO_some]
    simp only [gCall, gCons, gNil, hixx, Res.bind_ok, sh_2, listD, ofO_some]
end G
end

section
set_option Elab.async false
set_option maxRecDepth 100000
set_option linter.all false
set_option maxHeartbeats 4000000
namespace G
open PySem PySem.Spec
open PyProof.Rows hiding intD
open L2 hiding gCons gNil gLst
open VL
theorem keyInts_map (ks : List Int) : keyInts (ks.map Sum.inl) = some ks := by
  induction ks with
  | nil => rfl
  | cons k ks ih => rw [List.map_cons]; unfold keyInts; rw [ih]; rfl
theorem sortD_int {kds : List (Key × D)} {ks : List Int} (h : kds.map (·.1) = ks.map Sum.inl) (hl : kds.length < 60) : sortD [.dct kds] = some (.T, .lst ((sortInt ks).map D.int)) := by
  have hl2 : ks.length < 64 := by
    have := congrArg List.length h
    simp at this; omega
  cases ks with
  | nil =>
    have : keyStrs (kds.map (·.1)) = some [] := by rw [h]; rfl
    simp [sortD, this, oT, sortStr, sortInt]
  | cons k ks =>
    have h1 : keyStrs (List.map (fun x => x.1) kds) = none := by rw [h]; rfl
    have h2 : keyInts (List.map (fun x => x.1) kds) = some (k :: ks) := by rw [h]; exact keyInts_map _
    simp only [sortD, h1, h2, if_pos hl2]; rfl
/-- what the law works on -/
structure Wk (recs : List (Key × D)) (is : List Int) (paths : List (List D)) : Prop where
  R : Recs 10 recs
  ks : recs.map (·.1) = is.map Sum.inl
  nn : ∀ i ∈ is, 0 ≤ i ∧ i < 1000000
  P : Paths paths
theorem Wk.good {recs : List (Key × D)} {is : List Int} {paths : List (List D)} (h : Wk recs is paths) {k : Int} (hk : k ∈ is) : Good recs paths k := by
  obtain ⟨v, hv, hm⟩ := look_key (kds := recs) (k := .inl k) (by rw [h.ks]; exact List.mem_map.mpr ⟨k, hk, rfl⟩)
  exact ⟨v, 5, hv, TD.mono (by decide) (Nat.le_refl _) (h.R.td _ hm), by decide⟩
theorem Wk.recd {recs : List (Key × D)} {is : List Int} {paths : List (List D)} (h : Wk recs is paths) {k : Int} (hk : k ∈ is) : ∃ r, look recs (.inl k) = some r ∧ TD 20 5 r := by
  obtain ⟨v, hv, hm⟩ := look_key (kds := recs) (k := .inl k) (by rw [h.ks]; exact List.mem_map.mpr ⟨k, hk, rfl⟩)
  exact ⟨v, hv, h.R.td _ hm⟩
theorem Wk.far {recs : List (Key × D)} {is : List Int} {paths : List (List D)} (h : Wk recs is paths) {k : Int} (hk : 1000000 ≤ k) : look recs (.inl k) = none := by
  cases hl : look recs (.inl k) with
  | none => rfl
  | some v =>
    exfalso
    unfold look at hl
    obtain ⟨kv, h1, _⟩ := Option.map_eq_some_iff.mp hl
    have h2 := List.find?_some h1
    simp only [decide_eq_true_eq] at h2
    have h3 : kv.1 ∈ is.map Sum.inl := by rw [← h.ks]; exact List.mem_map.mpr ⟨kv, List.mem_of_find?_eq_some h1, rfl⟩
    obtain ⟨i, hi, e⟩ := List.mem_map.mp h3
    rw [h2] at e
    cases e
    have := h.nn k hi
    omega
def recAt (recs : List (Key × D)) (k : Int) : D := (look recs (.inl k)).getD .non
def pairs (recs : List (Key × D)) (ks : List Int) : D := .lst (ks.map fun k => .lst [.int k, recAt recs k])
/-- [[key, records[key]] for key in some] -/
theorem pairs_ok {recs : List (Key × D)} {ks : List Int} (hk : ∀ k ∈ ks, ∃ r, look recs (.inl k) = some r) (hl : ks.length < 1000) {ρ : List (Option D)} (h1 : ρ[1]? = some (some (.dct recs))) (h2 : ρ[2]? = some (some (.lst (ks.map D.int)))) (hlen : ρ.length = 15) :
    ∃ fl, gComp [13] [13] (gItL (gVar 2)) t1 (cYes) (gLst (lCons (gVar 13) (lCons (g2 (gVar 1) (gVar 13) (fun x y => ofO (ixD x.2 y.2))) (lNil)))) ρ = .ok (fl, pairs recs ks) := by
  have e1 : compL t1 [13] cYes (gLst (lCons (gVar 13) (lCons (g2 (gVar 1) (gVar 13) (fun x y => ofO (ixD x.2 y.2))) (lNil)))) (wipeD ρ [13]) (ks.map fun k => sh (.int k)) = .ok (ks.map fun k => mkL [((.T, .int k) : FD), sh (recAt recs k)]) := compL_on fun k hk' => ⟨[.int k], rfl, by
    have hl' : (wipeD ρ [13]).length = 15 := by simp [wipeD, hlen]
    have a13 : ((wipeD ρ [13]).set 13 (some (.int k)))[13]? = some (some (.int k)) := List.getElem?_set_self (by omega)
    have a1 : ((wipeD ρ [13]).set 13 (some (.int k)))[1]? = some (some (.dct recs)) := by
      rw [List.getElem?_set_ne (by omega)]
      show (ρ.set 13 none)[1]? = _
      rw [List.getElem?_set_ne (by omega)]; exact h1
    obtain ⟨r, hr⟩ := hk k hk'
    have hra : recAt recs k = r := by unfold recAt; rw [hr]; rfl
    simp only [setsD, gLst, lCons, lNil, gVar, a13, a1, g2, sh_int, sh_dct, Res.bind_ok, ixD, keyOf, Option.bind_some, hr, Option.map_some, ofO_some, chk, List.length_cons, List.length_nil, sz2q, if_true, hra]⟩
  refine ⟨(mkL (ks.map fun k => mkL [((.T, .int k) : FD), sh (recAt recs k)])).1, ?_⟩
  unfold gComp
  simp only [gItL, gVar, h2, sh_lst, Res.bind_ok, itemsL]
  rw [show (List.map sh (List.map D.int ks)) = ks.map fun k => sh (.int k) by simp, if_pos (by rw [List.length_map]; exact td_sz hl (by decide)), e1, Res.bind_ok]
  refine congrArg Res.ok (Prod.ext rfl ?_)
  unfold mkL pairs
  simp only [List.map_map]
  rfl
theorem comp_of {own is : List Nat} {k : GA} {t : D → Option (List D)} {g : GE} {ρ : List (Option D)} {xs ys : List FD} (hk : k ρ = .ok xs) (hl : xs.length ≤ sizeLine) (h : compL t is cYes g (wipeD ρ own) xs = .ok ys) : gComp own is k t cYes g ρ = .ok (mkL ys) := by
  unfold gComp; rw [hk, Res.bind_ok, if_pos hl, h, Res.bind_ok]
theorem pairs_td {recs : List (Key × D)} {ks : List Int} (hk : ∀ k ∈ ks, ∃ r, look recs (.inl k) = some r ∧ TD 20 5 r) (hl : ks.length < 20) : TD 20 7 (pairs recs ks) := by
  refine ⟨by simpa using hl, fun d hd => ?_⟩
  obtain ⟨k, hk', rfl⟩ := List.mem_map.mp hd
  obtain ⟨r, hr, ht⟩ := hk k hk'
  refine ⟨by simp, fun d hd => ?_⟩
  rcases List.mem_cons.mp hd with rfl | hd
  · trivial
  · rw [List.mem_singleton.mp hd]; unfold recAt; rw [hr]; exact ht
/-- what is due -/
def dueOf (recs : List (Key × D)) (paths : List (List D)) (ks : List Int) : D := .lst (ks.map (rowOf recs paths))
theorem due_td {recs : List (Key × D)} {is : List Int} {paths : List (List D)} (h : Wk recs is paths) {ks : List Int} (hk : ∀ k ∈ ks, k ∈ is) (hl : ks.length < 20) (hp : paths.length < 20) : TD 20 7 (dueOf recs paths ks) := by
  refine ⟨by simpa using hl, fun d hd => ?_⟩
  obtain ⟨k, hk', rfl⟩ := List.mem_map.mp hd
  obtain ⟨r, hr, ht⟩ := h.recd (hk k hk')
  refine ⟨by simpa using hp, fun d hd => ?_⟩
  obtain ⟨ps, hps, rfl⟩ := List.mem_map.mp hd
  rw [hr]
  show TD 20 5 ((walk r ps).getD .non)
  have : ∀ {ps : List D} {d e : D}, TD 20 5 d → walk d ps = some e → TD 20 5 e := by
    intro ps
    induction ps with
    | nil => intro d e h hw; cases hw; exact h
    | cons p ps ih =>
      intro d e h hw
      obtain ⟨e', h1, h2⟩ := Option.bind_eq_some_iff.mp hw
      exact ih (step_td h h1) h2
  cases hw : walk r ps with
  | none => trivial
  | some e => exact this ht hw
theorem due_ok {recs : List (Key × D)} {is : List Int} {paths : List (List D)} (h : Wk recs is paths) {ks : List Int} (hk : ∀ k ∈ ks, k ∈ is) (hl : ks.length < 1000) {ρ : List (Option D)} (h1 : ρ[1]? = some (some (.dct recs))) (h3 : ρ[3]? = some (some (.lst (ks.map D.int)))) (h5 : ρ[5]? = some (some (.lst (paths.map D.lst)))) (hlen : ρ.length = 15) :
    ∃ fl, gComp [13] [13] (gItL (gVar 3)) t1 (cYes) (gComp [14] [14] (gItL (gVar 5)) t1 (cYes) (g2 (gCall (gCons (g2 (gVar 1) (gVar 13) (fun x y => ofO (ixD x.2 y.2))) (gCons (gVar 14) (gNil))) m_led) (gCon (.int 1)) (fun x y => ofO (ixD x.2 y.2)))) ρ = .ok (fl, dueOf recs paths ks) := by
  have e1 : compL t1 [13] cYes (gComp [14] [14] (gItL (gVar 5)) t1 (cYes) (g2 (gCall (gCons (g2 (gVar 1) (gVar 13) (fun x y => ofO (ixD x.2 y.2))) (gCons (gVar 14) (gNil))) m_led) (gCon (.int 1)) (fun x y => ofO (ixD x.2 y.2)))) (wipeD ρ [13]) (ks.map fun k => sh (.int k)) = .ok (ks.map fun k => mkL (paths.map fun ps => sh ((walk (recAt recs k) ps).getD .non))) := compL_on fun k hk' => ⟨[.int k], rfl, by
    have hl' : (wipeD ρ [13]).length = 15 := by simp [wipeD, hlen]
    obtain ⟨ρ2, hρ2⟩ : ∃ ρ2, ρ2 = (wipeD ρ [13]).set 13 (some (.int k)) := ⟨_, rfl⟩
    have hl2 : ρ2.length = 15 := by rw [hρ2, List.length_set, hl']
    have a13 : ρ2[13]? = some (some (.int k)) := by rw [hρ2]; exact List.getElem?_set_self (by omega)
    have ai : ∀ i : Nat, i < 13 → ρ2[i]? = ρ[i]? := fun i hi => by
      rw [hρ2, List.getElem?_set_ne (by omega)]
      show (ρ.set 13 none)[i]? = _
      rw [List.getElem?_set_ne (by omega)]
    obtain ⟨r, hr, ht⟩ := h.recd (hk k hk')
    have hra : recAt recs k = r := by unfold recAt; rw [hr]; rfl
    show gComp _ _ _ _ _ _ ((wipeD ρ [13]).set 13 (some (.int k))) = _
    rw [← hρ2]
    have e2 : compL t1 [14] cYes (g2 (gCall (gCons (g2 (gVar 1) (gVar 13) (fun x y => ofO (ixD x.2 y.2))) (gCons (gVar 14) (gNil))) m_led) (gCon (.int 1)) (fun x y => ofO (ixD x.2 y.2))) (wipeD ρ2 [14]) (paths.map fun ps => sh (.lst ps)) = .ok (paths.map fun ps => sh ((walk r ps).getD .non)) := compL_on fun ps hps => ⟨[.lst ps], rfl, by
      have hl3 : (wipeD ρ2 [14]).length = 15 := by simp [wipeD, hl2]
      have b14 : ((wipeD ρ2 [14]).set 14 (some (.lst ps)))[14]? = some (some (.lst ps)) := List.getElem?_set_self (by omega)
      have bi : ∀ i : Nat, i < 14 → ((wipeD ρ2 [14]).set 14 (some (.lst ps)))[i]? = ρ2[i]? := fun i hi => by
        rw [List.getElem?_set_ne (by omega)]
        show (ρ2.set 14 none)[i]? = _
        rw [List.getElem?_set_ne (by omega)]
      have b13 := (bi 13 (by decide)).trans a13
      have b1 := ((bi 1 (by decide)).trans (ai 1 (by decide))).trans h1
      obtain ⟨fl, x0, hled⟩ := led_ok (ps := ps) ht (h.P.ok ps hps).1
      obtain ⟨f, hf⟩ : ∃ f, sh r = (f, r) := ⟨_, rfl⟩
      have hc : gCall (gCons (g2 (gVar 1) (gVar 13) (fun x y => ofO (ixD x.2 y.2))) (gCons (gVar 14) (gNil))) m_led ((wipeD ρ2 [14]).set 14 (some (.lst ps))) = .ok (fl, .lst [x0, (walk r ps).getD .non]) := by
        simp only [gCall, gCons, gNil, g2, gVar, b14, b13, b1, sh_lst, sh_int, sh_dct, Res.bind_ok, ixD, keyOf, Option.bind_some, hr, Option.map_some, ofO_some, hf, hled]
      show g2 _ _ _ ((wipeD ρ2 [14]).set 14 (some (.lst ps))) = _
      rw [g2_ok hc (y := (.T, .int 1)) rfl]
      rfl⟩
    unfold gComp
    simp only [gItL, gVar, (ai 5 (by decide)).trans h5, sh_lst, Res.bind_ok, itemsL]
    rw [show (List.map sh (List.map D.lst paths)) = paths.map fun ps => sh (.lst ps) by simp, if_pos (by rw [List.length_map]; exact td_sz h.P.sz (by decide)), e2, Res.bind_ok, hra]⟩
  refine ⟨(mkL (ks.map fun k => mkL (paths.map fun ps => sh ((walk (recAt recs k) ps).getD .non)))).1, ?_⟩
  rw [comp_of (xs := ks.map fun k => sh (.int k)) (by simp only [gItL, gVar, h3, sh_lst, Res.bind_ok, itemsL]; simp) (by rw [List.length_map]; exact td_sz hl (by decide)) e1]
  refine congrArg Res.ok (Prod.ext rfl ?_)
  unfold mkL dueOf
  simp only [List.map_map]
  rfl
end G
end

section
set_option Elab.async false
set_option maxRecDepth 100000
set_option linter.all false
set_option maxHeartbeats 4000000
namespace G
open PySem PySem.Spec
open PyProof.Rows hiding intD
open L2 hiding gCons gNil gLst
open VL
abbrev b_keys : GS := gIfS [2] (gTest (g2 (gVar 2) (gLst (lNil)) (fun x y => ofO ((fB fun a b => (eqN 32 a b).map (!·)) x.2 y.2)))) (gApp 3 [0, 2, 4] (g2 (gVar 2) (g2 (gCall (gCons (gVar 0) (gCons (g2 (gCon (.int 20)) (gVar 4) (fun x y => ofO (addD x.2 y.2))) (gNil))) m_cell) (gCall (gCons (gVar 2) (gNil)) (fun ds => ofO (lenD ds))) (fun x y => ofO (modD x.2 y.2))) (fun x y => ofO (ixD x.2 y.2)))) (gPass)
theorem mem_sort {k : Int} {is : List Int} : k ∈ sortInt is ↔ k ∈ is := (List.mergeSort_perm is leInt).mem_iff
theorem sort_len {is : List Int} : (sortInt is).length = is.length := (List.mergeSort_perm is leInt).length_eq
theorem arg_key {m : List D → Res FD} {ns : List Int} {c y L i : Int} {w : Option D} {ds : List D} {k : D} {r : List (Option D)} (hc : m [.scr ns, .int (20 + y)] = .ok (.T, .int c)) (hL : (ds.length : Int) = L) (hmd : modD (.int c) (.int L) = some (.T, .int i)) (hx : ixD (.lst ds) (.int i) = some (sh k)) :
    (g2 (gVar 2) (g2 (gCall (gCons (gVar 0) (gCons (g2 (gCon (.int 20)) (gVar 4) (fun x y => ofO (addD x.2 y.2))) (gNil))) m) (gCall (gCons (gVar 2) (gNil)) (fun ds => ofO (lenD ds))) (fun x y => ofO (modD x.2 y.2))) (fun x y => ofO (ixD x.2 y.2))) (some (.scr ns) :: w :: some (.lst ds) :: none :: some (.int y) :: r) = .ok (sh k) := by
  simp only [g2, gCall, gCons, gNil, gVar, gCon, List.getElem?_cons_zero, List.getElem?_cons_succ, sh_scr, sh_int, sh_lst, Res.bind_ok, ad_i, ofO_some, hc, lenD, oT, hL, hmd, hx]
theorem keys_ok {ns : List Int} (hn : ns.length ≤ 1000) {f1 : Fl} {r : D} {sk : List Int} (hsk : sk.length < 1000) {N : Nat} (hN : N < 10) :
    ∃ (ks : List Int) (x : Option FD), forL t1 [4] b_keys (rngD 0 N) [some (.S, .scr ns), some (f1, r), some (.T, .lst (sk.map D.int)), some (.T, .lst []), none, none, none, none, none, none, none, none, none, none, none] = .nx [some (.S, .scr ns), some (f1, r), some (.T, .lst (sk.map D.int)), some (.T, .lst (ks.map D.int)), x, none, none, none, none, none, none, none, none, none, none] ∧ ks.length ≤ N ∧ (∀ k ∈ ks, k ∈ sk) ∧ (x = none ∨ ∃ i, x = some (.T, .int i)) := by
  obtain ⟨ρ', e1, ks, x, rfl, h1, h2, h3⟩ := forL_rng (is := [4]) (g := b_keys) (n := N) (ρ := [some (.S, .scr ns), some (f1, r), some (.T, .lst (sk.map D.int)), some (.T, .lst []), none, none, none, none, none, none, none, none, none, none, none])
    (fun i ρ => ∃ (ks : List Int) (x : Option FD), ρ = [some (.S, .scr ns), some (f1, r), some (.T, .lst (sk.map D.int)), some (.T, .lst (ks.map D.int)), x, none, none, none, none, none, none, none, none, none, none] ∧ ks.length ≤ i ∧ (∀ k ∈ ks, k ∈ sk) ∧ (x = none ∨ ∃ i, x = some (.T, .int i))) (fun j hj ρ hρ => by
      obtain ⟨ks, x, rfl, h1, h2, h3⟩ := hρ
      obtain ⟨c, hc, c0, c1⟩ := cell_ok hn (k := 20 + (j : Int)) (by omega) (by omega)
      obtain ⟨y, hy⟩ : ∃ y : Int, y = j := ⟨_, rfl⟩
      rw [← hy] at hc ⊢
      obtain ⟨u, hu⟩ : ∃ u, viewF [2] 0 [some (.S, .scr ns), some (f1, r), some (.T, .lst (sk.map D.int)), some (.T, .lst (ks.map D.int)), some (.T, .int y), none, none, none, none, none, none, none, none, none, none] = [some (.scr ns), u, some (.lst (sk.map D.int)), none, none, none, none, none, none, none, none, none, none, none, none] := by cases f1 <;> exact ⟨_, rfl⟩
      obtain ⟨w, hw⟩ : ∃ u, viewF [0, 2, 4] 0 [some (.S, .scr ns), some (f1, r), some (.T, .lst (sk.map D.int)), some (.T, .lst (ks.map D.int)), some (.T, .int y), none, none, none, none, none, none, none, none, none, none] = [some (.scr ns), u, some (.lst (sk.map D.int)), none, some (.int y), none, none, none, none, none, none, none, none, none, none] := by cases f1 <;> exact ⟨_, rfl⟩
      have tst : gTest (g2 (gVar 2) (gLst (lNil)) (fun x y => ofO ((fB fun a b => (eqN 32 a b).map (!·)) x.2 y.2))) [some (.scr ns), u, some (.lst (sk.map D.int)), none, none, none, none, none, none, none, none, none, none, none, none] = .ok (!sk.isEmpty) := by
        have hl : gLst lNil [some (.scr ns), u, some (.lst (sk.map D.int)), none, none, none, none, none, none, none, none, none, none, none, none] = .ok (.T, .lst []) := rfl
        have hq : eqN 32 (.lst (sk.map D.int)) (.lst []) = some sk.isEmpty := by
          cases sk with
          | nil => rfl
          | cons a l => rfl
        unfold gTest
        rw [g2_ok (x := (.S, .lst (sk.map D.int))) rfl hl]
        simp only [fB, hq, Option.map_some, ofO_some, Res.bind_ok, toB]
      cases hsk0 : sk.isEmpty with
      | true =>
        refine ⟨_, q_iff (by rw [show setsF [some (.S, .scr ns), some (f1, r), some (.T, .lst (sk.map D.int)), some (.T, .lst (ks.map D.int)), x, none, none, none, none, none, none, none, none, none, none] [4] [.int y] = [some (.S, .scr ns), some (f1, r), some (.T, .lst (sk.map D.int)), some (.T, .lst (ks.map D.int)), some (.T, .int y), none, none, none, none, none, none, none, none, none, none] from rfl, hu, tst, hsk0]; rfl) rfl, ks, _, rfl, Nat.le_succ_of_le h1, h2, .inr ⟨y, rfl⟩⟩
      | false =>
        have hpos : 0 < sk.length := by
          cases sk with
          | nil => simp at hsk0
          | cons a l => simp
        obtain ⟨d, hd, hx⟩ := ix_lst (ds := sk.map D.int) (i := c % sk.length) (Int.emod_nonneg _ (by omega)) (by rw [List.length_map]; exact Int.emod_lt_of_pos _ (by omega))
        obtain ⟨k, hk, rfl⟩ := List.mem_map.mp hd
        have hmd : modD (.int c) (.int ((sk.map D.int).length : Int)) = some (.T, .int (c % sk.length)) := by rw [List.length_map]; exact md_of (by omega)
        have e2 : (gApp 3 [0, 2, 4] (g2 (gVar 2) (g2 (gCall (gCons (gVar 0) (gCons (g2 (gCon (.int 20)) (gVar 4) (fun x y => ofO (addD x.2 y.2))) (gNil))) m_cell) (gCall (gCons (gVar 2) (gNil)) (fun ds => ofO (lenD ds))) (fun x y => ofO (modD x.2 y.2))) (fun x y => ofO (ixD x.2 y.2)))) [some (.S, .scr ns), some (f1, r), some (.T, .lst (sk.map D.int)), some (.T, .lst (ks.map D.int)), some (.T, .int y), none, none, none, none, none, none, none, none, none, none] = .nx [some (.S, .scr ns), some (f1, r), some (.T, .lst (sk.map D.int)), some (.T, .lst ((ks ++ [k]).map D.int)), some (.T, .int y), none, none, none, none, none, none, none, none, none, none] := by
          have hlen : (ks.map D.int).length < sizeLine := by rw [List.length_map]; exact lt_size (b := 1000) (by omega) (by decide)
          have hexp : (g2 (gVar 2) (g2 (gCall (gCons (gVar 0) (gCons (g2 (gCon (.int 20)) (gVar 4) (fun x y => ofO (addD x.2 y.2))) (gNil))) m_cell) (gCall (gCons (gVar 2) (gNil)) (fun ds => ofO (lenD ds))) (fun x y => ofO (modD x.2 y.2))) (fun x y => ofO (ixD x.2 y.2))) [some (.scr ns), w, some (.lst (sk.map D.int)), none, some (.int y), none, none, none, none, none, none, none, none, none, none] = .ok (.T, .int k) := by
            exact arg_key hc rfl hmd hx
          simp only [gApp, List.getElem?_cons_zero, List.getElem?_cons_succ]
          rw [hw, hexp]
          simp only [viaE, if_pos hlen, mutV, and_self, if_true, List.set_cons_succ, List.set_cons_zero, List.map_append, List.map_cons, List.map_nil]
        refine ⟨_, q_ift (by rw [show setsF [some (.S, .scr ns), some (f1, r), some (.T, .lst (sk.map D.int)), some (.T, .lst (ks.map D.int)), x, none, none, none, none, none, none, none, none, none, none] [4] [.int y] = [some (.S, .scr ns), some (f1, r), some (.T, .lst (sk.map D.int)), some (.T, .lst (ks.map D.int)), some (.T, .int y), none, none, none, none, none, none, none, none, none, none] from rfl, hu, tst, hsk0]; rfl) e2, ks ++ [k], _, rfl, by simp; omega, fun k' hk' => ?_, .inr ⟨y, rfl⟩⟩
        rcases List.mem_append.mp hk' with hk' | hk'
        · exact h2 k' hk'
        · rw [List.mem_singleton.mp hk']; exact hk) ⟨[], none, rfl, Nat.le_refl _, by simp, .inl rfl⟩
  exact ⟨ks, x, e1, h1, h2, h3⟩
end G
end

section
set_option Elab.async false
set_option maxRecDepth 100000
set_option linter.all false
set_option maxHeartbeats 4000000
namespace G
open PySem PySem.Spec
open PyProof.Rows hiding intD
open L2 hiding gCons gNil gLst
open VL
theorem paths_of : ∀ {ys : List FD}, (∀ y ∈ ys, Pth y.2) → ∃ paths : List (List D), ys.map (·.2) = paths.map D.lst ∧ paths.length = ys.length ∧ ∀ ps ∈ paths, (∀ p ∈ ps, Stp p) ∧ ps.length < 1000
  | [], _ => ⟨[], rfl, rfl, by simp⟩
  | y :: ys, h => by
    obtain ⟨ps, h1, h2⟩ := h y List.mem_cons_self
    obtain ⟨paths, h3, h4, h5⟩ := paths_of (ys := ys) fun z hz => h z (List.mem_cons_of_mem _ hz)
    refine ⟨ps :: paths, by simp [h1, h3], by simp [h4], fun q hq => ?_⟩
    rcases List.mem_cons.mp hq with rfl | hq
    · exact h2
    · exact h5 q hq
theorem arg_path {m : List D → Res FD} {ns : List Int} {y : Int} {v : Res FD} {ρ : List (Option D)} (h0 : ρ[0]? = some (some (.scr ns))) (h4 : ρ[4]? = some (some (.int y))) (h : m [.scr ns, .int (60 + y)] = v) : gCall (gCons (gVar 0) (gCons (g2 (gCon (.int 60)) (gVar 4) (fun x y => ofO (addD x.2 y.2))) (gNil))) m ρ = v := by
  simp only [gCall, gCons, gNil, g2, gVar, gCon, h4, h0, sh_scr, sh_int, Res.bind_ok, ad_i, ofO_some, h]
theorem paths_ok {ns : List Int} (hn : ns.length ≤ 1000) {ρ : List (Option D)} (h0 : ρ[0]? = some (some (.scr ns))) (hlen : ρ.length = 15) :
    ∃ fl paths, gComp [4] [4] (gItR1 (g2 (gCall (gCons (gVar 0) (gCons (gCon (.int 2)) (gNil))) m_cell) (gCon (.int 6)) (fun x y => ofO (modD x.2 y.2)))) t1 (cYes) (gCall (gCons (gVar 0) (gCons (g2 (gCon (.int 60)) (gVar 4) (fun x y => ofO (addD x.2 y.2))) (gNil))) m_path) ρ = .ok (fl, .lst (paths.map D.lst)) ∧ Paths paths ∧ paths.length < 20 := by
  obtain ⟨c, hc, c0, c1⟩ := cell_ok hn (k := 2) (by decide) (by decide)
  obtain ⟨N, hN⟩ := Int.eq_ofNat_of_zero_le (show 0 ≤ c % 6 by omega)
  have hN6 : N < 6 := by omega
  obtain ⟨ys, e1, e2, e3⟩ := compL_ex (t := t1) (is := [4]) (g := gCall (gCons (gVar 0) (gCons (g2 (gCon (.int 60)) (gVar 4) (fun x y => ofO (addD x.2 y.2))) (gNil))) m_path) (ρ := wipeD ρ [4]) (fun y => Pth y.2) (xs := rngD 0 N) fun x hx => by
    obtain ⟨j, hj, rfl⟩ := mem_rng hx
    obtain ⟨fl, ps, h1, h2, h3⟩ := path_ok hn (k := 60 + (j : Int)) (by omega) (by omega)
    refine ⟨[.int (j : Int)], (fl, .lst ps), rfl, ?_, ps, rfl, h2, h3⟩
    have hl' : (wipeD ρ [4]).length = 15 := by simp [wipeD, hlen]
    clear hN
    revert h1
    generalize (j : Int) = y
    intro h1
    have a4 : ((wipeD ρ [4]).set 4 (some (.int y)))[4]? = some (some (.int y)) := List.getElem?_set_self (by omega)
    have a0 : ((wipeD ρ [4]).set 4 (some (.int y)))[0]? = some (some (.scr ns)) := by
      rw [List.getElem?_set_ne (by omega)]
      show (ρ.set 4 none)[0]? = _
      rw [List.getElem?_set_ne (by omega)]; exact h0
    exact arg_path a0 a4 h1
  rw [rng_len] at e2
  obtain ⟨paths, h1, h2, h3⟩ := paths_of e3
  refine ⟨(mkL ys).1, paths, ?_, ⟨by omega, h3⟩, by omega⟩
  have hrng : gItR1 (g2 (gCall (gCons (gVar 0) (gCons (gCon (.int 2)) (gNil))) m_cell) (gCon (.int 6)) (fun x y => ofO (modD x.2 y.2))) ρ = .ok (rngD 0 N) := by
    refine q_rng (fl := .T) (n := N) (i := c % 6) ?_ hN (by omega)
    simp only [g2, gCall, gCons, gNil, gVar, gCon, h0, sh_scr, Res.bind_ok, hc, md_6, ofO_some]
  refine (comp_of hrng (by rw [rng_len]; exact td_sz (b := 1000) (by omega) (by decide)) e1).trans ?_
  refine congrArg Res.ok (Prod.ext rfl ?_)
  unfold mkL
  rw [h1]
end G
end

section
set_option Elab.async false
set_option maxRecDepth 100000
set_option linter.all false
set_option maxHeartbeats 4000000
namespace G
open PySem PySem.Spec
open PyProof.Rows hiding intD
open L2 hiding gCons gNil gLst
open VL
theorem cut_map {ks : List Int} {lo hi : Option Int} : ∃ ks' : List Int, cutL (ks.map D.int) lo hi = ks'.map D.int ∧ (∀ k ∈ ks', k ∈ ks) ∧ ks'.length ≤ ks.length := by
  refine ⟨cutL ks lo hi, ?_, fun k hk => ?_, ?_⟩
  · unfold cutL
    rw [List.length_map, ← List.map_drop, ← List.map_take]
  · unfold cutL at hk
    exact List.mem_of_mem_drop (List.mem_of_mem_take hk)
  · unfold cutL
    rw [List.length_take, List.length_drop]; omega
/-- keys[:at] + [far] + keys[at:] -/
theorem cuts_ok {ks : List Int} (hl : ks.length < 100) {far at1 : Int} {ρ : List (Option D)} (h3 : ρ[3]? = some (some (.lst (ks.map D.int)))) (h11 : ρ[11]? = some (some (.int far))) (h12 : ρ[12]? = some (some (.int at1))) :
    ∃ (ka kb : List Int) (fl : Fl), (g2 (g2 (gSl (gVar 3) none (some (gVar 12))) (gLst (lCons (gVar 11) (lNil))) (fun x y => ofO (addD x.2 y.2))) (gSl (gVar 3) (some (gVar 12)) none) (fun x y => ofO (addD x.2 y.2))) ρ = .ok (fl, .lst (ka.map D.int ++ .int far :: kb.map D.int)) ∧ (∀ k ∈ ka, k ∈ ks) ∧ ka.length ≤ ks.length := by
  obtain ⟨ka, a1, a2, a3⟩ := cut_map (ks := ks) (lo := none) (hi := some at1)
  obtain ⟨kb, b1, b2, b3⟩ := cut_map (ks := ks) (lo := some at1) (hi := none)
  have z : (1000 : Nat) ≤ sizeLine := by decide
  have e1 : gSl (gVar 3) none (some (gVar 12)) ρ = .ok (flL (ka.map D.int), .lst (ka.map D.int)) := by
    simp only [gSl, gVar, h3, sh_lst, Res.bind_ok, gPt, h12, sh_int, sliceD, a1]
  have e2 : gSl (gVar 3) (some (gVar 12)) none ρ = .ok (flL (kb.map D.int), .lst (kb.map D.int)) := by
    simp only [gSl, gVar, h3, sh_lst, Res.bind_ok, gPt, h12, sh_int, sliceD, b1]
  have e3 : gLst (lCons (gVar 11) (lNil)) ρ = .ok (.T, .lst [.int far]) := by
    simp only [gLst, lCons, lNil, gVar, h11, sh_int, Res.bind_ok, chk, List.length_cons, List.length_nil, sz1q, if_true, mkL, List.map_cons, List.map_nil]
    rfl
  have d1 : addD (.lst (ka.map D.int)) (.lst [.int far]) = some (.R, .lst (ka.map D.int ++ [.int far])) := by
    simp only [addD]; rw [if_pos (by simp; omega)]
  have d2 : addD (.lst (ka.map D.int ++ [.int far])) (.lst (kb.map D.int)) = some (.R, .lst ((ka.map D.int ++ [.int far]) ++ kb.map D.int)) := by
    simp only [addD]; rw [if_pos (by simp; omega)]
  refine ⟨ka, kb, .R, ?_, a2, a3⟩
  rw [g2_ok (x := (.R, .lst (ka.map D.int ++ [.int far]))) (by rw [g2_ok e1 e3]; simp only [d1, ofO_some]) e2]
  simp only [d2, ofO_some, List.append_assoc, List.cons_append, List.nil_append]
end G
end

section
set_option Elab.async false
set_option maxRecDepth 100000
set_option linter.all false
set_option maxHeartbeats 4000000
namespace G
open PySem PySem.Spec
open PyProof.Rows hiding intD
open L2 hiding gCons gNil gLst
open VL
theorem arg2 {m : List D → Res FD} {ns : List Int} {i : Int} {v : Res FD} {r : List (Option D)} (h : m [.scr ns, .int i] = v) : gCall (gCons (gVar 0) (gCons (gCon (.int i)) (gNil))) m (some (.scr ns) :: r) = v := by
  simp only [gCall, gCons, gNil, gVar, gCon, List.getElem?_cons_zero, sh_scr, Res.bind_ok, h]
/-- the first half: records, keys, paths -/
theorem law_head {ns : List Int} (hn : ns.length ≤ 1000) {k : GS} {r : Res FD}
    (rest : ∀ (recs : List (Key × D)) (is ks : List Int) (paths : List (List D)) (f1 f5 : Fl) (x4 : Option FD), Wk recs is paths → is.length ≤ 10 → (∀ k ∈ ks, k ∈ is) → ks.length < 10 → paths.length < 20 → (x4 = none ∨ ∃ i, x4 = some (.T, .int i)) →
      fin (k [some (.S, .scr ns), some (f1, .dct recs), some (.T, .lst ((sortInt is).map D.int)), some (.T, .lst (ks.map D.int)), x4, some (f5, .lst (paths.map D.lst)), none, none, none, none, none, none, none, none, none]) = r) :
    fin (gSeq (gSet 1 [0] (gCall (gCons (gVar 0) (gCons (gCon (.int 10)) (gNil))) m_records)) (gSeq (gSet 2 [1] (gCall (gCons (gVar 1) (gNil)) (fun ds => ofO (sortD ds)))) (gSeq (gSet 3 [] (gLst (lNil))) (gSeq (gFor [0] [4] (gItR1 (g2 (gCall (gCons (gVar 0) (gCons (gCon (.int 1)) (gNil))) m_cell) (gCon (.int 7)) (fun x y => ofO (modD x.2 y.2)))) t1 b_keys) (gSeq (gSet 5 [0] (gComp [4] [4] (gItR1 (g2 (gCall (gCons (gVar 0) (gCons (gCon (.int 2)) (gNil))) m_cell) (gCon (.int 6)) (fun x y => ofO (modD x.2 y.2)))) t1 (cYes) (gCall (gCons (gVar 0) (gCons (g2 (gCon (.int 60)) (gVar 4) (fun x y => ofO (addD x.2 y.2))) (gNil))) m_path))) k)))) (enter 15 [.scr ns])) = r := by
  obtain ⟨f1, recs, hrec, hR⟩ := records_ok hn
  obtain ⟨is, hks, hnn⟩ := hR.ks
  have hil : is.length ≤ 10 := by
    have h1 := congrArg List.length hks
    have h2 := hR.len
    simp at h1; omega
  obtain ⟨c, hc, c0, c1⟩ := cell_ok hn (k := 1) (by decide) (by decide)
  obtain ⟨N, hN⟩ := Int.eq_ofNat_of_zero_le (show 0 ≤ c % 7 by omega)
  have hN7 : N < 7 := by omega
  obtain ⟨ks, x4, hfor, hkl, hkm, hx4⟩ := keys_ok hn (f1 := f1) (r := .dct recs) (sk := sortInt is) (by rw [sort_len]; omega) (N := N) (by omega)
  have hrec' : recs.length < 60 := by have := hR.len; omega
  refine fin_seq (ρ1 := [some (.S, .scr ns), some (f1, .dct recs), none, none, none, none, none, none, none, none, none, none, none, none, none]) (q_set (x := (f1, .dct recs)) (arg2 hrec) (by cases f1 <;> rfl)) ?_
  refine fin_seq (ρ1 := [some (.S, .scr ns), some (f1, .dct recs), some (.T, .lst ((sortInt is).map D.int)), none, none, none, none, none, none, none, none, none, none, none, none]) (q_set (x := (.T, .lst ((sortInt is).map D.int))) ?_ rfl) ?_
  · have hs := sortD_int hks hrec'
    have : viewF [1] 0 [some (.S, .scr ns), some (f1, .dct recs), none, none, none, none, none, none, none, none, none, none, none, none, none] = [some (.scr ns), some (.dct recs), none, none, none, none, none, none, none, none, none, none, none, none, none] := by cases f1 <;> rfl
    rw [this]
    simp only [gCall, gCons, gNil, gVar, List.getElem?_cons_zero, List.getElem?_cons_succ, sh_dct, Res.bind_ok, hs, ofO_some]
  refine fin_seq (q_set (x := (.T, .lst [])) rfl rfl) (fin_seq (q_for (xs := rngD 0 N) ?_ rfl hfor) ?_)
  · refine q_rng (fl := .T) (n := N) (i := c % 7) ?_ hN (by omega)
    refine (g2_ok (x := (.T, .int c)) (y := (.T, .int 7)) ?_ rfl).trans (by simp only [md_7, ofO_some])
    exact arg2 hc
  obtain ⟨f5, paths, hp, hP, hpl⟩ := paths_ok hn (ρ := viewF [0] 0 [some (.S, .scr ns), some (f1, .dct recs), some (.T, .lst ((sortInt is).map D.int)), some (.T, .lst (ks.map D.int)), x4, none, none, none, none, none, none, none, none, none, none]) rfl (by rcases hx4 with rfl | ⟨i, rfl⟩ <;> rfl)
  refine fin_seq (q_set (x := (f5, .lst (paths.map D.lst))) hp ?_) (rest recs is ks paths f1 f5 x4 ⟨hR, hks, hnn, hP⟩ hil (fun k hk => mem_sort.mp (hkm k hk)) (by omega) hpl hx4)
  rcases hx4 with rfl | ⟨i, rfl⟩ <;> cases f5 <;> rfl
end G
end

section
set_option Elab.async false
set_option maxRecDepth 100000
set_option linter.all false
set_option maxHeartbeats 4000000
namespace G
open PySem PySem.Spec
open PyProof.Rows hiding intD
open L2 hiding gCons gNil gLst
open VL
theorem arg1 {m : List D → Res FD} {e : GE} {d : FD} {v : Res FD} {ρ : List (Option D)} (he : e ρ = .ok d) (h : m [d.2] = v) : gCall (gCons e gNil) m ρ = v := by
  simp only [gCall, gCons, gNil, he, Res.bind_ok, h]
theorem arg2e {m : List D → Res FD} {e e' : GE} {d d' : FD} {v : Res FD} {ρ : List (Option D)} (he : e ρ = .ok d) (he' : e' ρ = .ok d') (h : m [d.2, d'.2] = v) : gCall (gCons e (gCons e' gNil)) m ρ = v := by
  simp only [gCall, gCons, gNil, he, he', Res.bind_ok, h]
theorem arg3e {m : List D → Res FD} {e e' e2 : GE} {d d' d2 : FD} {v : Res FD} {ρ : List (Option D)} (he : e ρ = .ok d) (he' : e' ρ = .ok d') (he2 : e2 ρ = .ok d2) (h : m [d.2, d'.2, d2.2] = v) : gCall (gCons e (gCons e' (gCons e2 gNil))) m ρ = v := by
  simp only [gCall, gCons, gNil, he, he', he2, Res.bind_ok, h]
end G
end

section
set_option Elab.async false
set_option maxRecDepth 100000
set_option linter.all false
set_option maxHeartbeats 4000000
namespace G
open PySem PySem.Spec
open PyProof.Rows hiding intD
open L2 hiding gCons gNil gLst
open VL
theorem q_ifio {i j : Nat} {m : D → Int → Option (D × Int)} {vs : List Nat} {c : GT} {g k : GS} {ρ : DE} {a b a' b' : D} {n : Int} {o : Fo} (hij : i ≠ j) (hi : ρ[i]? = some (some (.T, a))) (hj : ρ[j]? = some (some (.T, b))) (ha : m a 0 = some (a', n)) (hb : m b 0 = some (b', n))
    (hc : c (viewF vs 0 ((ρ.set i (some (.T, a'))).set j (some (.T, b')))) = .ok true) (hk : k ((ρ.set i (some (.T, a'))).set j (some (.T, b'))) = o) : gIfIO i j m vs c g k ρ = o := by
  unfold gIfIO
  rw [if_neg hij, hi, hj]
  simp only [ha, hb, if_true, hc, viaE]
  exact hk
theorem pw_6 : powD (.int 10) (.int 6) = some (.T, .int 1000000) := pw_of (by decide +kernel)
theorem more_ok {c4 : Int} {ρ : List (Option D)} (h : ρ[10]? = some (some (.int c4))) : (g2 (g2 (gCon (.int 10)) (gCon (.int 6)) (fun x y => ofO (powD x.2 y.2))) (gVar 10) (fun x y => ofO (addD x.2 y.2))) ρ = .ok (.T, .int (1000000 + c4)) := by
  have e : (g2 (gCon (.int 10)) (gCon (.int 6)) (fun x y => ofO (powD x.2 y.2))) ρ = .ok (.T, .int 1000000) := (g2_ok (x := (.T, .int 10)) (y := (.T, .int 6)) rfl rfl).trans (by simp only [pw_6, ofO_some])
  have e2 : gVar 10 ρ = .ok (.T, .int c4) := by simp only [gVar, h, sh_int]
  exact (g2_ok e e2).trans rfl
theorem at_ok {c4 : Int} {n : Nat} {xs : List D} (hx : xs.length = n) {ρ : List (Option D)} (h : ρ[10]? = some (some (.int c4))) (h3 : ρ[3]? = some (some (.lst xs))) : (g2 (gVar 10) (g2 (gCall (gCons (gVar 3) (gNil)) (fun ds => ofO (lenD ds))) (gCon (.int 1)) (fun x y => ofO (addD x.2 y.2))) (fun x y => ofO (modD x.2 y.2))) ρ = .ok (.T, .int (c4 % ((n : Int) + 1))) := by
  have e2 : gVar 10 ρ = .ok (.T, .int c4) := by simp only [gVar, h, sh_int]
  have e3 : (gCall (gCons (gVar 3) (gNil)) (fun ds => ofO (lenD ds))) ρ = .ok (.T, .int (n : Int)) := by
    subst hx
    simp only [gCall, gCons, gNil, gVar, h3, sh_lst, Res.bind_ok, lenD, oT, ofO_some]
  have e4 : (g2 (gCall (gCons (gVar 3) (gNil)) (fun ds => ofO (lenD ds))) (gCon (.int 1)) (fun x y => ofO (addD x.2 y.2))) ρ = .ok (.T, .int ((n : Int) + 1)) := (g2_ok e3 (y := (.T, .int 1)) rfl).trans rfl
  refine (g2_ok e2 e4).trans ?_
  have : 0 < (n : Int) + 1 := by omega
  generalize (n : Int) + 1 = z at this
  simp only [md_of this, ofO_some]
theorem law_ok {ns : List Int} (hn : ns.length ≤ 1000) : m_law [.scr ns] = .ok (.T, .bl true) := by
  unfold m_law g_law
  refine runG_fin (law_head hn fun recs is ks paths f1 f5 x4 hW hil hkm hkl hpl hx4 => ?_)
  obtain ⟨x4', hx4', hv4⟩ : ∃ x4', x4' = x4 ∧ True := ⟨x4, rfl, trivial⟩
  -- held_here
  have hsk : ∀ k ∈ sortInt is, ∃ r, look recs (.inl k) = some r ∧ TD 20 5 r := fun k hk => hW.recd (mem_sort.mp hk)
  have hskl : (sortInt is).length < 20 := by rw [sort_len]; omega
  have hptd := pairs_td hsk hskl
  have hheld := held_ok (b := 20) (by decide) (m := 12) hptd (by decide)
  have hdtd := due_td hW hkm (by omega) hpl
  have hsame := same_ok (b := 20) (by decide) (by decide) hdtd
  have hheld2 := held_ok (b := 20) (by decide) (m := 12) hdtd (by decide)
  have hsamep := same_ok (b := 20) (by decide) (by decide) hptd
  obtain ⟨d', j, hmk, htd'⟩ := mark_ok (b := 20) (by decide) (m := 12) (i := 0) hdtd (by decide)
  have hsamem := same_ok (b := 21) (by decide) (by decide) htd'
  have hshown := shown_ok hW.P (ks := ks) (fun k hk => hW.good (hkm k hk)) (by omega)
  have six : ∀ f1 f5 x4, (x4 = none ∨ ∃ i, x4 = some (Fl.T, D.int i)) → (viewF [1, 2] 0 [some (.S, .scr ns), some (f1, .dct recs), some (.T, .lst ((sortInt is).map D.int)), some (.T, .lst (ks.map D.int)), x4, some (f5, .lst (paths.map D.lst)), none, none, none, none, none, none, none, none, none])[1]? = some (some (.dct recs)) ∧ (viewF [1, 2] 0 [some (.S, .scr ns), some (f1, .dct recs), some (.T, .lst ((sortInt is).map D.int)), some (.T, .lst (ks.map D.int)), x4, some (f5, .lst (paths.map D.lst)), none, none, none, none, none, none, none, none, none])[2]? = some (some (.lst ((sortInt is).map D.int))) ∧ (viewF [1, 2] 0 [some (.S, .scr ns), some (f1, .dct recs), some (.T, .lst ((sortInt is).map D.int)), some (.T, .lst (ks.map D.int)), x4, some (f5, .lst (paths.map D.lst)), none, none, none, none, none, none, none, none, none]).length = 15 := fun f1 f5 x4 h => by
    rcases h with rfl | ⟨i, rfl⟩ <;> cases f1 <;> cases f5 <;> exact ⟨rfl, rfl, rfl⟩
  obtain ⟨v1, v2, v3⟩ := six f1 f5 x4 hx4
  obtain ⟨fp, hpairs⟩ := pairs_ok (fun k hk => (hsk k hk).imp fun r h => h.1) (by omega) v1 v2 v3
  refine fin_seq (q_set (x := (.T, pairs recs (sortInt is))) (arg1 hpairs hheld) rfl) ?_
  obtain ⟨c3, hc3, d0, d1⟩ := cell_ok hn (k := 3) (by decide) (by decide)
  have t3 : ∀ (r : List (Option D)) b, (c3 % 5 == 1) = b → gTest (g2 (g2 (gCall (gCons (gVar 0) (gCons (gCon (.int 3)) (gNil))) m_cell) (gCon (.int 5)) (fun x y => ofO (modD x.2 y.2))) (gCon (.int 1)) (fun x y => ofO ((fB (eqN 32)) x.2 y.2))) (some (.scr ns) :: r) = .ok b := fun r b hb => by
    unfold gTest
    rw [g2_ok (x := (.T, .int (c3 % 5))) (y := (.T, .int 1)) ((g2_ok (x := (.T, .int c3)) (y := (.T, .int 5)) (arg2 hc3) rfl).trans (by simp only [md_5, ofO_some])) rfl]
    simp only [eq_int, ofO_some, Res.bind_ok, toB, hb]
  by_cases a3 : c3 % 5 = 1
  · obtain ⟨c4, hc4, e0, e1⟩ := cell_ok hn (k := 4) (by decide) (by decide)
    refine fin_q (q_ift (t3 _ true (by simpa using a3)) ?_)
    have va : ∀ (f1 f5 : Fl) x4, (x4 = none ∨ ∃ i, x4 = some (Fl.T, D.int i)) → ∃ ρ, viewF [0] 0 (putV [1, 2] 6 [some (.S, .scr ns), some (f1, .dct recs), some (.T, .lst ((sortInt is).map D.int)), some (.T, .lst (ks.map D.int)), x4, some (f5, .lst (paths.map D.lst)), none, none, none, none, none, none, none, none, none] (.T, pairs recs (sortInt is))) = some (.scr ns) :: ρ := fun f1 f5 x4 h => by
      rcases h with rfl | ⟨i, rfl⟩ <;> cases f1 <;> cases f5 <;> exact ⟨_, rfl⟩
    obtain ⟨ρa, hρa⟩ := va f1 f5 x4 hx4
    refine q_seq (q_set (x := (.T, .int c4)) (by rw [hρa]; exact arg2 hc4) (ρ1 := [some (.S, .scr ns), some (f1, .dct recs), some (.T, .lst ((sortInt is).map D.int)), some (.T, .lst (ks.map D.int)), x4, some (f5, .lst (paths.map D.lst)), some (.T, pairs recs (sortInt is)), none, none, none, some (.T, .int c4), none, none, none, none]) rfl) ?_
    have vb : ∀ (f1 f5 : Fl) x4, (x4 = none ∨ ∃ i, x4 = some (Fl.T, D.int i)) → (viewF [10] 0 [some (.S, .scr ns), some (f1, .dct recs), some (.T, .lst ((sortInt is).map D.int)), some (.T, .lst (ks.map D.int)), x4, some (f5, .lst (paths.map D.lst)), some (.T, pairs recs (sortInt is)), none, none, none, some (.T, .int c4), none, none, none, none])[10]? = some (some (.int c4)) := fun f1 f5 x4 h => by
      rcases h with rfl | ⟨i, rfl⟩ <;> cases f1 <;> cases f5 <;> rfl
    refine q_seq (q_set (x := (.T, .int (1000000 + c4))) (more_ok (vb f1 f5 x4 hx4)) (ρ1 := [some (.S, .scr ns), some (f1, .dct recs), some (.T, .lst ((sortInt is).map D.int)), some (.T, .lst (ks.map D.int)), x4, some (f5, .lst (paths.map D.lst)), some (.T, pairs recs (sortInt is)), none, none, none, some (.T, .int c4), some (.T, .int (1000000 + c4)), none, none, none]) rfl) ?_
    have vc : ∀ (far : Int) (f1 f5 : Fl) x4, (x4 = none ∨ ∃ i, x4 = some (Fl.T, D.int i)) → ∃ ρ, viewF [3, 10] 0 [some (.S, .scr ns), some (f1, .dct recs), some (.T, .lst ((sortInt is).map D.int)), some (.T, .lst (ks.map D.int)), x4, some (f5, .lst (paths.map D.lst)), some (.T, pairs recs (sortInt is)), none, none, none, some (.T, .int c4), some (.T, .int far), none, none, none] = ρ ∧ ρ[10]? = some (some (.int c4)) ∧ ρ[3]? = some (some (.lst (ks.map D.int))) := fun far f1 f5 x4 h => by
      rcases h with rfl | ⟨i, rfl⟩ <;> cases f1 <;> cases f5 <;> exact ⟨_, rfl, rfl, rfl⟩
    obtain ⟨ρc, hρc, u10, u3⟩ := vc (1000000 + c4) f1 f5 x4 hx4
    obtain ⟨at1, hat⟩ : ∃ at1 : Int, at1 = c4 % ((ks.length : Int) + 1) := ⟨_, rfl⟩
    obtain ⟨far, hfar⟩ : ∃ far : Int, far = 1000000 + c4 := ⟨_, rfl⟩
    rw [← hfar] at hρc ⊢
    refine q_seq (q_set (x := (.T, .int at1)) (by rw [hρc, hat]; exact at_ok (List.length_map ..) u10 u3) (ρ1 := [some (.S, .scr ns), some (f1, .dct recs), some (.T, .lst ((sortInt is).map D.int)), some (.T, .lst (ks.map D.int)), x4, some (f5, .lst (paths.map D.lst)), some (.T, pairs recs (sortInt is)), none, none, none, some (.T, .int c4), some (.T, .int far), some (.T, .int at1), none, none]) rfl) ?_
    have vd : ∀ (f1 f5 : Fl) x4, (x4 = none ∨ ∃ i, x4 = some (Fl.T, D.int i)) → ∃ ρ, viewF [1, 3, 5, 11, 12] 0 [some (.S, .scr ns), some (f1, .dct recs), some (.T, .lst ((sortInt is).map D.int)), some (.T, .lst (ks.map D.int)), x4, some (f5, .lst (paths.map D.lst)), some (.T, pairs recs (sortInt is)), none, none, none, some (.T, .int c4), some (.T, .int far), some (.T, .int at1), none, none] = ρ ∧ ρ[3]? = some (some (.lst (ks.map D.int))) ∧ ρ[11]? = some (some (.int far)) ∧ ρ[12]? = some (some (.int at1)) ∧ gVar 1 ρ = .ok (.S, .dct recs) ∧ gVar 5 ρ = .ok (.S, .lst (paths.map D.lst)) := fun f1 f5 x4 h => by
      rcases h with rfl | ⟨i, rfl⟩ <;> cases f1 <;> cases f5 <;> exact ⟨_, rfl, rfl, rfl, rfl, rfl, rfl⟩
    obtain ⟨ρd, hρd, s3, s11, s12, s1, s5⟩ := vd f1 f5 x4 hx4
    obtain ⟨ka, kb, flc, hcut, hka, hkal⟩ := cuts_ok (by omega) s3 s11 s12
    refine q_ret ?_
    rw [hρd]
    exact arg3e s1 hcut s5 (refused_ok hW.P (fun k hk => hW.good (hkm k (hka k hk))) (by omega) (hW.far (by omega)))
  · refine fin_seq (q_iff (t3 _ false (by simpa using a3)) rfl) ?_
    have sev : ∀ f1 f5 x4, (x4 = none ∨ ∃ i, x4 = some (Fl.T, D.int i)) → ∃ ρ, viewF [1, 3, 5] 0 (putV [1, 2] 6 [some (.S, .scr ns), some (f1, .dct recs), some (.T, .lst ((sortInt is).map D.int)), some (.T, .lst (ks.map D.int)), x4, some (f5, .lst (paths.map D.lst)), none, none, none, none, none, none, none, none, none] (.T, pairs recs (sortInt is))) = ρ ∧ ρ[1]? = some (some (.dct recs)) ∧ ρ[3]? = some (some (.lst (ks.map D.int))) ∧ ρ[5]? = some (some (.lst (paths.map D.lst))) ∧ ρ.length = 15 := fun f1 f5 x4 h => by
      rcases h with rfl | ⟨i, rfl⟩ <;> cases f1 <;> cases f5 <;> exact ⟨_, rfl, rfl, rfl, rfl, rfl⟩
    obtain ⟨ρ7, hρ7, w1, w3, w5, wl⟩ := sev f1 f5 x4 hx4
    obtain ⟨f7, hdue⟩ := due_ok hW hkm (by omega) w1 w3 w5 wl
    obtain ⟨g1, g3, g5, hC⟩ : ∃ g1 g3 g5 : Fl, putV [1, 3, 5] 7 (putV [1, 2] 6 [some (.S, .scr ns), some (f1, .dct recs), some (.T, .lst ((sortInt is).map D.int)), some (.T, .lst (ks.map D.int)), x4, some (f5, .lst (paths.map D.lst)), none, none, none, none, none, none, none, none, none] (.T, pairs recs (sortInt is))) (f7, dueOf recs paths ks) = [some (.S, .scr ns), some (g1, .dct recs), some (.T, .lst ((sortInt is).map D.int)), some (g3, .lst (ks.map D.int)), x4, some (g5, .lst (paths.map D.lst)), some (.T, pairs recs (sortInt is)), some (f7, dueOf recs paths ks), none, none, none, none, none, none, none] := by
      rcases hx4 with rfl | ⟨i, rfl⟩ <;> cases f7 <;> exact ⟨_, _, _, rfl⟩
    refine fin_seq (q_set (x := (f7, dueOf recs paths ks)) (by rw [hρ7]; exact hdue) hC) ?_
    have eig : ∀ (g1 g3 g5 f7 : Fl) x4, (x4 = none ∨ ∃ i, x4 = some (Fl.T, D.int i)) → ∃ ρ, viewF [1, 3, 5] 0 [some (.S, .scr ns), some (g1, .dct recs), some (.T, .lst ((sortInt is).map D.int)), some (g3, .lst (ks.map D.int)), x4, some (g5, .lst (paths.map D.lst)), some (.T, pairs recs (sortInt is)), some (f7, dueOf recs paths ks), none, none, none, none, none, none, none] = ρ ∧ gVar 1 ρ = .ok (.S, .dct recs) ∧ gVar 3 ρ = .ok (.S, .lst (ks.map D.int)) ∧ gVar 5 ρ = .ok (.S, .lst (paths.map D.lst)) := fun g1 g3 g5 f7 x4 h => by
      rcases h with rfl | ⟨i, rfl⟩ <;> cases g1 <;> cases g3 <;> cases g5 <;> cases f7 <;> exact ⟨_, rfl, rfl, rfl, rfl⟩
    obtain ⟨ρ8, hρ8, y1, y3, y5⟩ := eig g1 g3 g5 f7 x4 hx4
    refine fin_seq (q_set (x := (.T, .lst (ks.map (rowOf recs paths)))) (by rw [hρ8]; exact arg3e y1 y3 y5 hshown) rfl) ?_
    have nin : ∀ (g1 g3 g5 f7 : Fl) x4, (x4 = none ∨ ∃ i, x4 = some (Fl.T, D.int i)) → ∃ ρ, viewF [7, 8] 0 [some (.S, .scr ns), some (g1, .dct recs), some (.T, .lst ((sortInt is).map D.int)), some (g3, .lst (ks.map D.int)), x4, some (g5, .lst (paths.map D.lst)), some (.T, pairs recs (sortInt is)), some (f7, dueOf recs paths ks), some (.T, dueOf recs paths ks), none, none, none, none, none, none] = ρ ∧ gVar 7 ρ = .ok (.S, dueOf recs paths ks) ∧ gVar 8 ρ = .ok (.S, dueOf recs paths ks) := fun g1 g3 g5 f7 x4 h => by
      rcases h with rfl | ⟨i, rfl⟩ <;> cases g1 <;> cases g3 <;> cases g5 <;> cases f7 <;> exact ⟨_, rfl, rfl, rfl⟩
    obtain ⟨ρ9, hρ9, z7, z8⟩ := nin g1 g3 g5 f7 x4 hx4
    refine fin_seq (q_iff (k := gPass) (ρ := [some (.S, .scr ns), some (g1, .dct recs), some (.T, .lst ((sortInt is).map D.int)), some (g3, .lst (ks.map D.int)), x4, some (g5, .lst (paths.map D.lst)), some (.T, pairs recs (sortInt is)), some (f7, dueOf recs paths ks), some (.T, dueOf recs paths ks), none, none, none, none, none, none]) ?_ rfl) ?_
    · rw [hρ9]
      unfold gNotT gTest
      rw [arg2e z8 z7 hsame]
      rfl
    have ten : ∀ (g1 g3 g5 f7 : Fl) x4 o9, (x4 = none ∨ ∃ i, x4 = some (Fl.T, D.int i)) → ∃ ρ, viewF [7] 0 [some (.S, .scr ns), some (g1, .dct recs), some (.T, .lst ((sortInt is).map D.int)), some (g3, .lst (ks.map D.int)), x4, some (g5, .lst (paths.map D.lst)), some (.T, pairs recs (sortInt is)), some (f7, dueOf recs paths ks), some (.T, dueOf recs paths ks), o9, none, none, none, none, none] = ρ ∧ gVar 7 ρ = .ok (.S, dueOf recs paths ks) := fun g1 g3 g5 f7 x4 o9 h => by
      rcases h with rfl | ⟨i, rfl⟩ <;> cases g1 <;> cases g3 <;> cases g5 <;> cases f7 <;> rcases o9 with _ | ⟨_, _⟩ <;> exact ⟨_, rfl, rfl⟩
    obtain ⟨ρa, hρa, za⟩ := ten g1 g3 g5 f7 x4 none hx4
    obtain ⟨ρb, hρb, zb⟩ := ten g1 g3 g5 .T x4 none hx4
    refine fin_seq (q_set (x := (.T, dueOf recs paths ks)) (by rw [hρa]; exact arg1 za hheld2) (ρ1 := [some (.S, .scr ns), some (g1, .dct recs), some (.T, .lst ((sortInt is).map D.int)), some (g3, .lst (ks.map D.int)), x4, some (g5, .lst (paths.map D.lst)), some (.T, pairs recs (sortInt is)), some (.T, dueOf recs paths ks), some (.T, dueOf recs paths ks), none, none, none, none, none, none]) rfl) ?_
    refine fin_seq (q_set (x := (.T, dueOf recs paths ks)) (by rw [hρb]; exact arg1 zb hheld2) rfl) ?_
    have ele : ∀ (g1 g3 g5 : Fl) x4, (x4 = none ∨ ∃ i, x4 = some (Fl.T, D.int i)) → ∃ ρ, viewF [8, 9] 0 [some (.S, .scr ns), some (g1, .dct recs), some (.T, .lst ((sortInt is).map D.int)), some (g3, .lst (ks.map D.int)), x4, some (g5, .lst (paths.map D.lst)), some (.T, pairs recs (sortInt is)), some (.T, dueOf recs paths ks), some (.T, d'), some (.T, d'), none, none, none, none, none] = ρ ∧ gVar 8 ρ = .ok (sh d') ∧ gVar 9 ρ = .ok (sh d') := fun g1 g3 g5 x4 h => by
      rcases h with rfl | ⟨i, rfl⟩ <;> cases g1 <;> cases g3 <;> cases g5 <;> exact ⟨_, rfl, rfl, rfl⟩
    obtain ⟨ρc, hρc, zc8, zc9⟩ := ele g1 g3 g5 x4 hx4
    refine fin_seq (q_ifio (k := gPass) (ρ := [some (.S, .scr ns), some (g1, .dct recs), some (.T, .lst ((sortInt is).map D.int)), some (g3, .lst (ks.map D.int)), x4, some (g5, .lst (paths.map D.lst)), some (.T, pairs recs (sortInt is)), some (.T, dueOf recs paths ks), some (.T, dueOf recs paths ks), some (.T, dueOf recs paths ks), none, none, none, none, none]) (by decide) rfl rfl hmk hmk ?_ rfl) ?_
    · show gTest _ (viewF [8, 9] 0 [some (.S, .scr ns), some (g1, .dct recs), some (.T, .lst ((sortInt is).map D.int)), some (g3, .lst (ks.map D.int)), x4, some (g5, .lst (paths.map D.lst)), some (.T, pairs recs (sortInt is)), some (.T, dueOf recs paths ks), some (.T, d'), some (.T, d'), none, none, none, none, none]) = _
      rw [hρc]
      unfold gTest
      rw [arg2e zc8 zc9 (by simpa only [sh_2] using hsamem)]
      rfl
    have las : ∀ (g1 g3 g5 : Fl) x4, (x4 = none ∨ ∃ i, x4 = some (Fl.T, D.int i)) → ∃ ρ, viewF [1, 2, 3, 5, 6, 7] 0 [some (.S, .scr ns), some (g1, .dct recs), some (.T, .lst ((sortInt is).map D.int)), some (g3, .lst (ks.map D.int)), x4, some (g5, .lst (paths.map D.lst)), some (.T, pairs recs (sortInt is)), some (.T, dueOf recs paths ks), some (.T, d'), some (.T, d'), none, none, none, none, none] = ρ ∧ ρ[1]? = some (some (.dct recs)) ∧ ρ[2]? = some (some (.lst ((sortInt is).map D.int))) ∧ ρ.length = 15 ∧ gVar 1 ρ = .ok (.S, .dct recs) ∧ gVar 3 ρ = .ok (.S, .lst (ks.map D.int)) ∧ gVar 5 ρ = .ok (.S, .lst (paths.map D.lst)) ∧ gVar 6 ρ = .ok (.S, pairs recs (sortInt is)) ∧ gVar 7 ρ = .ok (.S, dueOf recs paths ks) := fun g1 g3 g5 x4 h => by
      rcases h with rfl | ⟨i, rfl⟩ <;> cases g1 <;> cases g3 <;> cases g5 <;> exact ⟨_, rfl, rfl, rfl, rfl, rfl, rfl, rfl, rfl, rfl⟩
    obtain ⟨ρe, hρe, l1, l2, ll, m1, m3, m5, m6, m7⟩ := las g1 g3 g5 x4 hx4
    obtain ⟨fq, hpairs2⟩ := pairs_ok (fun k hk => (hsk k hk).imp fun r h => h.1) (by omega) l1 l2 ll
    refine fin_rt (q_ret ?_)
    show gAndV _ _ (viewF [1, 2, 3, 5, 6, 7] 0 [some (.S, .scr ns), some (g1, .dct recs), some (.T, .lst ((sortInt is).map D.int)), some (g3, .lst (ks.map D.int)), x4, some (g5, .lst (paths.map D.lst)), some (.T, pairs recs (sortInt is)), some (.T, dueOf recs paths ks), some (.T, d'), some (.T, d'), none, none, none, none, none]) = _
    rw [hρe]
    unfold gAndV
    rw [arg2e m6 hpairs2 hsamep, arg2e (arg3e m1 m3 m5 hshown) m7 hsame]
    rfl
end G
end

section
set_option Elab.async false
set_option maxRecDepth 100000
set_option linter.all false
set_option maxHeartbeats 4000000
namespace G
open PySem PySem.Spec
open PyProof.Rows hiding intD
open L2 hiding gCons gNil gLst
open VL
section
variable {P : Program} {w : World} {K : PySem.W.Frag} {mg : Str → Option Value} {base : Heap} {cNoKey cCab : Addr}
theorem CalIO.mono {j k : Nat} {x : Str} {ps : List Str} {m : D → Int → Option (D × Int)} (c : CalIO P w K mg base j x ps m) (h : j ≤ k) : CalIO P w K mg base k x ps m := by
  obtain ⟨f, fd, a, b⟩ := c.ex
  exact ⟨f, fd, a.mono h, b⟩
theorem CalIO.none {x : Str} {st : Stmt} {ps : List Str} {f : Addr} {fd : FuncData} (d : Dfn K mg x st ps f fd) (hl : ps.length = 2) (k : Nat) : CalIO P w K mg base k x ps (fun _ _ => .none) :=
  ⟨f, fd, ⟨fun vs H Q E h => (spIO_len h).trans hl.symm, fun A outer s H args us vs Q E _ _ _ _ ⟨_, _, _, _, _, _, _, _, _, e, _⟩ => by cases e⟩, d.mg, d.fn.kp, d.bd⟩
/-- a def is there -/
def DefOk (K : PySem.W.Frag) (mg : Str → Option Value) (x : Str) (st : Stmt) (ps : List Str) : Prop := ∃ f fd, Dfn K mg x st ps f fd
theorem copied_cal (T : Txt K mg cNoKey cCab) (d : DefOk K mg "copied" s_copied ["thing"]) : ∀ n, Cal P w K mg base n "copied" ["thing"] (m_copied n)
  | 0 => by obtain ⟨f, fd, d⟩ := d; exact Cal.none d 0
  | n + 1 => by have h := copied_cal T d n; obtain ⟨f, fd, d⟩ := d; exact ok_copied T d h
theorem held_cal (T : Txt K mg cNoKey cCab) (d : DefOk K mg "_law_held" s_law_held ["_law_thing"]) : ∀ n, Cal P w K mg base n "_law_held" ["_law_thing"] (m_held n)
  | 0 => by obtain ⟨f, fd, d⟩ := d; exact Cal.none d 0
  | n + 1 => by have h := held_cal T d n; obtain ⟨f, fd, d⟩ := d; exact ok_law_held T d h
theorem marks_cal (T : Txt K mg cNoKey cCab) (d : DefOk K mg "_law_own_marks" s_law_own_marks ["_law_thing", "_law_number"]) : ∀ n, CalIO P w K mg base n "_law_own_marks" ["_law_thing", "_law_number"] (markF n)
  | 0 => by obtain ⟨f, fd, d⟩ := d; exact CalIO.none d rfl 0
  | n + 1 => by have h := marks_cal T d n; obtain ⟨f, fd, d⟩ := d; exact ok_law_own_marks T d h
theorem compare_cal (T : Txt K mg cNoKey cCab) (dk : DefOk K mg "_law_kind" s_law_kind ["_law_thing"]) (dr : DefOk K mg "_law_rows_compare" s_law_rows_compare ["_law_one", "_law_other"]) (d : DefOk K mg "_law_compare" s_law_compare ["_law_one", "_law_other"]) : ∀ n, Cal P w K mg base (2 * n) "_law_compare" ["_law_one", "_law_other"] (m_compare n)
  | 0 => by obtain ⟨f, fd, d⟩ := d; exact Cal.none d 0
  | n + 1 => by
    have h := compare_cal T dk dr d n
    obtain ⟨f, fd, d⟩ := d
    obtain ⟨fk, fdk, dk⟩ := dk
    obtain ⟨fr, fdr, dr⟩ := dr
    have hr := ok_law_rows_compare T dr h
    have hk : Cal P w K mg base (0 + 1) "_law_kind" ["_law_thing"] m_kind := ok_law_kind T dk
    exact ok_law_compare T d (hk.mono (by omega)) hr
theorem thing_cal {j : Nat} (T : Txt K mg cNoKey cCab) (d : DefOk K mg "_law_thing_by" s_law_thing_by ["_law_script", "_law_k", "_law_deep"]) (hc : Cal P w K mg base j "_law_cell" ["_law_script", "_law_k"] m_cell) (hn : Cal P w K mg base j "_law_number_by" ["_law_more"] m_number_by) (ht : Cal P w K mg base j "_law_text_by" ["_law_more"] m_text_by) (hm : Cal P w K mg base j "_law_name_by" ["_law_more"] m_name_by) : ∀ n, Cal P w K mg base (j + n) "_law_thing_by" ["_law_script", "_law_k", "_law_deep"] (m_thing_by n)
  | 0 => by obtain ⟨f, fd, d⟩ := d; exact Cal.none d _
  | n + 1 => by
    have h := thing_cal T d hc hn ht hm n
    obtain ⟨f, fd, d⟩ := d
    exact ok_law_thing_by T d (hc.mono (by omega)) (hn.mono (by omega)) (ht.mono (by omega)) h (hm.mono (by omega))
theorem signs_x : ∀ c fs, m_signs [] ≠ .xc c fs := by
  intro c fs h
  obtain ⟨z, e, _⟩ := signs_ok
  rw [e] at h
  cases h
structure Defs (K : PySem.W.Frag) (mg : Str → Option Value) : Prop where
  copied : DefOk K mg "copied" s_copied ["thing"]
  leads_on : DefOk K mg "leads_on" s_leads_on ["thing", "step"]
  reached : DefOk K mg "reached" s_reached ["thing", "path"]
  thing_at : DefOk K mg "thing_at" s_thing_at ["thing", "path"]
  has : DefOk K mg "has" s_has ["thing", "path"]
  found_or : ∃ f fd ds, FunD K "found_or" "found_or" (defArgs s_found_or) (defBody s_found_or) (defScope s_found_or) [.non] [] f fd ∧ mg "found_or" = some (.ref f) ∧ Vals [.non] ds ∧ Binds K fd ["thing", "path", "other"] ds
  shown : DefOk K mg "shown" s_shown ["records", "keys", "paths"]
  cell : DefOk K mg "_law_cell" s_law_cell ["_law_script", "_law_k"]
  name_by : DefOk K mg "_law_name_by" s_law_name_by ["_law_more"]
  signs : DefOk K mg "_law_signs" s_law_signs []
  text_by : DefOk K mg "_law_text_by" s_law_text_by ["_law_more"]
  number_by : DefOk K mg "_law_number_by" s_law_number_by ["_law_more"]
  thing_by : DefOk K mg "_law_thing_by" s_law_thing_by ["_law_script", "_law_k", "_law_deep"]
  kind : DefOk K mg "_law_kind" s_law_kind ["_law_thing"]
  rows_compare : DefOk K mg "_law_rows_compare" s_law_rows_compare ["_law_one", "_law_other"]
  compare : DefOk K mg "_law_compare" s_law_compare ["_law_one", "_law_other"]
  same : DefOk K mg "_law_same" s_law_same ["_law_one", "_law_other"]
  held : DefOk K mg "_law_held" s_law_held ["_law_thing"]
  small : DefOk K mg "_law_small" s_law_small ["_law_script", "_law_k"]
  record : DefOk K mg "_law_record" s_law_record ["_law_script", "_law_k"]
  records : DefOk K mg "_law_records" s_law_records ["_law_script", "_law_most"]
  names : DefOk K mg "_law_names" s_law_names ["_law_script"]
  path : DefOk K mg "_law_path" s_law_path ["_law_script", "_law_k"]
  led : DefOk K mg "_law_led" s_law_led ["_law_thing", "_law_path_here"]
  refused : DefOk K mg "_law_refused" s_law_refused ["_law_records_here", "_law_keys", "_law_paths"]
  marks : DefOk K mg "_law_own_marks" s_law_own_marks ["_law_thing", "_law_number"]
theorem chain (T : Txt K mg cNoKey cCab) (A : Defs K mg) {f : Addr} {fd : FuncData} (d : Dfn K mg "law" s_law ["_law_script"] f fd) : FnOk P w K mg base (L2.CX P w) 60 f fd ["_law_script"] (spD ⟨K, mg⟩ 1 m_law) := by
  have c_copied := copied_cal (P := P) (w := w) (base := base) T A.copied 12
  have c_held := held_cal (P := P) (w := w) (base := base) T A.held 12
  have c_marks := marks_cal (P := P) (w := w) (base := base) T A.marks 12
  have c_comp := compare_cal (P := P) (w := w) (base := base) T A.kind A.rows_compare A.compare 24
  obtain ⟨_, _, d1⟩ := A.leads_on
  obtain ⟨_, _, d2⟩ := A.reached
  obtain ⟨_, _, d3⟩ := A.thing_at
  obtain ⟨_, _, d4⟩ := A.has
  obtain ⟨f5, fd5, ds5, d5, g5, v5, b5⟩ := A.found_or
  obtain ⟨_, _, d6⟩ := A.shown
  obtain ⟨_, _, d7⟩ := A.cell
  obtain ⟨_, _, d8⟩ := A.name_by
  obtain ⟨_, _, d9⟩ := A.signs
  obtain ⟨_, _, d10⟩ := A.text_by
  obtain ⟨_, _, d11⟩ := A.number_by
  obtain ⟨_, _, d12⟩ := A.kind
  obtain ⟨_, _, d13⟩ := A.same
  obtain ⟨_, _, d14⟩ := A.small
  obtain ⟨_, _, d15⟩ := A.record
  obtain ⟨_, _, d16⟩ := A.records
  obtain ⟨_, _, d17⟩ := A.names
  obtain ⟨_, _, d18⟩ := A.path
  obtain ⟨_, _, d19⟩ := A.led
  obtain ⟨_, _, d20⟩ := A.refused
  have c_leads : Cal P w K mg base (0 + 1) "leads_on" ["thing", "step"] m_leads_on := ok_leads_on T d1
  have c_reached : Cal P w K mg base (11 + 1) "reached" ["thing", "path"] m_reached := ok_reached T d2 (c_leads.mono (by decide))
  have c_thing_at : Cal P w K mg base (12 + 1) "thing_at" ["thing", "path"] m_thing_at := ok_thing_at T d3 c_copied c_reached
  have c_has : Cal P w K mg base (12 + 1) "has" ["thing", "path"] m_has := ok_has T d4 (c_leads.mono (by decide))
  have c_found : CalD P w K mg base (13 + 1) "found_or" 3 [D.non] m_found_or := ⟨f5, fd5, _, [.non], ds5, ok_found_or T d5 c_has c_thing_at (c_copied.mono (by decide)), g5, d5.kp, b5, v5, fun H => ⟨.non, [], rfl, rfl, rfl⟩⟩
  have c_shown : Cal P w K mg base (14 + 1) "shown" ["records", "keys", "paths"] m_shown := ok_shown T d6 c_found
  have c_cell : Cal P w K mg base (0 + 1) "_law_cell" ["_law_script", "_law_k"] m_cell := ok_law_cell T d7
  have c_name : Cal P w K mg base (0 + 1) "_law_name_by" ["_law_more"] m_name_by := ok_law_name_by T d8
  have c_signs : Cal P w K mg base (0 + 1) "_law_signs" [] m_signs := ok_law_signs T d9
  have c_text : Cal P w K mg base (1 + 1) "_law_text_by" ["_law_more"] m_text_by := ok_law_text_by T d10 c_signs signs_x
  have c_number : Cal P w K mg base (0 + 1) "_law_number_by" ["_law_more"] m_number_by := ok_law_number_by T d11
  have c_thing := thing_cal (P := P) (w := w) (base := base) (j := 2) T A.thing_by (c_cell.mono (by decide)) (c_number.mono (by decide)) c_text (c_name.mono (by decide)) 4
  have c_kind : Cal P w K mg base (0 + 1) "_law_kind" ["_law_thing"] m_kind := ok_law_kind T d12
  have c_same : Cal P w K mg base (48 + 1) "_law_same" ["_law_one", "_law_other"] m_same := ok_law_same T d13 (c_kind.mono (by decide)) c_comp
  have c_small : Cal P w K mg base (6 + 1) "_law_small" ["_law_script", "_law_k"] m_small := ok_law_small T d14 (c_cell.mono (by decide)) c_thing
  have c_names : Cal P w K mg base (1 + 1) "_law_names" ["_law_script"] m_names := ok_law_names T d17 c_cell c_name
  have c_record : Cal P w K mg base (7 + 1) "_law_record" ["_law_script", "_law_k"] m_record := ok_law_record T d15 (c_cell.mono (by decide)) c_small (c_names.mono (by decide))
  have c_records : Cal P w K mg base (8 + 1) "_law_records" ["_law_script", "_law_most"] m_records := ok_law_records T d16 (c_cell.mono (by decide)) c_record
  have c_path : Cal P w K mg base (2 + 1) "_law_path" ["_law_script", "_law_k"] m_path := ok_law_path T d18 (c_cell.mono (by decide)) c_names
  have c_led : Cal P w K mg base (0 + 1) "_law_led" ["_law_thing", "_law_path_here"] m_led := ok_law_led T d19
  have c_refused : Cal P w K mg base (15 + 1) "_law_refused" ["_law_records_here", "_law_keys", "_law_paths"] m_refused := ok_law_refused T d20 c_shown
  exact ok_law (k := 59) T d (c_records.mono (by decide)) (c_cell.mono (by decide)) (c_path.mono (by decide)) (c_held.mono (by decide)) (c_refused.mono (by decide)) (c_led.mono (by decide)) (c_shown.mono (by decide)) (c_same.mono (by decide)) (CalIO.mono c_marks (by decide))
end
end G
end

section
set_option Elab.async false
set_option maxRecDepth 100000
set_option linter.all false
set_option maxHeartbeats 4000000
namespace G
open PySem PySem.Spec
open PyProof.Rows hiding intD
open L2 hiding gCons gNil gLst
open VL
/-! the head: what the top leaves, told by names -/
theorem funOf {K : PySem.W.Frag} {x : Str} {st : Stmt} {f : Addr} {fd : FuncData} (F : FunD K x x (defArgs st) (defBody st) (defScope st) [] [] f fd) : Fun K x x st f fd := by
  obtain ⟨⟨oc, od, dV, kV, doc, pm, an, cdv, ct, osl, e, l, c, hd, _⟩, kp⟩ := F
  rcases hd with ⟨_, rfl⟩ | ⟨h, _⟩
  · exact ⟨⟨oc, od, kV, doc, pm, an, cdv, ct, osl, e, l, c⟩, kp⟩
  · exact absurd rfl h
def dd (x : Str) (st : Stmt) : He.DefD := ⟨(x, none), x, x, defArgs st, defBody st, defScope st, [], []⟩
def dfnOf {K : PySem.W.Frag} {h : Heap} {mg : Str → Option Value} {x : Str} {st : Stmt} {ps : List Str} (X : K.In h) (G : h.Ns mainGlobals mg) (c : ∃ fd, FunD K (dd x st).name (dd x st).qual (dd x st).params (dd x st).body (dd x st).scope (He.DefD.dvs K (dd x st)) (He.DefD.kws K (dd x st)) (He.fAd K (dd x st).at_) fd) (g : He.Fa.ok K (.glo x) = true)
    (hb : ∀ (kV doc pm : Value) (an : Option Addr) (cdv ct : Value) (us : List Value), us.length = ps.length → bindArgs (PySem.W.fnOf x x (defArgs st) (defBody st) (defScope st) .none kV doc pm an cdv ct) ⟨us, []⟩ = pure (ps.zip us)) : ∃ fd, Dfn K mg x st ps (He.ga K x) fd := by
  obtain ⟨fd, F⟩ := c
  have F : FunD K x x (defArgs st) (defBody st) (defScope st) [] [] (He.ga K x) fd := F
  exact ⟨fd, funOf F, He.glo_ok X G g, FunD.bindsN F hb⟩
def fnA : List He.DefD := [⟨("found_or", none), "found_or", "found_or", defArgs s_found_or, defBody s_found_or, defScope s_found_or, [.non], []⟩, dd "copied" s_copied, dd "leads_on" s_leads_on, dd "reached" s_reached, dd "thing_at" s_thing_at, dd "has" s_has, dd "shown" s_shown, dd "_law_cell" s_law_cell, dd "_law_name_by" s_law_name_by, dd "_law_signs" s_law_signs, dd "_law_text_by" s_law_text_by, dd "_law_number_by" s_law_number_by, dd "_law_thing_by" s_law_thing_by, dd "_law_kind" s_law_kind]
def fnB : List He.DefD := [dd "_law_rows_compare" s_law_rows_compare, dd "_law_compare" s_law_compare, dd "_law_same" s_law_same, dd "_law_held" s_law_held, dd "_law_small" s_law_small, dd "_law_record" s_law_record, dd "_law_records" s_law_records, dd "_law_names" s_law_names, dd "_law_path" s_law_path, dd "_law_led" s_law_led, dd "_law_refused" s_law_refused, dd "_law_own_marks" s_law_own_marks, dd "law" s_law]
def fn : List He.DefD := fnA ++ fnB
def faA : List He.Fa := [.glo "found_or", .glo "copied", .glo "leads_on", .glo "reached", .glo "thing_at", .glo "has", .glo "shown", .glo "_law_cell", .glo "_law_name_by", .glo "_law_signs", .glo "_law_text_by", .glo "_law_number_by", .glo "_law_thing_by", .glo "_law_kind", .glo "_law_rows_compare", .glo "_law_compare", .glo "_law_same", .glo "_law_held", .glo "_law_small", .glo "_law_record", .glo "_law_records", .glo "_law_names", .glo "_law_path", .glo "_law_led", .glo "_law_refused", .glo "_law_own_marks", .glo "law"]
def faB : List He.Fa := [.free "bool", .free "dict", .free "int", .free "isinstance", .free "len", .free "list", .free "min", .free "range", .free "sorted", .free "str", .free "tuple", .glo "NoKey", .exc "NoKey", .exm "NoKey" "CabinetError" true, .glo "CabinetError"]
def fa : List He.Fa := faA ++ faB
def ex (K : PySem.W.Frag) : Bool :=
  He.eqO (PySem.W.findIn K (.ref (He.ga K "NoKey")) "__getattribute__") (some (some (.builtin "BaseException.__getattribute__"))) &&
  (He.eqO (PySem.W.findIn K (.ref (He.ga K "NoKey")) "__getattr__") (some none) &&
  (PySem.W.hasDictIn K (He.ga K "NoKey") &&
  (He.eqO (PySem.W.findIn K (.ref (He.ga K "NoKey")) "__class__") (some (some (.builtin "object.__class__"))) &&
  (He.eqO (PySem.W.specialIn K (.builtin "object.__class__") "__get__") (some (some (.builtin "getset_descriptor.__get__"))) &&
  (decide (PySem.W.takesIn K (.builtin "object.__class__") = some true) &&
  decide (PySem.W.mroIn K (He.ga K "NoKey") (.type "object") = some true))))))
theorem ex_ok {K : PySem.W.Frag} (h : ex K = true) (hs : PySem.W.subIn K (.ref (He.ga K "NoKey")) (.type "BaseException") = some true) : ExcC K (He.ga K "NoKey") := by
  unfold ex at h
  simp only [Bool.and_eq_true] at h
  obtain ⟨h1, h2, h3, h4, h5, h6, h7⟩ := h
  exact ⟨He.eqO_ok h1, He.eqO_ok h2, hs, h3, He.eqO_ok h4, He.eqO_ok h5, of_decide_eq_true h6, of_decide_eq_true h7⟩
theorem facts {K : PySem.W.Frag} {h : Heap} {mg : Str → Option Value} (X : K.In h) (G : h.Ns mainGlobals mg) (c : He.SaysD fa fn K) (e : ex K = true) : Txt K mg (He.ga K "NoKey") (He.ga K "CabinetError") ∧ Defs K mg ∧ ∃ fd, Dfn K mg "law" s_law ["_law_script"] (He.ga K "law") fd ∧ ∀ (s : Shared) (us : List Value), us.length = (["_law_script"] : List Str).length → BindsTo s fd ⟨us, []⟩ ((["_law_script"] : List Str).zip us) := by
  have hbL : ∀ (kV doc pm : Value) (an : Option Addr) (cdv ct : Value) (us : List Value), us.length = (["_law_script"] : List Str).length → bindArgs (PySem.W.fnOf "law" "law" (defArgs s_law) (defBody s_law) (defScope s_law) .none kV doc pm an cdv ct) ⟨us, []⟩ = pure ((["_law_script"] : List Str).zip us) := fun _ _ _ _ _ _ us hl => match us, hl with | [_], _ => rfl
  have b1 : ∀ {x : Str} {st : Stmt} {p : Str}, True := fun {_ _ _} => trivial
  have z0 := He.free_ok X G (c.fact 27 (f := .free "bool") rfl)
  have z1 := He.free_ok X G (c.fact 28 (f := .free "dict") rfl)
  have z2 := He.free_ok X G (c.fact 29 (f := .free "int") rfl)
  have z3 := He.free_ok X G (c.fact 30 (f := .free "isinstance") rfl)
  have z4 := He.free_ok X G (c.fact 31 (f := .free "len") rfl)
  have z5 := He.free_ok X G (c.fact 32 (f := .free "list") rfl)
  have z6 := He.free_ok X G (c.fact 33 (f := .free "min") rfl)
  have z7 := He.free_ok X G (c.fact 34 (f := .free "range") rfl)
  have z8 := He.free_ok X G (c.fact 35 (f := .free "sorted") rfl)
  have z9 := He.free_ok X G (c.fact 36 (f := .free "str") rfl)
  have z10 := He.free_ok X G (c.fact 37 (f := .free "tuple") rfl)
  have gN := He.glo_ok X G (c.fact 38 (f := .glo "NoKey") rfl)
  have xN := He.exc_ok (c.fact 39 (f := .exc "NoKey") rfl)
  have mN := He.exm_ok (c.fact 40 (f := .exm "NoKey" "CabinetError" true) rfl)
  have gC := He.glo_ok X G (c.fact 41 (f := .glo "CabinetError") rfl)
  refine ⟨⟨z0, z1, z2, z3, z4, z5, z6, z7, z8, z9, z10, ⟨gN, xN.1, xN.2.1, xN.2.2.1, xN.2.2.2⟩, gC, mN, ?_, ex_ok e xN.2.2.1⟩, ?_, ?_⟩
  · show (if (_ == _) = true then some true else _) = some true
    rw [if_pos (by simp)]
  · refine ⟨?_, ?_, ?_, ?_, ?_, ?_, ?_, ?_, ?_, ?_, ?_, ?_, ?_, ?_, ?_, ?_, ?_, ?_, ?_, ?_, ?_, ?_, ?_, ?_, ?_, ?_⟩
    · obtain ⟨fd, h⟩ := dfnOf (ps := ["thing"]) X G (c.def_ 1 (d := dd "copied" s_copied) rfl) (c.fact 1 (f := .glo "copied") rfl) fun _ _ _ _ _ _ us hl => match us, hl with | [_], _ => rfl
      exact ⟨_, fd, h⟩
    · obtain ⟨fd, h⟩ := dfnOf (ps := ["thing", "step"]) X G (c.def_ 2 (d := dd "leads_on" s_leads_on) rfl) (c.fact 2 (f := .glo "leads_on") rfl) fun _ _ _ _ _ _ us hl => match us, hl with | [_, _], _ => rfl
      exact ⟨_, fd, h⟩
    · obtain ⟨fd, h⟩ := dfnOf (ps := ["thing", "path"]) X G (c.def_ 3 (d := dd "reached" s_reached) rfl) (c.fact 3 (f := .glo "reached") rfl) fun _ _ _ _ _ _ us hl => match us, hl with | [_, _], _ => rfl
      exact ⟨_, fd, h⟩
    · obtain ⟨fd, h⟩ := dfnOf (ps := ["thing", "path"]) X G (c.def_ 4 (d := dd "thing_at" s_thing_at) rfl) (c.fact 4 (f := .glo "thing_at") rfl) fun _ _ _ _ _ _ us hl => match us, hl with | [_, _], _ => rfl
      exact ⟨_, fd, h⟩
    · obtain ⟨fd, h⟩ := dfnOf (ps := ["thing", "path"]) X G (c.def_ 5 (d := dd "has" s_has) rfl) (c.fact 5 (f := .glo "has") rfl) fun _ _ _ _ _ _ us hl => match us, hl with | [_, _], _ => rfl
      exact ⟨_, fd, h⟩
    · obtain ⟨fd, F⟩ := c.def_ 0 (d := ⟨("found_or", none), "found_or", "found_or", defArgs s_found_or, defBody s_found_or, defScope s_found_or, [.non], []⟩) rfl
      have F : FunD K "found_or" "found_or" (defArgs s_found_or) (defBody s_found_or) (defScope s_found_or) [.non] [] (He.ga K "found_or") fd := F
      obtain ⟨ds, v, b⟩ := FunD.binds1 (ps := ["thing", "path", "other"]) F 2 0 (by simp) rfl fun _ _ _ _ _ _ _ us its hu hi => match us, hu, its, hi with | [_, _], _, [_], _ => ⟨_, rfl, rfl⟩
      exact ⟨_, fd, ds, F, He.glo_ok X G (c.fact 0 (f := .glo "found_or") rfl), v, b⟩
    · obtain ⟨fd, h⟩ := dfnOf (ps := ["records", "keys", "paths"]) X G (c.def_ 6 (d := dd "shown" s_shown) rfl) (c.fact 6 (f := .glo "shown") rfl) fun _ _ _ _ _ _ us hl => match us, hl with | [_, _, _], _ => rfl
      exact ⟨_, fd, h⟩
    · obtain ⟨fd, h⟩ := dfnOf (ps := ["_law_script", "_law_k"]) X G (c.def_ 7 (d := dd "_law_cell" s_law_cell) rfl) (c.fact 7 (f := .glo "_law_cell") rfl) fun _ _ _ _ _ _ us hl => match us, hl with | [_, _], _ => rfl
      exact ⟨_, fd, h⟩
    · obtain ⟨fd, h⟩ := dfnOf (ps := ["_law_more"]) X G (c.def_ 8 (d := dd "_law_name_by" s_law_name_by) rfl) (c.fact 8 (f := .glo "_law_name_by") rfl) fun _ _ _ _ _ _ us hl => match us, hl with | [_], _ => rfl
      exact ⟨_, fd, h⟩
    · obtain ⟨fd, h⟩ := dfnOf (ps := []) X G (c.def_ 9 (d := dd "_law_signs" s_law_signs) rfl) (c.fact 9 (f := .glo "_law_signs") rfl) fun _ _ _ _ _ _ us hl => match us, hl with | [], _ => rfl
      exact ⟨_, fd, h⟩
    · obtain ⟨fd, h⟩ := dfnOf (ps := ["_law_more"]) X G (c.def_ 10 (d := dd "_law_text_by" s_law_text_by) rfl) (c.fact 10 (f := .glo "_law_text_by") rfl) fun _ _ _ _ _ _ us hl => match us, hl with | [_], _ => rfl
      exact ⟨_, fd, h⟩
    · obtain ⟨fd, h⟩ := dfnOf (ps := ["_law_more"]) X G (c.def_ 11 (d := dd "_law_number_by" s_law_number_by) rfl) (c.fact 11 (f := .glo "_law_number_by") rfl) fun _ _ _ _ _ _ us hl => match us, hl with | [_], _ => rfl
      exact ⟨_, fd, h⟩
    · obtain ⟨fd, h⟩ := dfnOf (ps := ["_law_script", "_law_k", "_law_deep"]) X G (c.def_ 12 (d := dd "_law_thing_by" s_law_thing_by) rfl) (c.fact 12 (f := .glo "_law_thing_by") rfl) fun _ _ _ _ _ _ us hl => match us, hl with | [_, _, _], _ => rfl
      exact ⟨_, fd, h⟩
    · obtain ⟨fd, h⟩ := dfnOf (ps := ["_law_thing"]) X G (c.def_ 13 (d := dd "_law_kind" s_law_kind) rfl) (c.fact 13 (f := .glo "_law_kind") rfl) fun _ _ _ _ _ _ us hl => match us, hl with | [_], _ => rfl
      exact ⟨_, fd, h⟩
    · obtain ⟨fd, h⟩ := dfnOf (ps := ["_law_one", "_law_other"]) X G (c.def_ 14 (d := dd "_law_rows_compare" s_law_rows_compare) rfl) (c.fact 14 (f := .glo "_law_rows_compare") rfl) fun _ _ _ _ _ _ us hl => match us, hl with | [_, _], _ => rfl
      exact ⟨_, fd, h⟩
    · obtain ⟨fd, h⟩ := dfnOf (ps := ["_law_one", "_law_other"]) X G (c.def_ 15 (d := dd "_law_compare" s_law_compare) rfl) (c.fact 15 (f := .glo "_law_compare") rfl) fun _ _ _ _ _ _ us hl => match us, hl with | [_, _], _ => rfl
      exact ⟨_, fd, h⟩
    · obtain ⟨fd, h⟩ := dfnOf (ps := ["_law_one", "_law_other"]) X G (c.def_ 16 (d := dd "_law_same" s_law_same) rfl) (c.fact 16 (f := .glo "_law_same") rfl) fun _ _ _ _ _ _ us hl => match us, hl with | [_, _], _ => rfl
      exact ⟨_, fd, h⟩
    · obtain ⟨fd, h⟩ := dfnOf (ps := ["_law_thing"]) X G (c.def_ 17 (d := dd "_law_held" s_law_held) rfl) (c.fact 17 (f := .glo "_law_held") rfl) fun _ _ _ _ _ _ us hl => match us, hl with | [_], _ => rfl
      exact ⟨_, fd, h⟩
    · obtain ⟨fd, h⟩ := dfnOf (ps := ["_law_script", "_law_k"]) X G (c.def_ 18 (d := dd "_law_small" s_law_small) rfl) (c.fact 18 (f := .glo "_law_small") rfl) fun _ _ _ _ _ _ us hl => match us, hl with | [_, _], _ => rfl
      exact ⟨_, fd, h⟩
    · obtain ⟨fd, h⟩ := dfnOf (ps := ["_law_script", "_law_k"]) X G (c.def_ 19 (d := dd "_law_record" s_law_record) rfl) (c.fact 19 (f := .glo "_law_record") rfl) fun _ _ _ _ _ _ us hl => match us, hl with | [_, _], _ => rfl
      exact ⟨_, fd, h⟩
    · obtain ⟨fd, h⟩ := dfnOf (ps := ["_law_script", "_law_most"]) X G (c.def_ 20 (d := dd "_law_records" s_law_records) rfl) (c.fact 20 (f := .glo "_law_records") rfl) fun _ _ _ _ _ _ us hl => match us, hl with | [_, _], _ => rfl
      exact ⟨_, fd, h⟩
    · obtain ⟨fd, h⟩ := dfnOf (ps := ["_law_script"]) X G (c.def_ 21 (d := dd "_law_names" s_law_names) rfl) (c.fact 21 (f := .glo "_law_names") rfl) fun _ _ _ _ _ _ us hl => match us, hl with | [_], _ => rfl
      exact ⟨_, fd, h⟩
    · obtain ⟨fd, h⟩ := dfnOf (ps := ["_law_script", "_law_k"]) X G (c.def_ 22 (d := dd "_law_path" s_law_path) rfl) (c.fact 22 (f := .glo "_law_path") rfl) fun _ _ _ _ _ _ us hl => match us, hl with | [_, _], _ => rfl
      exact ⟨_, fd, h⟩
    · obtain ⟨fd, h⟩ := dfnOf (ps := ["_law_thing", "_law_path_here"]) X G (c.def_ 23 (d := dd "_law_led" s_law_led) rfl) (c.fact 23 (f := .glo "_law_led") rfl) fun _ _ _ _ _ _ us hl => match us, hl with | [_, _], _ => rfl
      exact ⟨_, fd, h⟩
    · obtain ⟨fd, h⟩ := dfnOf (ps := ["_law_records_here", "_law_keys", "_law_paths"]) X G (c.def_ 24 (d := dd "_law_refused" s_law_refused) rfl) (c.fact 24 (f := .glo "_law_refused") rfl) fun _ _ _ _ _ _ us hl => match us, hl with | [_, _, _], _ => rfl
      exact ⟨_, fd, h⟩
    · obtain ⟨fd, h⟩ := dfnOf (ps := ["_law_thing", "_law_number"]) X G (c.def_ 25 (d := dd "_law_own_marks" s_law_own_marks) rfl) (c.fact 25 (f := .glo "_law_own_marks") rfl) fun _ _ _ _ _ _ us hl => match us, hl with | [_, _], _ => rfl
      exact ⟨_, fd, h⟩
  · obtain ⟨fd, F⟩ := c.def_ 26 (d := dd "law" s_law) rfl
    have F : FunD K "law" "law" (defArgs s_law) (defBody s_law) (defScope s_law) [] [] (He.ga K "law") fd := F
    exact ⟨fd, ⟨funOf F, He.glo_ok X G (c.fact 26 (f := .glo "law") rfl), FunD.bindsN F hbL⟩, FunD.bindsA F hbL⟩
end G
end

section
set_option Elab.async false
set_option maxRecDepth 100000
set_option linter.all false
set_option maxHeartbeats 0
namespace G
open PySem PySem.Spec
open PyProof.Rows hiding intD
open L2 hiding gCons gNil gLst
open VL
def spLaw (K : PySem.W.Frag) : Sp := fun vs H Q _ => ∃ (a : Addr) (ns : List Int), vs = [.ref a] ∧ SqL K H a (ns.map V.int) ∧ ns.length ≤ 63 ∧ ∀ H', Q (.bl true) H'
theorem law_call {P : Program} {w : World} {K : PySem.W.Frag} {mg : Str → Option Value} {base : Heap} {cNoKey cCab : Addr} (T : Txt K mg cNoKey cCab) (A : Defs K mg) {f : Addr} {fd : FuncData} (d : Dfn K mg "law" s_law ["_law_script"] f fd) : FnOk P w K mg base (L2.CX P w) 60 f fd ["_law_script"] (spLaw K) := by
  refine (chain (P := P) (w := w) (base := base) T A d).imp fun vs H Q E ⟨a, ns, e, hS, hl, hQ⟩ => ?_
  subst e
  refine ⟨H, [.scr ns], Same.refl _, ⟨.ref a, [], rfl, ⟨a, rfl, hS⟩, rfl⟩, rfl, ?_⟩
  rw [law_ok (ns := ns) (by omega)]
  intro v H' H0' F e s f
  obtain ⟨rfl, rfl⟩ := s
  exact hQ H'
theorem law_call0 {P : Program} {w : World} {K : PySem.W.Frag} {mg : Str → Option Value} {base : Heap} {cNoKey cCab : Addr} (T : Txt K mg cNoKey cCab) (A : Defs K mg) {f : Addr} {fd : FuncData} (d : Dfn K mg "law" s_law ["_law_script"] f fd) : FnOk P w K mg base CX0 60 f fd ["_law_script"] (spLaw K) := by
  have F := law_call (P := P) (w := w) (base := base) T A d
  refine ⟨F.len, fun A outer s H args us vs Q E hr he hb hv h => codeAny_mono (F.run A outer s H args us vs Q (fun _ _ _ => False) hr he hb hv h) fun r s' q => ?_⟩
  cases r with
  | ok fl => cases fl <;> exact q
  | error e =>
    obtain ⟨_, _, _, _, _, _, _, _, _, _, _, _, hE⟩ := q
    exact hE.elim
abbrev R : PySem.W.OpenRow := PySem.W.OpenLaw.row PySem.Challenge.rw_cabinet_k74_shown
abbrev hk : PySem.W.Hook := He.hookX 6 fa fn [] [] ex
def ob (s : PySem.W.SharedT) : He.AlX := He.obsX 6 fa fn [] [] ex (HandSHeadRun.getT s)
theorem ob_eq (s : PySem.W.SharedT) : ob s = hk.obs s.abs := He.obsX_eq (HandSHeadRun.getT_eq s)
end G
end

section
set_option Elab.async false
set_option maxRecDepth 100000
set_option linter.all false
set_option maxHeartbeats 0
namespace G
open PySem PySem.Spec
open PyProof.Rows hiding intD
open L2 hiding gCons gNil gLst
open VL
def loose : List Str := ["copied", "CabinetError", "NoPlace", "NoKey", "leads_on", "reached", "thing_at", "has", "found_or", "shown", "_law_cell", "_law_name_by", "_law_signs", "_law_text_by", "_law_number_by", "_law_thing_by", "_law_kind", "_law_rows_compare", "_law_compare", "_law_same", "_law_held", "_law_small", "_law_record", "_law_records", "_law_names", "_law_path", "_law_led", "_law_refused", "_law_own_marks"]
theorem run (w : World) : HandSHeadRun.RunEq R (PySem.W.view R.prog [34]) hk ob 2000 loose w := by
  intro os
  kernel_rfl
end G
open PySem PySem.W PySem.Calls PyProof.Rows
theorem PySem.Challenge.cw_cabinet_k74_shown_holds : PySem.Challenge.rw_cabinet_k74_shown.Holds := by
  w_on; o_law
  refine HandSHeadRun.head_any (r := OpenLaw.row PySem.Challenge.rw_cabinet_k74_shown) (q := view (OpenLaw.row PySem.Challenge.rw_cabinet_k74_shown).prog [34]) (H := G.hk) (ob := G.ob) (M := 2000) (loose := G.loose) (d := HandSHeadRun.topDef (OpenLaw.row PySem.Challenge.rw_cabinet_k74_shown).prog 34) (kwd := []) G.ob_eq
    (by kernel_rfl) (fun s => by kernel_rfl) G.run (by kernel_rfl) (by kernel_rfl) (by kernel_rfl) (by rfl) (by first | assumption | decide +kernel) (by decide +kernel) ⟨rfl, rfl, rfl, rfl, rfl, by decide +kernel⟩ ?hw ?hc
  case hw => w_witness2
  case hc =>
    refine L2.walk_ofE (l := PySem.Challenge.rw_cabinet_k74_shown) (n := 63) (k := 60) (x := "_law_script") (CX := L2.CX0) rfl (by decide) (by kernel_rfl) ⟨rfl, by decide, by decide⟩ ?F (fun _ _ _ _ z => z)
    intro w mg fa h Y Gn hmg0
    obtain ⟨K, KX, c⟩ := Y
    have hmg : mg ("law" : PySem.Str) = some (.ref fa) := by
      have e : (HandSHeadRun.topDef (OpenLaw.row PySem.Challenge.rw_cabinet_k74_shown).prog 34).name = ("law" : PySem.Str) := by kernel_rfl
      rw [← e]
      exact hmg0
    obtain ⟨T, A, fd, d, hb⟩ := G.facts KX Gn c.t.d c.more
    have e := hmg.symm.trans d.mg
    cases e
    exact ⟨K, fd, G.spLaw K, KX, fun s v => hb s [v] rfl, fun H a ns hl _ hS => ⟨a, ns, rfl, hS, hl, fun _ => rfl⟩, fun base _ _ => G.law_call0 T A d⟩
end
