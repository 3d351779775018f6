import PyProof.Rows.All
import Wide.All
import OpenK.AllK
import Wide.FinOn
import HandS.ForMost
import HandS.ForExc
import HandS.IsInst
import HandS.Wide
import HandS.Flow
import HandS.SortKw
import HandS.More
import HandS.TryMany
import HandS.CallSlots
import HandS.TryOnly
import HandS.ExcIs
import PyProof.NeKinds
import HandS.SortInts
import HandS.StrMore
import HandS.Conv
import HandS.Defaults
import HandS.TupLe
import HandS.SortOrd
import HandS.SortRule
import HandS.MakeKw
import PySem.Challenge.RW_cabinet_k77_between_ends
import HandS.HeadEnd
import HandS.Head2
import HandS.HeadHook4
section
set_option Elab.async false
set_option maxRecDepth 100000
set_option linter.all false
/-! The value layer, 1: data trees, what represents them, ownership. -/
namespace VL
open PySem PySem.Spec PyProof.Rows L2

/-- data: what a value is, with all in it -/
inductive D where
  | non | bl (b : Bool) | int (i : Int) | str (s : Str)
  | lst (xs : List D) | tup (xs : List D) | dct (kvs : List (Key × D))
  | scr (ns : List Int)
  | ins (o : Option Addr) (C : Addr) (fs : List (Key × D))

def D.atom : D → Bool
  | .lst _ => false
  | .tup _ => false
  | .dct _ => false
  | .scr _ => false
  | .ins _ _ _ => false
  | _ => true

/-- shared, a fresh root, a fresh tree -/
inductive Fl where
  | S | R | T
  deriving DecidableEq
abbrev FD := Fl × D

theorem same_seqT {K : PySem.W.Frag} {H H' : Hp} {a : Addr} {xs : List V} (e : Same H H') (h : SqT K H a xs) : SqT K H' a xs := by
  rcases h with (h | ⟨o, h⟩) | h
  · exact .inl (.inl (e _ _ h))
  · exact .inl (.inr ⟨o, e _ _ h⟩)
  · exact .inr h
theorem same_rd {H H' : Hp} {a : Addr} {u : HO} (e : Same H H') (h : Rd H a u) : Rd H' a u := by
  rcases h with h | ⟨o, h⟩
  · exact .inl (e _ _ h)
  · exact .inr ⟨o, e _ _ h⟩

/-- the fields of an instance, as entries by texts -/
def nmOf : Key → Str
  | .inr s => s
  | .inl _ => ""
def isNm : Key → Bool
  | .inr _ => true
  | .inl _ => false
def flds {α : Type} (kvs : List (Key × α)) : List (Str × α) := kvs.map fun kv => (nmOf kv.1, kv.2)
def fok {α : Type} (kvs : List (Key × α)) : Prop := (kvs.map (·.1)).Nodup ∧ (kvs.all fun kv => isNm kv.1) = true
/-- the fields are in order, the place is the one that is told, if one is told -/
def iok {α : Type} (o : Option Addr) (a : Addr) (kvs : List (Key × α)) : Prop := fok kvs ∧ ∀ b, o = some b → a = b
/-- what is read stays to be read -/
structure Kp (H H' : Hp) : Prop where
  l : ∀ b xs, H b = some (.lst xs) → H' b = some (.lst xs)
  q : ∀ b xs, Rd H b (.lst xs) → Rd H' b (.lst xs)
  t : ∀ b xs, Rd H b (.tup xs) → Rd H' b (.tup xs)
  k : ∀ b xs, Rd H b (.dK xs) → Rd H' b (.dK xs)
  i : ∀ b C dx fs, H b = some (.ins C dx fs) → H' b = some (.ins C dx fs)
theorem _root_.L2.Same.kp {H H' : Hp} (h : Same H H') : Kp H H' := ⟨fun b xs e => h b _ e, fun b u e => same_rd h e, fun b u e => same_rd h e, fun b u e => same_rd h e, fun b C dx fs e => h b _ e⟩
theorem Kp.seq {K : PySem.W.Frag} {H H' : Hp} {a : Addr} {xs : List V} (e : Kp H H') (h : SqL K H a xs) : SqL K H' a xs := by
  rcases h with h | h
  · exact .inl (e.q _ _ h)
  · exact .inr h
theorem Kp.seqT {K : PySem.W.Frag} {H H' : Hp} {a : Addr} {xs : List V} (e : Kp H H') (h : SqT K H a xs) : SqT K H' a xs := by
  rcases h with h | h
  · exact .inl (e.t _ _ h)
  · exact .inr h
mutual
/-- the value v is the data d, read in H -/
def Rep (K : PySem.W.Frag) (H : Hp) : D → V → Prop
  | .non, v => v = .non
  | .bl b, v => v = .bl b
  | .int i, v => v = .int i
  | .str s, v => v = .str s
  | .lst ds, v => ∃ a vs, v = .ref a ∧ H a = some (.lst vs) ∧ ds.length ≤ sizeLine ∧ Reps K H ds vs
  | .tup ds, v => ∃ a vs, v = .ref a ∧ SqT K H a vs ∧ ds.length ≤ sizeLine ∧ Reps K H ds vs
  | .dct kds, v => ∃ a kvs, v = .ref a ∧ Rd H a (.dK kvs) ∧ (kds.length ≤ sizeLine ∧ (kds.map (·.1)).Nodup) ∧ RepK K H kds kvs
  | .scr ns, v => ∃ a, v = .ref a ∧ SqL K H a (ns.map V.int)
  | .ins o C fs, v => ∃ a dx kvs, v = .ref a ∧ H a = some (.ins C dx (flds kvs)) ∧ iok o a fs ∧ RepK K H fs kvs
def Reps (K : PySem.W.Frag) (H : Hp) : List D → List V → Prop
  | [], vs => vs = []
  | d :: ds, vs => ∃ v r, vs = v :: r ∧ Rep K H d v ∧ Reps K H ds r
def RepK (K : PySem.W.Frag) (H : Hp) : List (Key × D) → List (Key × V) → Prop
  | [], vs => vs = []
  | (k, d) :: ds, vs => ∃ v r, vs = (k, v) :: r ∧ Rep K H d v ∧ RepK K H ds r
end
mutual
theorem Rep.monoK {K : PySem.W.Frag} {H H' : Hp} (h : Kp H H') : ∀ (d : D) (v : V), Rep K H d v → Rep K H' d v
  | .non, _, r => r
  | .bl _, _, r => r
  | .int _, _, r => r
  | .str _, _, r => r
  | .lst ds, v, ⟨a, vs, e, s, z, q⟩ => ⟨a, vs, e, h.l _ _ s, z, Reps.monoK h ds vs q⟩
  | .tup ds, v, ⟨a, vs, e, s, z, q⟩ => ⟨a, vs, e, h.seqT s, z, Reps.monoK h ds vs q⟩
  | .dct kds, v, ⟨a, vs, e, s, z, q⟩ => ⟨a, vs, e, h.k _ _ s, z, RepK.monoK h kds vs q⟩
  | .scr ns, v, ⟨a, e, s⟩ => ⟨a, e, h.seq s⟩
  | .ins o C fs, v, ⟨a, dx, vs, e, s, z, q⟩ => ⟨a, dx, vs, e, h.i _ _ _ _ s, z, RepK.monoK h fs vs q⟩
theorem Reps.monoK {K : PySem.W.Frag} {H H' : Hp} (h : Kp H H') : ∀ (d : List D) (v : List V), Reps K H d v → Reps K H' d v
  | [], _, r => r
  | d :: ds, _, ⟨v, t, e, s, q⟩ => ⟨v, t, e, Rep.monoK h d v s, Reps.monoK h ds t q⟩
theorem RepK.monoK {K : PySem.W.Frag} {H H' : Hp} (h : Kp H H') : ∀ (d : List (Key × D)) (v : List (Key × V)), RepK K H d v → RepK K H' d v
  | [], _, r => r
  | (_, d) :: ds, _, ⟨v, t, e, s, q⟩ => ⟨v, t, e, Rep.monoK h d v s, RepK.monoK h ds t q⟩
end
theorem Rep.mono {K : PySem.W.Frag} {H H' : Hp} (h : Same H H') (d : D) (v : V) (r : Rep K H d v) : Rep K H' d v := Rep.monoK h.kp d v r
theorem Reps.mono {K : PySem.W.Frag} {H H' : Hp} (h : Same H H') (d : List D) (v : List V) (r : Reps K H d v) : Reps K H' d v := Reps.monoK h.kp d v r
theorem RepK.mono {K : PySem.W.Frag} {H H' : Hp} (h : Same H H') (d : List (Key × D)) (v : List (Key × V)) (r : RepK K H d v) : RepK K H' d v := RepK.monoK h.kp d v r
theorem Reps.length {K : PySem.W.Frag} {H : Hp} : ∀ {ds : List D} {vs : List V}, Reps K H ds vs → ds.length = vs.length
  | [], _, r => by cases r; rfl
  | d :: ds, _, ⟨v, t, e, s, q⟩ => by subst e; simp [Reps.length q]
theorem Reps.get {K : PySem.W.Frag} {H : Hp} : ∀ {ds : List D} {vs : List V} {i : Nat} {d : D}, Reps K H ds vs → ds[i]? = some d → ∃ v, vs[i]? = some v ∧ Rep K H d v
  | [], _, _, _, _, e => by simp at e
  | d :: ds, _, 0, d', ⟨v, t, e, s, q⟩, e' => by subst e; simp at e'; subst e'; exact ⟨v, rfl, s⟩
  | d :: ds, _, i + 1, d', ⟨v, t, e, s, q⟩, e' => by
    subst e
    obtain ⟨u, h1, h2⟩ := Reps.get (i := i) (d := d') q (by simpa using e')
    exact ⟨u, by simpa using h1, h2⟩
theorem Reps.getV {K : PySem.W.Frag} {H : Hp} : ∀ {ds : List D} {vs : List V} {i : Nat} {v : V}, Reps K H ds vs → vs[i]? = some v → ∃ d, ds[i]? = some d ∧ Rep K H d v
  | [], _, _, _, r, e => by cases r; simp at e
  | d :: ds, _, 0, v', ⟨v, t, e, s, q⟩, e' => by subst e; simp at e'; subst e'; exact ⟨d, rfl, s⟩
  | d :: ds, _, i + 1, v', ⟨v, t, e, s, q⟩, e' => by
    subst e
    obtain ⟨u, h1, h2⟩ := Reps.getV (i := i) (v := v') q (by simpa using e')
    exact ⟨u, by simpa using h1, h2⟩
theorem Reps.append {K : PySem.W.Frag} {H : Hp} : ∀ {ds es : List D} {vs ws : List V}, Reps K H ds vs → Reps K H es ws → Reps K H (ds ++ es) (vs ++ ws)
  | [], _, _, _, r, q => by cases r; exact q
  | d :: ds, _, _, _, ⟨v, t, e, s, q⟩, q' => by subst e; exact ⟨v, _, rfl, s, Reps.append q q'⟩
theorem Reps.take {K : PySem.W.Frag} {H : Hp} : ∀ (n : Nat) {ds : List D} {vs : List V}, Reps K H ds vs → Reps K H (ds.take n) (vs.take n)
  | 0, _, _, _ => rfl
  | _ + 1, [], _, r => by cases r; rfl
  | n + 1, d :: ds, _, ⟨v, t, e, s, q⟩ => by subst e; exact ⟨v, _, rfl, s, Reps.take n q⟩
theorem Reps.drop {K : PySem.W.Frag} {H : Hp} : ∀ (n : Nat) {ds : List D} {vs : List V}, Reps K H ds vs → Reps K H (ds.drop n) (vs.drop n)
  | 0, _, _, r => r
  | _ + 1, [], _, r => by cases r; rfl
  | n + 1, d :: ds, _, ⟨v, t, e, s, q⟩ => by subst e; exact Reps.drop n q
theorem Reps.rev {K : PySem.W.Frag} {H : Hp} : ∀ {ds : List D} {vs : List V}, Reps K H ds vs → Reps K H ds.reverse vs.reverse
  | [], _, r => by cases r; rfl
  | d :: ds, _, ⟨v, t, e, s, q⟩ => by
    subst e
    rw [List.reverse_cons, List.reverse_cons]
    exact Reps.append (Reps.rev q) ⟨v, [], rfl, s, rfl⟩
theorem Reps.snoc {K : PySem.W.Frag} {H : Hp} {ds : List D} {vs : List V} {d : D} {v : V} (q : Reps K H ds vs) (r : Rep K H d v) : Reps K H (ds ++ [d]) (vs ++ [v]) :=
  Reps.append q ⟨v, [], rfl, r, rfl⟩
theorem Reps.set {K : PySem.W.Frag} {H : Hp} {d : D} {v : V} (r : Rep K H d v) : ∀ (i : Nat) {ds : List D} {vs : List V}, Reps K H ds vs → Reps K H (ds.set i d) (vs.set i v)
  | _, [], _, q => by cases q; rfl
  | 0, _ :: ds, _, ⟨_, t, e, _, q⟩ => by subst e; exact ⟨v, t, rfl, r, q⟩
  | i + 1, _ :: ds, _, ⟨w, t, e, s, q⟩ => by subst e; exact ⟨w, _, rfl, s, Reps.set r i q⟩

/-! dict data -/
def look (kds : List (Key × D)) (k : Key) : Option D := (kds.find? fun kv => decide (kv.1 = k)).map (·.2)
def putD (kds : List (Key × D)) (k : Key) (d : D) : List (Key × D) :=
  if (kds.any fun kv => decide (kv.1 = k)) = true then kds.map (fun kv => if kv.1 = k then (kv.1, d) else kv) else kds ++ [(k, d)]
def dropD (kds : List (Key × D)) (k : Key) : List (Key × D) := kds.filter fun kv => decide (kv.1 ≠ k)
theorem RepK.keys {K : PySem.W.Frag} {H : Hp} : ∀ {ds : List (Key × D)} {vs : List (Key × V)}, RepK K H ds vs → ds.map (·.1) = vs.map (·.1)
  | [], _, r => by cases r; rfl
  | (k, d) :: ds, _, ⟨v, t, e, s, q⟩ => by subst e; simp [RepK.keys q]
theorem RepK.length {K : PySem.W.Frag} {H : Hp} {ds : List (Key × D)} {vs : List (Key × V)} (r : RepK K H ds vs) : ds.length = vs.length := by
  have := congrArg List.length r.keys
  simpa using this
theorem RepK.look {K : PySem.W.Frag} {H : Hp} (k : Key) : ∀ {ds : List (Key × D)} {vs : List (Key × V)}, RepK K H ds vs →
    (look ds k = none ∧ valV vs k = none) ∨ ∃ d v, look ds k = some d ∧ valV vs k = some v ∧ Rep K H d v
  | [], _, r => by cases r; exact .inl ⟨rfl, rfl⟩
  | (j, d) :: ds, _, ⟨v, t, e, s, q⟩ => by
    subst e
    by_cases h : j = k
    · exact .inr ⟨d, v, by simp [VL.look, List.find?_cons, h], by simp [valV, List.find?_cons, h], s⟩
    · have e1 : VL.look ((j, d) :: ds) k = VL.look ds k := by simp [VL.look, List.find?_cons, h]
      have e2 : valV ((j, v) :: t) k = valV t k := by simp [valV, List.find?_cons, h]
      rw [e1, e2]
      exact RepK.look k q
theorem RepK.any {K : PySem.W.Frag} {H : Hp} (k : Key) : ∀ {ds : List (Key × D)} {vs : List (Key × V)}, RepK K H ds vs → (ds.any fun kv => decide (kv.1 = k)) = (vs.any fun kv => decide (kv.1 = k))
  | [], _, r => by cases r; rfl
  | (j, d) :: ds, _, ⟨v, t, e, s, q⟩ => by subst e; simp only [List.any_cons, RepK.any k q]
theorem RepK.snoc {K : PySem.W.Frag} {H : Hp} {k : Key} {d : D} {v : V} (s : Rep K H d v) : ∀ {ds : List (Key × D)} {vs : List (Key × V)}, RepK K H ds vs → RepK K H (ds ++ [(k, d)]) (vs ++ [(k, v)])
  | [], _, r => by cases r; exact ⟨v, [], rfl, s, rfl⟩
  | (j, d') :: ds, _, ⟨w, t, e, s', q⟩ => by subst e; exact ⟨w, _, rfl, s', RepK.snoc s q⟩
theorem RepK.repl {K : PySem.W.Frag} {H : Hp} {k : Key} {d : D} {v : V} (s : Rep K H d v) : ∀ {ds : List (Key × D)} {vs : List (Key × V)}, RepK K H ds vs →
    RepK K H (ds.map fun kv => if kv.1 = k then (kv.1, d) else kv) (vs.map fun kv => if kv.1 = k then (kv.1, v) else kv)
  | [], _, r => by cases r; rfl
  | (j, d') :: ds, _, ⟨w, t, e, s', q⟩ => by
    subst e
    simp only [List.map_cons]
    by_cases h : j = k
    · rw [if_pos h, if_pos h]; exact ⟨v, _, rfl, s, RepK.repl s q⟩
    · rw [if_neg h, if_neg h]; exact ⟨w, _, rfl, s', RepK.repl s q⟩
theorem RepK.put {K : PySem.W.Frag} {H : Hp} {ds : List (Key × D)} {vs : List (Key × V)} {k : Key} {d : D} {v : V} (q : RepK K H ds vs) (s : Rep K H d v) : RepK K H (putD ds k d) (putK vs k v) := by
  unfold putD putK
  rw [q.any k]
  split
  · exact q.repl s
  · exact q.snoc s
theorem RepK.drop {K : PySem.W.Frag} {H : Hp} (k : Key) : ∀ {ds : List (Key × D)} {vs : List (Key × V)}, RepK K H ds vs → RepK K H (dropD ds k) (dropK vs k)
  | [], _, r => by cases r; rfl
  | (j, d') :: ds, _, ⟨w, t, e, s', q⟩ => by
    subst e
    have ih := RepK.drop k q
    unfold dropD dropK at ih ⊢
    by_cases h : j = k
    · simp only [List.filter_cons, h, ne_eq, not_true_eq_false, decide_false, Bool.false_eq_true, if_false]; exact ih
    · simp only [List.filter_cons, ne_eq, h, not_false_eq_true, decide_true, if_true]; exact ⟨w, _, rfl, s', ih⟩
theorem RepK.vals {K : PySem.W.Frag} {H : Hp} : ∀ {ds : List (Key × D)} {vs : List (Key × V)}, RepK K H ds vs → Reps K H (ds.map (·.2)) (vs.map (·.2))
  | [], _, r => by cases r; rfl
  | (_, d) :: ds, _, ⟨v, t, e, s, q⟩ => by subst e; exact ⟨v, _, rfl, s, RepK.vals q⟩

/-! ### trees that are owned -/
mutual
/-- v is d, its objects are F, each in H, nothing of it anywhere else -/
def Tree (H : Hp) : D → V → List Addr → Prop
  | .non, v, F => v = .non ∧ F = []
  | .bl b, v, F => v = .bl b ∧ F = []
  | .int i, v, F => v = .int i ∧ F = []
  | .str s, v, F => v = .str s ∧ F = []
  | .lst ds, v, F => ∃ a vs G, v = .ref a ∧ F = a :: G ∧ H a = some (.lst vs) ∧ ds.length ≤ sizeLine ∧ Trees H ds vs G
  | .tup ds, v, F => ∃ a vs G, v = .ref a ∧ F = a :: G ∧ H a = some (.tup vs) ∧ ds.length ≤ sizeLine ∧ Trees H ds vs G
  | .dct ds, v, F => ∃ a vs G, v = .ref a ∧ F = a :: G ∧ H a = some (.dK vs) ∧ (ds.length ≤ sizeLine ∧ (ds.map (·.1)).Nodup) ∧ TreeK H ds vs G
  | .scr _, _, _ => False
  | .ins o C fs, v, F => ∃ a dx vs G, v = .ref a ∧ F = a :: G ∧ H a = some (.ins C dx (flds vs)) ∧ iok o a fs ∧ TreeK H fs vs G
def Trees (H : Hp) : List D → List V → List Addr → Prop
  | [], vs, F => vs = [] ∧ F = []
  | d :: ds, vs, F => ∃ v r G1 G2, vs = v :: r ∧ F = G1 ++ G2 ∧ Tree H d v G1 ∧ Trees H ds r G2
def TreeK (H : Hp) : List (Key × D) → List (Key × V) → List Addr → Prop
  | [], vs, F => vs = [] ∧ F = []
  | (k, d) :: ds, vs, F => ∃ v r G1 G2, vs = (k, v) :: r ∧ F = G1 ++ G2 ∧ Tree H d v G1 ∧ TreeK H ds r G2
end
mutual
theorem Tree.agree {H H' : Hp} : ∀ (d : D) (v : V) (F : List Addr), (∀ p ∈ F, ∀ o, H p = some o → H' p = some o) → Tree H d v F → Tree H' d v F
  | .non, _, _, _, r => r
  | .bl _, _, _, _, r => r
  | .int _, _, _, _, r => r
  | .str _, _, _, _, r => r
  | .lst ds, v, _, h, ⟨a, vs, G, e, f, q, z, t⟩ => by subst f; exact ⟨a, vs, G, e, rfl, h a List.mem_cons_self _ q, z, Trees.agree ds vs G (fun p hp => h p (List.mem_cons_of_mem _ hp)) t⟩
  | .tup ds, v, _, h, ⟨a, vs, G, e, f, q, z, t⟩ => by subst f; exact ⟨a, vs, G, e, rfl, h a List.mem_cons_self _ q, z, Trees.agree ds vs G (fun p hp => h p (List.mem_cons_of_mem _ hp)) t⟩
  | .dct ds, v, _, h, ⟨a, vs, G, e, f, q, z, t⟩ => by subst f; exact ⟨a, vs, G, e, rfl, h a List.mem_cons_self _ q, z, TreeK.agree ds vs G (fun p hp => h p (List.mem_cons_of_mem _ hp)) t⟩
  | .ins o C ds, v, _, h, ⟨a, dx, vs, G, e, f, q, z, t⟩ => by subst f; exact ⟨a, dx, vs, G, e, rfl, h a List.mem_cons_self _ q, z, TreeK.agree ds vs G (fun p hp => h p (List.mem_cons_of_mem _ hp)) t⟩
theorem Trees.agree {H H' : Hp} : ∀ (d : List D) (v : List V) (F : List Addr), (∀ p ∈ F, ∀ o, H p = some o → H' p = some o) → Trees H d v F → Trees H' d v F
  | [], _, _, _, r => r
  | d :: ds, _, _, h, ⟨v, t, G1, G2, e, f, s, q⟩ => by
    subst f
    exact ⟨v, t, G1, G2, e, rfl, Tree.agree d v G1 (fun p hp => h p (List.mem_append_left _ hp)) s, Trees.agree ds t G2 (fun p hp => h p (List.mem_append_right _ hp)) q⟩
theorem TreeK.agree {H H' : Hp} : ∀ (d : List (Key × D)) (v : List (Key × V)) (F : List Addr), (∀ p ∈ F, ∀ o, H p = some o → H' p = some o) → TreeK H d v F → TreeK H' d v F
  | [], _, _, _, r => r
  | (_, d) :: ds, _, _, h, ⟨v, t, G1, G2, e, f, s, q⟩ => by
    subst f
    exact ⟨v, t, G1, G2, e, rfl, Tree.agree d v G1 (fun p hp => h p (List.mem_append_left _ hp)) s, TreeK.agree ds t G2 (fun p hp => h p (List.mem_append_right _ hp)) q⟩
end
theorem Tree.same {H H' : Hp} {d : D} {v : V} {F : List Addr} (h : Same H H') (t : Tree H d v F) : Tree H' d v F := t.agree _ _ _ fun p _ o e => h p o e
theorem Trees.same {H H' : Hp} {d : List D} {v : List V} {F : List Addr} (h : Same H H') (t : Trees H d v F) : Trees H' d v F := t.agree _ _ _ fun p _ o e => h p o e
theorem TreeK.same {H H' : Hp} {d : List (Key × D)} {v : List (Key × V)} {F : List Addr} (h : Same H H') (t : TreeK H d v F) : TreeK H' d v F := t.agree _ _ _ fun p _ o e => h p o e
mutual
theorem Tree.there {H : Hp} : ∀ (d : D) (v : V) (F : List Addr), Tree H d v F → ∀ p ∈ F, H p ≠ none
  | .non, _, _, r => by obtain ⟨_, rfl⟩ := r; simp
  | .bl _, _, _, r => by obtain ⟨_, rfl⟩ := r; simp
  | .int _, _, _, r => by obtain ⟨_, rfl⟩ := r; simp
  | .str _, _, _, r => by obtain ⟨_, rfl⟩ := r; simp
  | .lst ds, v, _, ⟨a, vs, G, e, f, q, z, t⟩ => by
    subst f; intro p hp
    rcases List.mem_cons.mp hp with rfl | hp
    · rw [q]; simp
    · exact Trees.there ds vs G t p hp
  | .tup ds, v, _, ⟨a, vs, G, e, f, q, z, t⟩ => by
    subst f; intro p hp
    rcases List.mem_cons.mp hp with rfl | hp
    · rw [q]; simp
    · exact Trees.there ds vs G t p hp
  | .dct ds, v, _, ⟨a, vs, G, e, f, q, z, t⟩ => by
    subst f; intro p hp
    rcases List.mem_cons.mp hp with rfl | hp
    · rw [q]; simp
    · exact TreeK.there ds vs G t p hp
  | .ins o C ds, v, _, ⟨a, dx, vs, G, e, f, q, z, t⟩ => by
    subst f; intro p hp
    rcases List.mem_cons.mp hp with rfl | hp
    · rw [q]; simp
    · exact TreeK.there ds vs G t p hp
theorem Trees.there {H : Hp} : ∀ (d : List D) (v : List V) (F : List Addr), Trees H d v F → ∀ p ∈ F, H p ≠ none
  | [], _, _, r => by obtain ⟨_, rfl⟩ := r; simp
  | d :: ds, _, _, ⟨v, t, G1, G2, e, f, s, q⟩ => by
    subst f; intro p hp
    rcases List.mem_append.mp hp with hp | hp
    · exact Tree.there d v G1 s p hp
    · exact Trees.there ds t G2 q p hp
theorem TreeK.there {H : Hp} : ∀ (d : List (Key × D)) (v : List (Key × V)) (F : List Addr), TreeK H d v F → ∀ p ∈ F, H p ≠ none
  | [], _, _, r => by obtain ⟨_, rfl⟩ := r; simp
  | (_, d) :: ds, _, _, ⟨v, t, G1, G2, e, f, s, q⟩ => by
    subst f; intro p hp
    rcases List.mem_append.mp hp with hp | hp
    · exact Tree.there d v G1 s p hp
    · exact TreeK.there ds t G2 q p hp
end
mutual
theorem Tree.rep {K : PySem.W.Frag} {H H0 : Hp} : ∀ (d : D) (v : V) (F : List Addr), (∀ p ∈ F, ∀ o, H p = some o → H0 p = some o) → Tree H d v F → Rep K H0 d v
  | .non, _, _, _, r => r.1
  | .bl _, _, _, _, r => r.1
  | .int _, _, _, _, r => r.1
  | .str _, _, _, _, r => r.1
  | .lst ds, v, _, h, ⟨a, vs, G, e, f, q, z, t⟩ => by subst f; exact ⟨a, vs, e, h a List.mem_cons_self _ q, z, Trees.rep ds vs G (fun p hp => h p (List.mem_cons_of_mem _ hp)) t⟩
  | .tup ds, v, _, h, ⟨a, vs, G, e, f, q, z, t⟩ => by subst f; exact ⟨a, vs, e, SqT.of (h a List.mem_cons_self _ q), z, Trees.rep ds vs G (fun p hp => h p (List.mem_cons_of_mem _ hp)) t⟩
  | .dct ds, v, _, h, ⟨a, vs, G, e, f, q, z, t⟩ => by subst f; exact ⟨a, vs, e, Rd.of (h a List.mem_cons_self _ q), z, TreeK.rep ds vs G (fun p hp => h p (List.mem_cons_of_mem _ hp)) t⟩
  | .ins o C ds, v, _, h, ⟨a, dx, vs, G, e, f, q, z, t⟩ => by subst f; exact ⟨a, dx, vs, e, h a List.mem_cons_self _ q, z, TreeK.rep ds vs G (fun p hp => h p (List.mem_cons_of_mem _ hp)) t⟩
theorem Trees.rep {K : PySem.W.Frag} {H H0 : Hp} : ∀ (d : List D) (v : List V) (F : List Addr), (∀ p ∈ F, ∀ o, H p = some o → H0 p = some o) → Trees H d v F → Reps K H0 d v
  | [], _, _, _, r => r.1
  | d :: ds, _, _, h, ⟨v, t, G1, G2, e, f, s, q⟩ => by
    subst f
    exact ⟨v, t, e, Tree.rep d v G1 (fun p hp => h p (List.mem_append_left _ hp)) s, Trees.rep ds t G2 (fun p hp => h p (List.mem_append_right _ hp)) q⟩
theorem TreeK.rep {K : PySem.W.Frag} {H H0 : Hp} : ∀ (d : List (Key × D)) (v : List (Key × V)) (F : List Addr), (∀ p ∈ F, ∀ o, H p = some o → H0 p = some o) → TreeK H d v F → RepK K H0 d v
  | [], _, _, _, r => r.1
  | (_, d) :: ds, _, _, h, ⟨v, t, G1, G2, e, f, s, q⟩ => by
    subst f
    exact ⟨v, t, e, Tree.rep d v G1 (fun p hp => h p (List.mem_append_left _ hp)) s, TreeK.rep ds t G2 (fun p hp => h p (List.mem_append_right _ hp)) q⟩
end
theorem Trees.length {H : Hp} : ∀ {ds : List D} {vs : List V} {F : List Addr}, Trees H ds vs F → ds.length = vs.length
  | [], _, _, r => by obtain ⟨rfl, _⟩ := r; rfl
  | d :: ds, _, _, ⟨v, t, G1, G2, e, f, s, q⟩ => by subst e; simp [Trees.length q]
theorem Trees.snoc {H : Hp} : ∀ {ds : List D} {vs : List V} {F G : List Addr} {d : D} {v : V}, Trees H ds vs F → Tree H d v G → Trees H (ds ++ [d]) (vs ++ [v]) (F ++ G)
  | [], _, _, G, d, v, r, t => by
    obtain ⟨rfl, rfl⟩ := r
    exact ⟨v, [], G, [], rfl, by simp, t, rfl, rfl⟩
  | x :: ds, _, _, G, d, v, ⟨w, r, G1, G2, e, f, s, q⟩, t => by
    subst e; subst f
    exact ⟨w, _, G1, G2 ++ G, rfl, by simp, s, Trees.snoc q t⟩

theorem putD_keys (kds : List (Key × D)) (k : Key) (d : D) : (putD kds k d).map (·.1) = if (kds.any fun kv => decide (kv.1 = k)) = true then kds.map (·.1) else kds.map (·.1) ++ [k] := by
  unfold putD
  split
  · rw [List.map_map]
    apply List.map_congr_left
    intro p hp
    show (if p.1 = k then (p.1, d) else p).1 = p.1
    split <;> rfl
  · rw [List.map_append]; rfl
theorem putD_nodup {kds : List (Key × D)} (k : Key) (d : D) (h : (kds.map (·.1)).Nodup) : ((putD kds k d).map (·.1)).Nodup := by
  rw [putD_keys]
  split
  · exact h
  · rename_i hn
    refine List.nodup_append.mpr ⟨h, by simp, fun a ha b hb hab => hn ?_⟩
    rw [List.mem_singleton.mp hb] at hab
    subst hab
    obtain ⟨p, hp, e⟩ := List.mem_map.mp ha
    exact List.any_eq_true.mpr ⟨p, hp, by simpa using e⟩
theorem putD_length (kds : List (Key × D)) (k : Key) (d : D) : (putD kds k d).length ≤ kds.length + 1 := by
  unfold putD
  split
  · rw [List.length_map]; omega
  · rw [List.length_append]; simp
theorem TreeK.keys {H : Hp} : ∀ {ds : List (Key × D)} {vs : List (Key × V)} {F : List Addr}, TreeK H ds vs F → ds.map (·.1) = vs.map (·.1)
  | [], _, _, r => by obtain ⟨rfl, _⟩ := r; rfl
  | (k, d) :: ds, _, _, ⟨v, t, G1, G2, e, f, s, q⟩ => by subst e; simp [TreeK.keys q]
theorem TreeK.snoc {H : Hp} {k : Key} {d : D} {v : V} {G : List Addr} (s : Tree H d v G) : ∀ {ds : List (Key × D)} {vs : List (Key × V)} {F : List Addr}, TreeK H ds vs F → TreeK H (ds ++ [(k, d)]) (vs ++ [(k, v)]) (F ++ G)
  | [], _, _, r => by obtain ⟨rfl, rfl⟩ := r; exact ⟨v, [], G, [], rfl, by simp, s, rfl, rfl⟩
  | (j, d') :: ds, _, _, ⟨w, t, G1, G2, e, f, s', q⟩ => by subst e; subst f; exact ⟨w, _, G1, G2 ++ G, rfl, by simp, s', TreeK.snoc s q⟩
/-- no entry by that name: nothing is replaced -/
theorem repl_none {α : Type} {k : Key} {d : α} : ∀ {ds : List (Key × α)}, k ∉ ds.map (·.1) → ds.map (fun kv => if kv.1 = k then (kv.1, d) else kv) = ds
  | [], _ => rfl
  | (j, x) :: ds, h => by
    simp only [List.map_cons, List.mem_cons, not_or] at h
    rw [List.map_cons, if_neg (fun e => h.1 e.symm), repl_none h.2]
theorem TreeK.repl {H : Hp} {k : Key} {d : D} {v : V} {G : List Addr} (s : Tree H d v G) : ∀ {ds : List (Key × D)} {vs : List (Key × V)} {F : List Addr}, (ds.map (·.1)).Nodup → k ∈ ds.map (·.1) → (F ++ G).Nodup → TreeK H ds vs F →
    ∃ F', TreeK H (ds.map fun kv => if kv.1 = k then (kv.1, d) else kv) (vs.map fun kv => if kv.1 = k then (kv.1, v) else kv) F' ∧ F'.Nodup ∧ ∀ p ∈ F', p ∈ F ∨ p ∈ G
  | [], _, _, _, hk, _, _ => by simp at hk
  | (j, d') :: ds, _, _, nd, hk, nf, ⟨w, t, G1, G2, e, f, s', q⟩ => by
    subst e; subst f
    simp only [List.map_cons, List.nodup_cons] at nd
    by_cases h : j = k
    · subst h
      have nd2 : j ∉ t.map (·.1) := by rw [← q.keys]; exact nd.1
      refine ⟨G ++ G2, ?_, ?_, ?_⟩
      · rw [List.map_cons, List.map_cons, if_pos rfl, if_pos rfl, repl_none nd.1, repl_none nd2]
        exact ⟨v, t, G, G2, rfl, rfl, s, q⟩
      · rw [List.append_assoc] at nf
        have n2 := (List.nodup_append.mp nf).2.1
        obtain ⟨a, b, c⟩ := List.nodup_append.mp n2
        exact List.nodup_append.mpr ⟨b, a, fun x hx y hy e => c y hy x hx e.symm⟩
      · intro p hp
        rcases List.mem_append.mp hp with hp | hp
        · exact .inr hp
        · exact .inl (List.mem_append_right _ hp)
    · have hk' : k ∈ ds.map (·.1) := by
        rcases List.mem_cons.mp hk with e | hk
        · exact absurd e.symm h
        · exact hk
      rw [List.append_assoc] at nf
      obtain ⟨n1, n2, n3⟩ := List.nodup_append.mp nf
      obtain ⟨F', a, b, c⟩ := TreeK.repl s nd.2 hk' n2 q
      refine ⟨G1 ++ F', ?_, ?_, ?_⟩
      · rw [List.map_cons, List.map_cons, if_neg h, if_neg h]
        exact ⟨w, _, G1, F', rfl, rfl, s', a⟩
      · refine List.nodup_append.mpr ⟨n1, b, fun x hx y hy e => ?_⟩
        refine n3 x hx y ?_ e
        rcases c y hy with h | h
        · exact List.mem_append_left _ h
        · exact List.mem_append_right _ h
      · intro p hp
        rcases List.mem_append.mp hp with hp | hp
        · exact .inl (List.mem_append_left _ hp)
        · rcases c p hp with h | h
          · exact .inl (List.mem_append_right _ h)
          · exact .inr h
theorem any_key {α : Type} {ds : List (Key × α)} {k : Key} : (ds.any fun kv => decide (kv.1 = k)) = true ↔ k ∈ ds.map (·.1) := by
  rw [List.any_eq_true, List.mem_map]
  exact ⟨fun ⟨p, h, e⟩ => ⟨p, h, by simpa using e⟩, fun ⟨p, h, e⟩ => ⟨p, h, by simpa using e⟩⟩
theorem TreeK.put {H : Hp} {ds : List (Key × D)} {vs : List (Key × V)} {F G : List Addr} {k : Key} {d : D} {v : V} (q : TreeK H ds vs F) (s : Tree H d v G) (nd : (ds.map (·.1)).Nodup) (nf : (F ++ G).Nodup) :
    ∃ F', TreeK H (putD ds k d) (putK vs k v) F' ∧ F'.Nodup ∧ ∀ p ∈ F', p ∈ F ∨ p ∈ G := by
  unfold putD putK
  have e : (vs.any fun kv => decide (kv.1 = k)) = (ds.any fun kv => decide (kv.1 = k)) := by
    rw [Bool.eq_iff_iff, any_key, any_key, q.keys]
  rw [e]
  split
  · rename_i h
    exact TreeK.repl s nd (any_key.mp h) nf q
  · exact ⟨F ++ G, q.snoc s, nf, fun p hp => List.mem_append.mp hp⟩

/-! ### shapes -/
/-- H0 with what H has at F -/
def addF (H0 H : Hp) (F : List Addr) : Hp := fun p => if p ∈ F then H p else H0 p
theorem addF_in {H0 H : Hp} {F : List Addr} {p : Addr} (h : p ∈ F) : addF H0 H F p = H p := if_pos h
theorem addF_out {H0 H : Hp} {F : List Addr} {p : Addr} (h : p ∉ F) : addF H0 H F p = H0 p := if_neg h
theorem addF_nil {H0 H : Hp} : addF H0 H [] = H0 := by funext p; exact addF_out (by simp)
theorem addF_same0 {H0 H : Hp} {F : List Addr} (h : ∀ p ∈ F, H0 p = none) : Same H0 (addF H0 H F) := fun b o e => by
  rw [addF_out]
  · exact e
  · intro hb; rw [h b hb] at e; cases e
theorem addF_same {H0 H : Hp} {F : List Addr} (h : Same H0 H) : Same (addF H0 H F) H := fun b o e => by
  by_cases hb : b ∈ F
  · rw [addF_in hb] at e; exact e
  · rw [addF_out hb] at e; exact h b o e

/-- what stands at a fresh root -/
def Root (K : PySem.W.Frag) (H0 : Hp) : D → HO → Prop
  | .lst ds, o => ∃ vs, o = .lst vs ∧ ds.length ≤ sizeLine ∧ Reps K H0 ds vs
  | .tup ds, o => ∃ vs, o = .tup vs ∧ ds.length ≤ sizeLine ∧ Reps K H0 ds vs
  | .dct ds, o => ∃ vs, o = .dK vs ∧ (ds.length ≤ sizeLine ∧ (ds.map (·.1)).Nodup) ∧ RepK K H0 ds vs
  | _, _ => False
theorem Root.monoK {K : PySem.W.Frag} {H H' : Hp} (h : Kp H H') : ∀ {d : D} {o : HO}, Root K H d o → Root K H' d o
  | .lst _, _, ⟨vs, e, z, r⟩ => ⟨vs, e, z, Reps.monoK h _ _ r⟩
  | .tup _, _, ⟨vs, e, z, r⟩ => ⟨vs, e, z, Reps.monoK h _ _ r⟩
  | .dct _, _, ⟨vs, e, z, r⟩ => ⟨vs, e, z, RepK.monoK h _ _ r⟩
theorem Root.mono {K : PySem.W.Frag} {H H' : Hp} (h : Same H H') : ∀ {d : D} {o : HO}, Root K H d o → Root K H' d o
  | .lst _, _, ⟨vs, e, z, r⟩ => ⟨vs, e, z, Reps.mono h _ _ r⟩
  | .tup _, _, ⟨vs, e, z, r⟩ => ⟨vs, e, z, Reps.mono h _ _ r⟩
  | .dct _, _, ⟨vs, e, z, r⟩ => ⟨vs, e, z, RepK.mono h _ _ r⟩
/-- the root and what is in it, read -/
theorem Root.rep {K : PySem.W.Frag} {H0 : Hp} {a : Addr} : ∀ {d : D} {o : HO}, Root K H0 d o → H0 a = some o → Rep K H0 d (.ref a)
  | .lst _, _, ⟨vs, e, z, r⟩, h => by subst e; exact ⟨a, vs, rfl, h, z, r⟩
  | .tup _, _, ⟨vs, e, z, r⟩, h => by subst e; exact ⟨a, vs, rfl, SqT.of h, z, r⟩
  | .dct _, _, ⟨vs, e, z, r⟩, h => by subst e; exact ⟨a, vs, rfl, Rd.of h, z, r⟩

/-- the value v of a thing x: shared (read in H0), or a fresh root, or a fresh tree; its own objects F -/
def Sh (K : PySem.W.Frag) (H H0 : Hp) (x : FD) (v : V) (F : List Addr) : Prop :=
  match x.1 with
  | .S => F = [] ∧ Rep K H0 x.2 v
  | .R => ∃ a o, v = .ref a ∧ F = [a] ∧ H a = some o ∧ Root K H0 x.2 o
  | .T => Tree H x.2 v F
/-- fresh over H and H0 -/
def FrF (H H0 : Hp) (F : List Addr) : Prop := F.Nodup ∧ ∀ p ∈ F, H p = none ∧ H0 p = none
theorem FrF.nil {H H0 : Hp} : FrF H H0 [] := ⟨List.nodup_nil, by simp⟩
theorem Sh.there {K : PySem.W.Frag} {H H0 : Hp} {x : FD} {v : V} {F : List Addr} (s : Sh K H H0 x v F) : ∀ p ∈ F, H p ≠ none := by
  obtain ⟨fl, d⟩ := x
  cases fl with
  | S => obtain ⟨rfl, _⟩ := s; simp
  | R => obtain ⟨a, o, _, rfl, e, _⟩ := s; intro p hp; rw [List.mem_singleton.mp hp, e]; simp
  | T => exact Tree.there d v F s
theorem Sh.monoK {K : PySem.W.Frag} {H H0 H' H0' : Hp} {x : FD} {v : V} {F : List Addr} (s : Sh K H H0 x v F) (h0 : Kp H0 H0') (h : ∀ p ∈ F, ∀ o, H p = some o → H' p = some o) : Sh K H' H0' x v F := by
  obtain ⟨fl, d⟩ := x
  cases fl with
  | S => obtain ⟨e, r⟩ := s; exact ⟨e, Rep.monoK h0 d v r⟩
  | R => obtain ⟨a, o, e, f, q, r⟩ := s; subst f; exact ⟨a, o, e, rfl, h a (by simp) _ q, r.monoK h0⟩
  | T => exact Tree.agree d v F h s
theorem Sh.mono {K : PySem.W.Frag} {H H0 H' H0' : Hp} {x : FD} {v : V} {F : List Addr} (s : Sh K H H0 x v F) (h0 : Same H0 H0') (h : ∀ p ∈ F, ∀ o, H p = some o → H' p = some o) : Sh K H' H0' x v F := by
  obtain ⟨fl, d⟩ := x
  cases fl with
  | S => obtain ⟨e, r⟩ := s; exact ⟨e, Rep.mono h0 d v r⟩
  | R => obtain ⟨a, o, e, f, q, r⟩ := s; subst f; exact ⟨a, o, e, rfl, h a (by simp) _ q, r.mono h0⟩
  | T => exact Tree.agree d v F h s
/-- let go: its objects are shared from now on -/
theorem Sh.rep {K : PySem.W.Frag} {H H0 : Hp} {x : FD} {v : V} {F : List Addr} (s : Sh K H H0 x v F) (h0 : ∀ p ∈ F, H0 p = none) : Rep K (addF H0 H F) x.2 v := by
  obtain ⟨fl, d⟩ := x
  cases fl with
  | S => obtain ⟨rfl, r⟩ := s; rw [addF_nil]; exact r
  | R =>
    obtain ⟨a, o, rfl, rfl, q, r⟩ := s
    exact (r.mono (addF_same0 h0)).rep (by rw [addF_in (by simp)]; exact q)
  | T => exact Tree.rep d v F (fun p hp o e => by rw [addF_in hp]; exact e) s

/-- from (H0, H) on: nothing changed, what is shared anew is new -/
structure Ext (H0 H H0' H' : Hp) : Prop where
  s0 : Same H0 H0'
  s1 : Same H0' H'
  s : Same H H'
  new : ∀ p, H0 p = none → H0' p ≠ none → H p = none
theorem Ext.refl {H0 H : Hp} (h : Same H0 H) : Ext H0 H H0 H := ⟨Same.refl _, h, Same.refl _, fun p h1 h2 => absurd h1 h2⟩
theorem Ext.trans {H0 H A0 A B0 B : Hp} (x : Ext H0 H A0 A) (y : Ext A0 A B0 B) : Ext H0 H B0 B := ⟨x.s0.trans y.s0, y.s1, x.s.trans y.s, fun p h1 h2 => by
  by_cases h : A0 p = none
  · have := y.new p h h2
    exact x.s.free this
  · exact x.new p h1 h⟩

theorem FrF.ext {K : PySem.W.Frag} {H H01 H1 H02 H2 : Hp} {x : FD} {v : V} {F : List Addr} (f : FrF H H01 F) (s : Sh K H1 H01 x v F) (e : Ext H01 H1 H02 H2) : FrF H H02 F :=
  ⟨f.1, fun p hp => ⟨(f.2 p hp).1, by
    cases q : H02 p with
    | none => rfl
    | some o => exact absurd (e.new p (f.2 p hp).2 (by rw [q]; simp)) (s.there p hp)⟩⟩
theorem Sh.ext {K : PySem.W.Frag} {H1 H01 H2 H02 : Hp} {x : FD} {v : V} {F : List Addr} (s : Sh K H1 H01 x v F) (e : Ext H01 H1 H02 H2) : Sh K H2 H02 x v F := s.mono e.s0 fun p _ o h => e.s p o h
/-- let go -/
theorem Ext.letgo {K : PySem.W.Frag} {H0 H H1 H01 : Hp} {x : FD} {v : V} {F : List Addr} (e : Ext H0 H H01 H1) (s : Sh K H1 H01 x v F) (f : FrF H H01 F) : Ext H0 H (addF H01 H1 F) H1 ∧ Rep K (addF H01 H1 F) x.2 v :=
  ⟨⟨e.s0.trans (addF_same0 fun p hp => (f.2 p hp).2), addF_same e.s1, e.s, fun p h1 h2 => by
    by_cases hp : p ∈ F
    · exact (f.2 p hp).1
    · rw [addF_out hp] at h2; exact e.new p h1 h2⟩, s.rep fun p hp => (f.2 p hp).2⟩
/-- a new object is laid: shared -/
theorem Ext.lay {H0 H : Hp} (h : Same H0 H) {p : Addr} (hp : H p = none) (o : HO) : Ext H0 H (upd H0 p o) (upd H p o) :=
  ⟨fun b u e => by rw [upd_ne (fun z => by subst z; have := h _ _ e; rw [hp] at this; cases this)]; exact e,
   fun b u e => by
    by_cases hb : b = p
    · subst hb; rw [upd_same] at e ⊢; exact e
    · rw [upd_ne hb] at e ⊢; exact h b u e,
   fun b u e => by rw [upd_ne (ne_of_none e hp)]; exact e,
   fun b h1 h2 => by
    by_cases hb : b = p
    · subst hb; exact hp
    · rw [upd_ne hb] at h2; exact absurd h1 h2⟩
/-- a new object is laid: one's own -/
theorem Ext.lay0 {H0 H : Hp} (h : Same H0 H) {p : Addr} (hp : H p = none) (o : HO) : Ext H0 H H0 (upd H p o) :=
  ⟨Same.refl _, fun b u e => by rw [upd_ne (ne_of_none (h b u e) hp)]; exact h b u e, fun b u e => by rw [upd_ne (ne_of_none e hp)]; exact e, fun p h1 h2 => absurd h1 h2⟩
theorem same_none {H0 H : Hp} (h : Same H0 H) {p : Addr} (hp : H p = none) : H0 p = none := h.free hp

/-! ### results -/
inductive Res (α : Type) where
  | ok (a : α) | xc (c : Str) (fs : List (Str × D)) | bad
def Res.bind {α β : Type} (r : Res α) (f : α → Res β) : Res β := match r with
  | .ok a => f a
  | .xc c fs => .xc c fs
  | .bad => .bad
@[simp] theorem Res.bind_ok {α β : Type} (a : α) (f : α → Res β) : (Res.ok a).bind f = f a := rfl
@[simp] theorem Res.bind_xc {α β : Type} (c : Str) (fs : List (Str × D)) (f : α → Res β) : (Res.xc c fs : Res α).bind f = .xc c fs := rfl
@[simp] theorem Res.bind_bad {α β : Type} (f : α → Res β) : (Res.bad : Res α).bind f = .bad := rfl

/-- the fields of an exception -/
def RepF (K : PySem.W.Frag) (H0 : Hp) : List (Str × D) → List (Str × V) → Prop
  | [], vs => vs = []
  | (n, d) :: ds, vs => ∃ v r, vs = (n, v) :: r ∧ Rep K H0 d v ∧ RepF K H0 ds r
def XF (K : PySem.W.Frag) (H0 H : Hp) (d : Option Addr) (fs : List (Str × D)) : Prop := match fs with
  | [] => d = none
  | f :: fs => ∃ dx kvs, d = some dx ∧ H dx = some (.xd kvs) ∧ RepF K H0 (f :: fs) kvs

/-- the module's side: K, what its names hold -/
structure Md where
  K : PySem.W.Frag
  mg : Str → Option Value

/-- what is wanted of an outcome, from (H0, H) on at the slots σ -/
def Out {α : Type} (M : Md) (W : WX) (σ : L2.St) (H0 H : Hp) (r : Res α) (P : α → Prop) : Prop := match r with
  | .ok a => P a
  | .xc c fs => ∀ C d H' H0', M.mg c = some (.ref C) → Ext H0 H H0' H' → XF M.K H0' H' d fs → W (.ref C) d σ H'
  | .bad => False
theorem Out.imp {α : Type} {M : Md} {W : WX} {σ : L2.St} {H0 H : Hp} {r : Res α} {P P' : α → Prop} (o : Out M W σ H0 H r P) (h : ∀ a, P a → P' a) : Out M W σ H0 H r P' := by
  cases r with
  | ok a => exact h a o
  | xc c fs => exact o
  | bad => exact o
/-- behind a first part -/
theorem Out.after {α : Type} {M : Md} {W : WX} {σ : L2.St} {H0 H H01 H1 : Hp} {r : Res α} {P P' : α → Prop} (e : Ext H0 H H01 H1) (o : Out M W σ H0 H r P) (h : ∀ a, P a → P' a) : Out M W σ H01 H1 r P' := by
  cases r with
  | ok a => exact h a o
  | xc c fs => exact fun C d H' H0' hm e' x => o C d H' H0' hm (e.trans e') x
  | bad => exact o
theorem Out.bind {α β : Type} {M : Md} {W : WX} {σ : L2.St} {H0 H : Hp} {r : Res α} {f : α → Res β} {P : β → Prop} (o : Out M W σ H0 H (r.bind f) P) : Out M W σ H0 H r fun a => Out M W σ H0 H (f a) P := by
  cases r with
  | ok a => exact o
  | xc c fs => exact o
  | bad => exact o

/-- the slots, read -/
def RdE (K : PySem.W.Frag) (σ : L2.St) (ρ : List (Option D)) (H0 : Hp) : Prop := ρ.length = σ.length ∧ ∀ (i : Nat) (d : D), ρ[i]? = some (some d) → ∃ v, σ[i]? = some (some v) ∧ Rep K H0 d v
theorem RdE.mono {K : PySem.W.Frag} {σ : L2.St} {ρ : List (Option D)} {H0 H0' : Hp} (r : RdE K σ ρ H0) (h : Same H0 H0') : RdE K σ ρ H0' := ⟨r.1, fun i d e => by
  obtain ⟨v, h1, h2⟩ := r.2 i d e
  exact ⟨v, h1, Rep.mono h d v h2⟩⟩
theorem RdE.monoK {K : PySem.W.Frag} {σ : L2.St} {ρ : List (Option D)} {H0 H0' : Hp} (r : RdE K σ ρ H0) (h : Kp H0 H0') : RdE K σ ρ H0' := ⟨r.1, fun i d e => by
  obtain ⟨v, h1, h2⟩ := r.2 i d e
  exact ⟨v, h1, Rep.monoK h d v h2⟩⟩
abbrev GE := List (Option D) → Res FD
abbrev GT := List (Option D) → Res Bool
abbrev GA := List (Option D) → Res (List FD)
/-- an expression's reading: its outcome is g's -/
def tE (M : Md) (W : WX) (g : GE) : TE := fun σ H Q => ∃ H0 ρ, Same H0 H ∧ RdE M.K σ ρ H0 ∧
  Out M W σ H0 H (g ρ) fun x => ∀ v H' H0' F, Ext H0 H H0' H' → Sh M.K H' H0' x v F → FrF H H0' F → Q v H'
def tT (M : Md) (W : WX) (g : GT) : TT := fun σ H Q => ∃ H0 ρ, Same H0 H ∧ RdE M.K σ ρ H0 ∧
  Out M W σ H0 H (g ρ) fun b => ∀ H' H0', Ext H0 H H0' H' → Q b H'
/-- argument lists: all let go -/
def tA (M : Md) (W : WX) (g : List (Option D) → Res (List D)) : TA := fun σ H Q => ∃ H0 ρ, Same H0 H ∧ RdE M.K σ ρ H0 ∧
  Out M W σ H0 H (g ρ) fun ds => ∀ vs H' H0', Ext H0 H H0' H' → Reps M.K H0' ds vs → Q vs H'
/-- .. with what each is -/
def Shs (K : PySem.W.Frag) (H H0 : Hp) : List FD → List V → List Addr → Prop
  | [], vs, F => vs = [] ∧ F = []
  | x :: xs, vs, F => ∃ v r G1 G2, vs = v :: r ∧ F = G1 ++ G2 ∧ Sh K H H0 x v G1 ∧ Shs K H H0 xs r G2
theorem Shs.there {K : PySem.W.Frag} {H H0 : Hp} : ∀ {xs : List FD} {vs : List V} {F : List Addr}, Shs K H H0 xs vs F → ∀ p ∈ F, H p ≠ none
  | [], _, _, r => by obtain ⟨_, rfl⟩ := r; simp
  | x :: xs, _, _, ⟨v, r, G1, G2, e, f, s, q⟩ => by
    subst f; intro p hp
    rcases List.mem_append.mp hp with hp | hp
    · exact s.there p hp
    · exact Shs.there q p hp
theorem Shs.ext {K : PySem.W.Frag} {H1 H01 H2 H02 : Hp} (e : Ext H01 H1 H02 H2) : ∀ {xs : List FD} {vs : List V} {F : List Addr}, Shs K H1 H01 xs vs F → Shs K H2 H02 xs vs F
  | [], _, _, r => r
  | x :: xs, _, _, ⟨v, r, G1, G2, a, f, s, q⟩ => ⟨v, r, G1, G2, a, f, s.ext e, Shs.ext e q⟩
theorem Shs.length {K : PySem.W.Frag} {H1 H01 : Hp} : ∀ {xs : List FD} {vs : List V} {F : List Addr}, Shs K H1 H01 xs vs F → xs.length = vs.length
  | [], _, _, r => by obtain ⟨rfl, _⟩ := r; rfl
  | x :: xs, _, _, ⟨v, r, G1, G2, a, f, s, q⟩ => by subst a; simp [Shs.length q]
theorem Shs.snoc {K : PySem.W.Frag} {H H0 : Hp} : ∀ {ds : List FD} {vs : List V} {F G : List Addr} {d : FD} {v : V}, Shs K H H0 ds vs F → Sh K H H0 d v G → Shs K H H0 (ds ++ [d]) (vs ++ [v]) (F ++ G)
  | [], _, _, G, d, v, r, t => by
    obtain ⟨rfl, rfl⟩ := r
    exact ⟨v, [], G, [], rfl, by simp, t, rfl, rfl⟩
  | x :: ds, _, _, G, d, v, ⟨w, r, G1, G2, e, f, s, q⟩, t => by
    subst e; subst f
    exact ⟨w, _, G1, G2 ++ G, rfl, by simp, s, Shs.snoc q t⟩
theorem Shs.rep {K : PySem.W.Frag} {H H0 H0' : Hp} (h : Same H0 H0') : ∀ {xs : List FD} {vs : List V} {F : List Addr}, (∀ p ∈ F, H0 p = none) → (∀ p ∈ F, H0' p = H p) → Shs K H H0 xs vs F → Reps K H0' (xs.map (·.2)) vs
  | [], _, _, _, _, r => r.1
  | x :: xs, _, _, h0, h1, ⟨v, r, G1, G2, e, f, s, q⟩ => by
    subst f
    refine ⟨v, r, e, ?_, Shs.rep h (fun p hp => h0 p (List.mem_append_right _ hp)) (fun p hp => h1 p (List.mem_append_right _ hp)) q⟩
    refine Rep.mono (fun b o e => ?_) _ _ (s.rep fun p hp => h0 p (List.mem_append_left _ hp))
    by_cases hb : b ∈ G1
    · rw [addF_in hb] at e; rw [h1 b (List.mem_append_left _ hb)]; exact e
    · rw [addF_out hb] at e; exact h b o e
theorem Shs.trees {K : PySem.W.Frag} {H H0 : Hp} : ∀ {xs : List FD} {vs : List V} {F : List Addr}, (xs.all fun x => decide (x.1 = .T)) = true → Shs K H H0 xs vs F → Trees H (xs.map (·.2)) vs F
  | [], _, _, _, r => r
  | (fl, d) :: xs, _, _, h, ⟨v, r, G1, G2, e, f, s, q⟩ => by
    simp only [List.all_cons, Bool.and_eq_true, decide_eq_true_eq] at h
    obtain ⟨h1, h2⟩ := h
    subst h1
    exact ⟨v, r, G1, G2, e, f, s, Shs.trees h2 q⟩
def tL (M : Md) (W : WX) (g : GA) : TA := fun σ H Q => ∃ H0 ρ, Same H0 H ∧ RdE M.K σ ρ H0 ∧
  Out M W σ H0 H (g ρ) fun xs => ∀ vs H' H0' F, Ext H0 H H0' H' → Shs M.K H' H0' xs vs F → FrF H H0' F → Q vs H'
end VL
end

section
set_option Elab.async false
set_option maxRecDepth 100000
set_option linter.all false
/-! The value layer, 2: expressions. -/
namespace VL
open PySem PySem.Spec PyProof.Rows L2

abbrev Md.of (X : Cx) : Md := ⟨X.K, X.mg⟩
theorem _root_.L2.PE.imp {X : Cx} {e : Expr} {t t' : TE} (h : PE X e t) (i : ∀ σ H Q, t' σ H Q → t σ H Q) : PE X e t' := ⟨fun pins s σ H Q I q => h.run pins s σ H Q I (i _ _ _ q)⟩
theorem _root_.L2.PT.imp {X : Cx} {e : Expr} {t t' : TT} (h : PT X e t) (i : ∀ σ H Q, t' σ H Q → t σ H Q) : PT X e t' := ⟨fun pins s σ H Q I q => h.run pins s σ H Q I (i _ _ _ q)⟩
theorem _root_.L2.PW.imp {X : Cx} {e : Expr} {t t' : TT} (h : PW X e t) (i : ∀ σ H Q, t' σ H Q → t σ H Q) : PW X e t' := ⟨fun w pins s σ H Q I q => h.run w pins s σ H Q I (i _ _ _ q)⟩
theorem _root_.L2.PA.imp {X : Cx} {e : List Expr} {t t' : TA} (h : PA X e t) (i : ∀ σ H Q, t' σ H Q → t σ H Q) : PA X e t' := ⟨fun p pins s σ H Q I q => h.run p pins s σ H Q I (i _ _ _ q)⟩
theorem _root_.L2.PS.imp {X : Cx} {e : Stmt} {t t' : TS} (h : PS X e t) (i : ∀ D σ H, t' D σ H → t D σ H) : PS X e t' := ⟨fun pins s σ H D I q => h.run pins s σ H D I (i _ _ _ q)⟩
theorem _root_.L2.PSs.imp {X : Cx} {e : List Stmt} {t t' : TS} (h : PSs X e t) (i : ∀ D σ H, t' D σ H → t D σ H) : PSs X e t' := ⟨fun pins s σ H D I q => h.run pins s σ H D I (i _ _ _ q)⟩
theorem _root_.L2.OpR.imp {X : Cx} {f : Value → Value → Sem Value} {r r' : R2} (h : OpR X f r) (i : ∀ x y H Q, r' x y H Q → r x y H Q) : OpR X f r' := fun pins s σ H x y v u Q I rx ry q => h pins s σ H x y v u Q I rx ry (i _ _ _ _ q)
theorem _root_.L2.CallR.imp {X : Cx} {f : Value} {r r' : List V → Hp → VK → Prop} (h : CallR X f r) (i : ∀ xs H Q, r' xs H Q → r xs H Q) : CallR X f r' := fun pins s σ H xs us Q I rx q => h pins s σ H xs us Q I rx (i _ _ _ q)

def ofO {α : Type} : Option α → Res α
  | some a => .ok a
  | none => .bad
@[simp] theorem ofO_some {α : Type} (a : α) : ofO (some a) = .ok a := rfl
@[simp] theorem ofO_none {α : Type} : ofO (none : Option α) = .bad := rfl

/-- a thing read: an atom is nobody's -/
def sh (d : D) : FD := (if d.atom then .T else .S, d)
@[simp] theorem sh_2 (d : D) : (sh d).2 = d := rfl
theorem sh_ok {K : PySem.W.Frag} {H H0 : Hp} {d : D} {v : V} (r : Rep K H0 d v) : Sh K H H0 (sh d) v [] := by
  cases d <;> first | exact ⟨r, rfl⟩ | exact ⟨rfl, r⟩

/-- from (H0, H): a way to end a value's reading -/
def Fin (K : PySem.W.Frag) (H0 H : Hp) (x : FD) (Q : VK) : Prop := ∀ v H' H0' F, Ext H0 H H0' H' → Sh K H' H0' x v F → FrF H H0' F → Q v H'
theorem Fin.here {K : PySem.W.Frag} {H0 H : Hp} {d : D} {Q : VK} {v : V} (f : Fin K H0 H (sh d) Q) (h : Same H0 H) (r : Rep K H0 d v) : Q v H :=
  f v H H0 [] (Ext.refl h) (sh_ok r) FrF.nil
theorem Fin.atom {K : PySem.W.Frag} {H0 H : Hp} {d : D} {Q : VK} {v : V} (f : Fin K H0 H (.T, d) Q) (h : Same H0 H) (r : Tree H d v []) : Q v H :=
  f v H H0 [] (Ext.refl h) r FrF.nil
theorem Fin.after {K : PySem.W.Frag} {H0 H H01 H1 : Hp} {x : FD} {Q : VK} (e : Ext H0 H H01 H1) (f : Fin K H0 H x Q) : Fin K H01 H1 x Q := fun v H' H0' F e' s fr =>
  f v H' H0' F (e.trans e') s ⟨fr.1, fun p hp => ⟨e.s.free (fr.2 p hp).1, (fr.2 p hp).2⟩⟩

section
variable {X : Cx} {W : WX}

/-! ### names, constants -/
def gVar (i : Nat) : GE := fun ρ => match ρ[i]? with
  | some (some d) => .ok (sh d)
  | _ => .bad
theorem ev_var {i : Nat} {e : Expr} (h : PE X e (tVar i)) : PE X e (tE (Md.of X) W (gVar i)) := h.imp fun σ H Q ⟨H0, ρ, hs, hr, q⟩ => by
  unfold gVar at q
  split at q
  · rename_i d e
    obtain ⟨v, h1, h2⟩ := hr.2 i d e
    exact ⟨v, h1, Fin.here (K := X.K) q hs h2⟩
  · exact q.elim
def gCon (d : D) : GE := fun _ => .ok (.T, d)
theorem ev_con {e : Expr} {d : D} {v : V} (h : PE X e (tC v)) (r : ∀ H, Tree H d v [] := by intro _; exact ⟨rfl, rfl⟩) : PE X e (tE (Md.of X) W (gCon d)) := h.imp fun σ H Q ⟨H0, ρ, hs, hr, q⟩ =>
  Fin.atom (K := X.K) q hs (r H)

/-! ### operations by values -/
def rV (K : PySem.W.Frag) (f : D → D → Option FD) : R2 := fun x y H Q => ∃ H0 a b r, Same H0 H ∧ Rep K H0 a x ∧ Rep K H0 b y ∧ f a b = some r ∧ Fin K H0 H r Q
def g2 (ga gb : GE) (f : FD → FD → Res FD) : GE := fun ρ => (ga ρ).bind fun x => (gb ρ).bind fun y => f x y
/-- two parts, one behind the other, let go -/
theorem two {σ : L2.St} {H : Hp} {ga gb : GE} {f : D → D → Res FD} {Q : VK} {R : V → V → Hp → Prop}
    (h : tE (Md.of X) W (g2 ga gb fun x y => f x.2 y.2) σ H Q)
    (k : ∀ x y H1 H01 a b, Same H01 H1 → Rep X.K H01 a x → Rep X.K H01 b y → Out (Md.of X) W σ H01 H1 (f a b) (fun r => Fin X.K H01 H1 r Q) → R x y H1) :
    tE (Md.of X) W ga σ H fun x H1 => tE (Md.of X) W gb σ H1 fun y H2 => R x y H2 := by
  obtain ⟨H0, ρ, hs, hr, q⟩ := h
  refine ⟨H0, ρ, hs, hr, (Out.bind q).imp fun x qx => fun v H1 H01 F e s fr => ?_⟩
  obtain ⟨e1, r1⟩ := e.letgo s fr
  refine ⟨_, ρ, e1.s1, hr.mono e1.s0, (Out.after e1 (Out.bind qx) fun y qy => fun u H2 H02 G e' s' fr' => ?_)⟩
  obtain ⟨e2, r2⟩ := e'.letgo s' fr'
  exact k v u H2 _ x.2 y.2 e2.s1 (Rep.mono e2.s0 _ _ r1) r2 (Out.after (e1.trans e2) qy fun r q => Fin.after (e1.trans e2) q)
theorem ev_op {a b : Expr} {o : Operator} {pos : Pos} {ga gb : GE} {f : D → D → Option FD} (op : OpR X (binaryOp o) (rV X.K f)) (ha : PE X a (tE (Md.of X) W ga)) (hb : PE X b (tE (Md.of X) W gb)) :
    PE X (.BinOp a o b pos) (tE (Md.of X) W (g2 ga gb fun x y => ofO (f x.2 y.2))) := (pe_op op ha hb).imp fun σ H Q h => two (f := fun a b => ofO (f a b)) (Q := Q) h fun x y H1 H01 a b hs ra rb q => by
  have q : Out (Md.of X) W σ H01 H1 (ofO (f a b)) _ := q
  cases e : f a b with
  | none => rw [e] at q; exact q.elim
  | some r => rw [e] at q; exact ⟨H01, a, b, r, hs, ra, rb, e, q⟩
theorem ev_cmp {a b : Expr} {o : CmpOp} {pos : Pos} {ga gb : GE} {f : D → D → Option FD} (op : OpR X (compareOp o) (rV X.K f)) (ha : PE X a (tE (Md.of X) W ga)) (hb : PE X b (tE (Md.of X) W gb)) (hm : behindInMarks o b = false) :
    PE X (.Compare a [o] [b] pos) (tE (Md.of X) W (g2 ga gb fun x y => ofO (f x.2 y.2))) := (pe_cmpR op ha hb hm).imp fun σ H Q h => two (f := fun a b => ofO (f a b)) (Q := Q) h fun x y H1 H01 a b hs ra rb q => by
  have q : Out (Md.of X) W σ H01 H1 (ofO (f a b)) _ := q
  cases e : f a b with
  | none => rw [e] at q; exact q.elim
  | some r => rw [e] at q; exact ⟨H01, a, b, r, hs, ra, rb, e, q⟩

/-! ### tests -/
def toB : FD → Res Bool
  | (_, .bl b) => .ok b
  | _ => .bad
/-- a test, by the value -/
def gTest (g : GE) : GT := fun ρ => (g ρ).bind toB
theorem Sh.bl {K : PySem.W.Frag} {H H0 : Hp} {x : FD} {v : V} {F : List Addr} {b : Bool} (s : Sh K H H0 x v F) (e : toB x = .ok b) : v = .bl b := by
  obtain ⟨fl, d⟩ := x
  cases d <;> simp only [toB] at e <;> first | (cases e; done) | skip
  cases e
  cases fl with
  | S => exact s.2
  | R => obtain ⟨a, o, _, _, _, r⟩ := s; exact r.elim
  | T => exact s.1
theorem tT_of {g : GE} {σ : L2.St} {H : Hp} {Q : Bool → Hp → Prop} (h : tT (Md.of X) W (gTest g) σ H Q) : tE (Md.of X) W g σ H fun x H1 => ∃ c, x = .bl c ∧ Q c H1 := by
  obtain ⟨H0, ρ, hs, hr, q⟩ := h
  refine ⟨H0, ρ, hs, hr, (Out.bind q).imp fun x qx => fun v H1 H01 F e s fr => ?_⟩
  cases k : toB x with
  | ok b => rw [k] at qx; exact ⟨b, s.bl k, qx H1 H01 e⟩
  | xc c fs =>
    obtain ⟨fl, d⟩ := x
    cases d <;> simp [toB] at k
  | bad => rw [k] at qx; exact qx.elim
theorem et_cmp {a b : Expr} {o : CmpOp} {pos : Pos} {ga gb : GE} {f : D → D → Option FD} (op : OpR X (compareOp o) (rV X.K f)) (ha : PE X a (tE (Md.of X) W ga)) (hb : PE X b (tE (Md.of X) W gb)) (hm : behindInMarks o b = false) :
    PT X (.Compare a [o] [b] pos) (tT (Md.of X) W (gTest (g2 ga gb fun x y => ofO (f x.2 y.2)))) := (pt_cmpR op ha hb hm).imp fun σ H Q h => by
  have h' := tT_of h
  show tE _ _ ga σ H fun x H1 => tE _ _ gb σ H1 fun y H2 => rV X.K f x y H2 fun x H' => ∃ k, x = .bl k ∧ Q k H'
  exact two (f := fun a b => ofO (f a b)) h' fun x y H1 H01 a b hs ra rb q => by
    have q : Out (Md.of X) W σ H01 H1 (ofO (f a b)) _ := q
    cases e : f a b with
    | none => rw [e] at q; exact q.elim
    | some r => rw [e] at q; exact ⟨H01, a, b, r, hs, ra, rb, e, q⟩
/-- any expression that is a bool, plainly tested -/
theorem et_val {e : Expr} {g : GE} (h : PE X e (tE (Md.of X) W g)) (he : ∀ whole, isTrue e X.env whole = (do let v ← whole; standAt e.pos; holding [v] (truthy v)) := by intro _; rfl) :
    PT X e (tT (Md.of X) W (gTest g)) := (pt_val h he).imp fun σ H Q q => tT_of q
def gNotT (g : GT) : GT := fun ρ => (g ρ).bind fun b => .ok (!b)
theorem et_not {a : Expr} {pos : Pos} {g : GT} (h : PT X a (tT (Md.of X) W g)) : PT X (.UnaryOp .Not a pos) (tT (Md.of X) W (gNotT g)) := (pt_not h).imp fun σ H Q ⟨H0, ρ, hs, hr, q⟩ =>
  ⟨H0, ρ, hs, hr, (Out.bind q).imp fun b qb => qb⟩
def gAndT (g k : GT) : GT := fun ρ => (g ρ).bind fun b => if b = true then k ρ else .ok false
def gOrT (g k : GT) : GT := fun ρ => (g ρ).bind fun b => if b = true then .ok true else k ρ
theorem ew_and1 {a : Expr} {pos : Pos} {g : GT} (h : PT X a (tT (Md.of X) W g)) : PW X (.BoolOp .And [a] pos) (tT (Md.of X) W g) := pw_and1 h
theorem ew_or1 {a : Expr} {pos : Pos} {g : GT} (h : PT X a (tT (Md.of X) W g)) : PW X (.BoolOp .Or [a] pos) (tT (Md.of X) W g) := pw_or1 h
theorem ew_and {a b : Expr} {r : List Expr} {pos : Pos} {g k : GT} (h : PT X a (tT (Md.of X) W g)) (h' : PW X (.BoolOp .And (b :: r) pos) (tT (Md.of X) W k)) :
    PW X (.BoolOp .And (a :: b :: r) pos) (tT (Md.of X) W (gAndT g k)) := (pw_and h h').imp fun σ H Q ⟨H0, ρ, hs, hr, q⟩ =>
  ⟨H0, ρ, hs, hr, (Out.bind q).imp fun b qb => fun H1 H01 e => by
    cases b with
    | true => exact ⟨H01, ρ, e.s1, hr.mono e.s0, Out.after e qb fun c qc H2 H02 e' => qc H2 H02 (e.trans e')⟩
    | false => exact qb H1 H01 e⟩
theorem ew_or {a b : Expr} {r : List Expr} {pos : Pos} {g k : GT} (h : PT X a (tT (Md.of X) W g)) (h' : PW X (.BoolOp .Or (b :: r) pos) (tT (Md.of X) W k)) :
    PW X (.BoolOp .Or (a :: b :: r) pos) (tT (Md.of X) W (gOrT g k)) := (pw_or h h').imp fun σ H Q ⟨H0, ρ, hs, hr, q⟩ =>
  ⟨H0, ρ, hs, hr, (Out.bind q).imp fun b qb => fun H1 H01 e => by
    cases b with
    | false => exact ⟨H01, ρ, e.s1, hr.mono e.s0, Out.after e qb fun c qc H2 H02 e' => qc H2 H02 (e.trans e')⟩
    | true => exact qb H1 H01 e⟩
/-- and, or, not as values: of bools -/
def gBl (g : GT) : GE := fun ρ => (g ρ).bind fun b => .ok (.T, .bl b)
def gAndV (g k : GE) : GE := fun ρ => (g ρ).bind fun x => (toB x).bind fun b => if b = true then k ρ else .ok (.T, .bl false)
def gOrV (g k : GE) : GE := fun ρ => (g ρ).bind fun x => (toB x).bind fun b => if b = true then .ok (.T, .bl true) else k ρ
def gNotV (g : GE) : GE := fun ρ => (g ρ).bind fun x => (toB x).bind fun b => .ok (.T, .bl (!b))
theorem ev_one {a : Expr} {o : BoolOp} {pos : Pos} {g : GE} (h : PE X a (tE (Md.of X) W g)) : PE X (.BoolOp o [a] pos) (tE (Md.of X) W g) := pe_one h
theorem toB_xc {x : FD} {c : Str} {fs : List (Str × D)} (h : toB x = .xc c fs) : False := by
  obtain ⟨fl, d⟩ := x
  cases d <;> simp [toB] at h
theorem ev_and {a b : Expr} {r : List Expr} {pos : Pos} {g k : GE} (h : PE X a (tE (Md.of X) W g)) (h' : PE X (.BoolOp .And (b :: r) pos) (tE (Md.of X) W k)) :
    PE X (.BoolOp .And (a :: b :: r) pos) (tE (Md.of X) W (gAndV g k)) := (pe_and h h').imp fun σ H Q ⟨H0, ρ, hs, hr, q⟩ =>
  ⟨H0, ρ, hs, hr, (Out.bind q).imp fun x qx => fun v H1 H01 F e s fr => by
    cases t : toB x with
    | ok b =>
      rw [t] at qx
      refine ⟨b, s.bl t, ?_⟩
      cases b with
      | true => exact ⟨H01, ρ, e.s1, hr.mono e.s0, Out.after e qx fun y qy => Fin.after e qy⟩
      | false => exact Fin.atom (K := X.K) (Fin.after e qx) e.s1 ⟨rfl, rfl⟩
    | xc c fs => exact (toB_xc t).elim
    | bad => rw [t] at qx; exact qx.elim⟩
theorem ev_or {a b : Expr} {r : List Expr} {pos : Pos} {g k : GE} (h : PE X a (tE (Md.of X) W g)) (h' : PE X (.BoolOp .Or (b :: r) pos) (tE (Md.of X) W k)) :
    PE X (.BoolOp .Or (a :: b :: r) pos) (tE (Md.of X) W (gOrV g k)) := (pe_or h h').imp fun σ H Q ⟨H0, ρ, hs, hr, q⟩ =>
  ⟨H0, ρ, hs, hr, (Out.bind q).imp fun x qx => fun v H1 H01 F e s fr => by
    cases t : toB x with
    | ok b =>
      rw [t] at qx
      refine ⟨b, s.bl t, ?_⟩
      cases b with
      | false => exact ⟨H01, ρ, e.s1, hr.mono e.s0, Out.after e qx fun y qy => Fin.after e qy⟩
      | true => exact Fin.atom (K := X.K) (Fin.after e qx) e.s1 ⟨rfl, rfl⟩
    | xc c fs => exact (toB_xc t).elim
    | bad => rw [t] at qx; exact qx.elim⟩
theorem ev_not {a : Expr} {pos : Pos} {g : GE} (h : PE X a (tE (Md.of X) W g)) : PE X (.UnaryOp .Not a pos) (tE (Md.of X) W (gNotV g)) := (pe_not h).imp fun σ H Q ⟨H0, ρ, hs, hr, q⟩ =>
  ⟨H0, ρ, hs, hr, (Out.bind q).imp fun x qx => fun v H1 H01 F e s fr => by
    cases t : toB x with
    | ok b => rw [t] at qx; exact ⟨b, s.bl t, Fin.atom (K := X.K) (Fin.after e qx) e.s1 ⟨rfl, rfl⟩⟩
    | xc c fs => exact (toB_xc t).elim
    | bad => rw [t] at qx; exact qx.elim⟩
def gIf (c : GT) (g k : GE) : GE := fun ρ => (c ρ).bind fun b => if b = true then g ρ else k ρ
theorem ev_if {c a b : Expr} {pos : Pos} {gc : GT} {g k : GE} (hc : PT X c (tT (Md.of X) W gc)) (h : PE X a (tE (Md.of X) W g)) (h' : PE X b (tE (Md.of X) W k)) : PE X (.IfExp c a b pos) (tE (Md.of X) W (gIf gc g k)) :=
  (pe_ifExp hc h h').imp fun σ H Q ⟨H0, ρ, hs, hr, q⟩ => ⟨H0, ρ, hs, hr, (Out.bind q).imp fun b qb => fun H1 H01 e => by
    cases b with
    | true => exact ⟨H01, ρ, e.s1, hr.mono e.s0, Out.after e qb fun y qy => Fin.after e qy⟩
    | false => exact ⟨H01, ρ, e.s1, hr.mono e.s0, Out.after e qb fun y qy => Fin.after e qy⟩⟩
/-- is None -/
def isN : D → Bool
  | .non => true
  | _ => false
theorem isN_ok {K : PySem.W.Frag} {H : Hp} {d : D} {v : V} (r : Rep K H d v) : decide (v = .non) = isN d := by
  cases d
  case non => cases r; rfl
  case bl => cases r; rfl
  case int => cases r; rfl
  case str => cases r; rfl
  all_goals
    obtain ⟨a, h⟩ := r
    first | (obtain ⟨vs, e, _⟩ := h; subst e; rfl) | (obtain ⟨e, _⟩ := h; subst e; rfl) | (obtain ⟨dx, vs, e, _⟩ := h; subst e; rfl)
def gIsN (g : GE) : GE := fun ρ => (g ρ).bind fun x => .ok (.T, .bl (isN x.2))
def gNotN (g : GE) : GE := fun ρ => (g ρ).bind fun x => .ok (.T, .bl (!isN x.2))
theorem one {σ : L2.St} {H : Hp} {g : GE} {f : D → Res FD} {Q : VK} {R : V → Hp → Prop} (h : tE (Md.of X) W (fun ρ => (g ρ).bind fun x => f x.2) σ H Q)
    (k : ∀ x H1 H01 a, Same H01 H1 → Rep X.K H01 a x → Out (Md.of X) W σ H01 H1 (f a) (fun r => Fin X.K H01 H1 r Q) → R x H1) : tE (Md.of X) W g σ H R := by
  obtain ⟨H0, ρ, hs, hr, q⟩ := h
  refine ⟨H0, ρ, hs, hr, (Out.bind q).imp fun x qx => fun v H1 H01 F e s fr => ?_⟩
  obtain ⟨e1, r1⟩ := e.letgo s fr
  exact k v H1 _ x.2 e1.s1 r1 (Out.after e1 qx fun r q => Fin.after e1 q)
theorem ec_isN {a : Expr} {j pos'} {g : GE} (h : PE X a (tE (Md.of X) W g)) : PC X .Is a (.Constant .none j pos') (tE (Md.of X) W (gIsN g)) := by
  refine ⟨fun pins s σ H Q I q => (pc_isN h).run pins s σ H Q I ?_⟩
  exact one (f := fun d => .ok (.T, .bl (isN d))) q fun x H1 H01 a hs ra q => by
    rw [isN_ok ra]; exact Fin.atom (K := X.K) q hs ⟨rfl, rfl⟩
theorem ec_notN {a : Expr} {j pos'} {g : GE} (h : PE X a (tE (Md.of X) W g)) : PC X .IsNot a (.Constant .none j pos') (tE (Md.of X) W (gNotN g)) := by
  refine ⟨fun pins s σ H Q I q => (pc_notN h).run pins s σ H Q I ?_⟩
  exact one (f := fun d => .ok (.T, .bl (!isN d))) q fun x H1 H01 a hs ra q => by
    rw [isN_ok ra]; exact Fin.atom (K := X.K) q hs ⟨rfl, rfl⟩
theorem ev_pc {a b : Expr} {o : CmpOp} {pos : Pos} {g : GE} (h : PC X o a b (tE (Md.of X) W g)) (h1 : behindInMarks o b = false) : PE X (.Compare a [o] [b] pos) (tE (Md.of X) W g) := pe_cmp h h1
theorem et_pc {a b : Expr} {o : CmpOp} {pos : Pos} {g : GE} (h : PC X o a b (tE (Md.of X) W g)) (h1 : behindInMarks o b = false) : PT X (.Compare a [o] [b] pos) (tT (Md.of X) W (gTest g)) := (pt_cmp h h1).imp fun σ H Q q => tT_of q

/-! ### argument lists -/
def gNil : List (Option D) → Res (List D) := fun _ => .ok []
def gCons (g : GE) (k : List (Option D) → Res (List D)) : List (Option D) → Res (List D) := fun ρ => (g ρ).bind fun x => (k ρ).bind fun xs => .ok (x.2 :: xs)
theorem ea_nil : PA X [] (tA (Md.of X) W gNil) := pa_nil.imp fun σ H Q ⟨H0, ρ, hs, hr, q⟩ => q [] H H0 (Ext.refl hs) rfl
theorem ea_cons {e : Expr} {es : List Expr} {g : GE} {k : List (Option D) → Res (List D)} (h : PE X e (tE (Md.of X) W g)) (h' : PA X es (tA (Md.of X) W k)) (hs : starEach (e :: es) X.env = (false, eval e X.env) :: starEach es X.env := by rfl) :
    PA X (e :: es) (tA (Md.of X) W (gCons g k)) := (pa_cons h h' hs).imp fun σ H Q ⟨H0, ρ, hs, hr, q⟩ =>
  ⟨H0, ρ, hs, hr, (Out.bind q).imp fun x qx => fun v H1 H01 F e s fr => by
    obtain ⟨e1, r1⟩ := e.letgo s fr
    refine ⟨_, ρ, e1.s1, hr.mono e1.s0, Out.after e1 (Out.bind qx) fun xs qs => fun vs H2 H02 e2 rs => ?_⟩
    exact qs (v :: vs) H2 H02 (e1.trans e2) ⟨v, vs, rfl, Rep.mono e2.s0 _ _ r1, rs⟩⟩
/-- .. with what each is -/
def lNil : GA := fun _ => .ok []
def lCons (g : GE) (k : GA) : GA := fun ρ => (g ρ).bind fun x => (k ρ).bind fun xs => .ok (x :: xs)
theorem el_nil : PA X [] (tL (Md.of X) W lNil) := pa_nil.imp fun σ H Q ⟨H0, ρ, hs, hr, q⟩ => q [] H H0 [] (Ext.refl hs) ⟨rfl, rfl⟩ FrF.nil
theorem el_cons {e : Expr} {es : List Expr} {g : GE} {k : GA} (h : PE X e (tE (Md.of X) W g)) (h' : PA X es (tL (Md.of X) W k)) (hs : starEach (e :: es) X.env = (false, eval e X.env) :: starEach es X.env := by rfl) :
    PA X (e :: es) (tL (Md.of X) W (lCons g k)) := (pa_cons h h' hs).imp fun σ H Q ⟨H0, ρ, hs, hr, q⟩ =>
  ⟨H0, ρ, hs, hr, (Out.bind q).imp fun x qx => fun v H1 H01 F e s fr => by
    refine ⟨H01, ρ, e.s1, hr.mono e.s0, Out.after e (Out.bind qx) fun xs qs => fun vs H2 H02 G e2 rs fr2 => ?_⟩
    have fr' := FrF.ext fr s e2
    refine qs (v :: vs) H2 H02 (F ++ G) (e.trans e2) ⟨v, vs, F, G, rfl, rfl, s.ext e2, rs⟩ ⟨?_, fun p hp => ?_⟩
    · refine List.nodup_append.mpr ⟨fr.1, fr2.1, fun a ha b hb hab => ?_⟩
      subst hab
      exact s.there a ha (fr2.2 a hb).1
    · rcases List.mem_append.mp hp with hp | hp
      · exact fr'.2 p hp
      · exact ⟨e.s.free (fr2.2 p hp).1, (fr2.2 p hp).2⟩⟩
def allT (xs : List FD) : Bool := xs.all fun x => decide (x.1 = .T)
def mkL (xs : List FD) : FD := (if allT xs then .T else .R, .lst (xs.map (·.2)))
def mkT (xs : List FD) : FD := (if allT xs then .T else .R, .tup (xs.map (·.2)))
/-- a new object over shapes -/
theorem newSeq {K : PySem.W.Frag} {H0 H H01 H1 : Hp} {xs : List FD} {vs : List V} {F : List Addr} {p : Addr} {Q : VK} {mk : List D → D} {mo : List V → HO}
    (hT : ∀ H ds vs G a, H a = some (mo vs) → ds.length ≤ sizeLine → Trees H ds vs G → Tree H (mk ds) (.ref a) (a :: G))
    (hR : ∀ H0 ds vs, ds.length ≤ sizeLine → Reps K H0 ds vs → Root K H0 (mk ds) (mo vs))
    (z : xs.length ≤ sizeLine) (f : Fin K H0 H (if allT xs then .T else .R, mk (xs.map (·.2))) Q) (e : Ext H0 H H01 H1) (s : Shs K H1 H01 xs vs F) (fr : FrF H H01 F) (hp : H1 p = none) : Q (.ref p) (upd H1 p (mo vs)) := by
  have el := Ext.lay0 e.s1 hp (mo vs)
  have hpF : p ∉ F := fun h => s.there p h hp
  have hpH : H p = none := e.s.free hp
  have hp0 : H01 p = none := e.s1.free hp
  have zl : (xs.map (·.2)).length ≤ sizeLine := by rw [List.length_map]; exact z
  by_cases a : allT xs = true
  · rw [if_pos a] at f
    have t := (s.ext el).trees a
    refine f (.ref p) _ H01 (p :: F) (e.trans el) (hT _ _ _ _ _ upd_same zl t) ⟨List.nodup_cons.mpr ⟨hpF, fr.1⟩, fun b hb => ?_⟩
    rcases List.mem_cons.mp hb with rfl | hb
    · exact ⟨hpH, hp0⟩
    · exact fr.2 b hb
  · rw [if_neg a] at f
    have z0 : ∀ b ∈ F, H01 b = none := fun b hb => (fr.2 b hb).2
    have e1 : Ext H0 H (addF H01 H1 F) H1 := ⟨e.s0.trans (addF_same0 z0), addF_same e.s1, e.s, fun b h1 h2 => by
      by_cases hb : b ∈ F
      · exact (fr.2 b hb).1
      · rw [addF_out hb] at h2; exact e.new b h1 h2⟩
    refine f (.ref p) _ (addF H01 H1 F) [p] (e1.trans (Ext.lay0 e1.s1 hp (mo vs))) ⟨p, mo vs, rfl, rfl, upd_same, hR _ _ _ zl (Shs.rep (addF_same0 z0) z0 (fun b hb => addF_in hb) s)⟩ ⟨by simp, fun b hb => ?_⟩
    rw [List.mem_singleton.mp hb, addF_out hpF]
    exact ⟨hpH, hp0⟩
theorem newL {K : PySem.W.Frag} {H0 H H01 H1 : Hp} {xs : List FD} {vs : List V} {F : List Addr} {p : Addr} {Q : VK}
    (z : xs.length ≤ sizeLine) (f : Fin K H0 H (mkL xs) Q) (e : Ext H0 H H01 H1) (s : Shs K H1 H01 xs vs F) (fr : FrF H H01 F) (hp : H1 p = none) : Q (.ref p) (upd H1 p (.lst vs)) :=
  newSeq (mk := D.lst) (mo := HO.lst) (fun H ds vs G a h z t => ⟨a, vs, G, rfl, rfl, h, z, t⟩) (fun H0 ds vs z r => ⟨vs, rfl, z, r⟩) z f e s fr hp
theorem newT {K : PySem.W.Frag} {H0 H H01 H1 : Hp} {xs : List FD} {vs : List V} {F : List Addr} {p : Addr} {Q : VK}
    (z : xs.length ≤ sizeLine) (f : Fin K H0 H (mkT xs) Q) (e : Ext H0 H H01 H1) (s : Shs K H1 H01 xs vs F) (fr : FrF H H01 F) (hp : H1 p = none) : Q (.ref p) (upd H1 p (.tup vs)) :=
  newSeq (mk := D.tup) (mo := HO.tup) (fun H ds vs G a h z t => ⟨a, vs, G, rfl, rfl, h, z, t⟩) (fun H0 ds vs z r => ⟨vs, rfl, z, r⟩) z f e s fr hp
def chk (b : Bool) (x : FD) : Res FD := if b = true then .ok x else .bad
def gLst (k : GA) : GE := fun ρ => (k ρ).bind fun xs => chk (decide (xs.length ≤ sizeLine)) (mkL xs)
def gTpl (k : GA) : GE := fun ρ => (k ρ).bind fun xs => chk (decide (xs.length ≤ sizeLine)) (mkT xs)
theorem ev_lst {es : List Expr} {pos : Pos} {k : GA} (h : PA X es (tL (Md.of X) W k)) : PE X (.List es pos) (tE (Md.of X) W (gLst k)) := (pe_lst h).imp fun σ H Q ⟨H0, ρ, hs, hr, q⟩ =>
  ⟨H0, ρ, hs, hr, (Out.bind q).imp fun xs qx => fun vs H1 H01 F e s fr => by
    unfold chk at qx
    split at qx
    · rename_i hz
      have hz := of_decide_eq_true hz
      exact ⟨by rw [← s.length]; exact hz, fun p hp => newL hz qx e s fr hp⟩
    · exact qx.elim⟩
theorem ev_tup {es : List Expr} {pos : Pos} {x1} {k : GA} (h : PA X es (tL (Md.of X) W k)) : PE X (.Tuple es x1 pos) (tE (Md.of X) W (gTpl k)) := (pe_tup h).imp fun σ H Q ⟨H0, ρ, hs, hr, q⟩ =>
  ⟨H0, ρ, hs, hr, (Out.bind q).imp fun xs qx => fun vs H1 H01 F e s fr => by
    unfold chk at qx
    split at qx
    · rename_i hz
      have hz := of_decide_eq_true hz
      exact ⟨by rw [← s.length]; exact hz, fun p hp => newT hz qx e s fr hp⟩
    · exact qx.elim⟩
end
end VL
end

section
set_option Elab.async false
set_option maxRecDepth 100000
set_option linter.all false
/-! The value layer, 3: equality, operators, subscripts, built-ins. -/
namespace VL
open PySem PySem.Spec PyProof.Rows L2

/-! ### == and != -/
def eqAtom : D → D → Option Bool
  | .non, .non => some true
  | .bl a, .bl b => some (a == b)
  | .int a, .int b => some (a == b)
  | .str a, .str b => some (a == b)
  | .non, .bl _ => some false
  | .non, .int _ => some false
  | .non, .str _ => some false
  | .bl _, .non => some false
  | .bl _, .str _ => some false
  | .int _, .non => some false
  | .int _, .str _ => some false
  | .str _, .non => some false
  | .str _, .bl _ => some false
  | .str _, .int _ => some false
  | _, _ => none
def allO (f : D → D → Option Bool) : List D → List D → Option Bool
  | x :: xs, y :: ys => (f x y).bind fun a => (allO f xs ys).map fun b => a && b
  | _, _ => some true
def eqN : Nat → D → D → Option Bool
  | n + 1, .lst xs, .lst ys => if xs.length = ys.length then allO (eqN n) xs ys else some false
  | n + 1, .tup xs, .tup ys => (allO (eqN n) xs ys).map fun b => b && decide (xs.length = ys.length)
  | n + 1, .lst _, .tup _ => some false
  | n + 1, .tup _, .lst _ => some false
  | n + 1, .lst _, .non => some false
  | n + 1, .lst _, .bl _ => some false
  | n + 1, .lst _, .int _ => some false
  | n + 1, .lst _, .str _ => some false
  | n + 1, .tup _, .non => some false
  | n + 1, .tup _, .bl _ => some false
  | n + 1, .tup _, .int _ => some false
  | n + 1, .tup _, .str _ => some false
  | n + 1, .non, .lst _ => some false
  | n + 1, .bl _, .lst _ => some false
  | n + 1, .int _, .lst _ => some false
  | n + 1, .str _, .lst _ => some false
  | n + 1, .non, .tup _ => some false
  | n + 1, .bl _, .tup _ => some false
  | n + 1, .int _, .tup _ => some false
  | n + 1, .str _, .tup _ => some false
  | n + 1, .scr xs, .lst [] => some xs.isEmpty
  | _, a, b => eqAtom a b
section
variable {X : Cx} {pins : List (Addr × Obj)} {σ : L2.St} {H : Hp} {s : Shared}
theorem Inv.isList {a : Addr} {xs : List V} (I : Inv X pins σ H s) (h : SqL X.K H a xs) : ∃ its : List Value, Vals xs its ∧ s.heap.IsList a its.toArray := by
  obtain ⟨its, r, ⟨o, n, e, c, d, q⟩, _⟩ := I.list h
  exact ⟨its, r, o, e, c, n, q⟩
theorem Inv.isTup {a : Addr} {xs : List V} (I : Inv X pins σ H s) (h : SqT X.K H a xs) : ∃ its : List Value, Vals xs its ∧ s.heap.IsTuple a its.toArray := by
  obtain ⟨its, r, t, _⟩ := I.tuple h
  exact ⟨its, r, t⟩
theorem rep_ref {K : PySem.W.Frag} {H : Hp} {ds : List D} {x : V} (r : Rep K H (.lst ds) x) : ∃ a vs, x = .ref a ∧ SqL K H a vs ∧ Reps K H ds vs := by
  obtain ⟨a, vs, e, h, z, q⟩ := r
  exact ⟨a, vs, e, SqL.of h, q⟩
theorem eqAtom_same {K : PySem.W.Frag} {H : Hp} {d e : D} {x : V} {b : Bool} (h : eqAtom d e = some b) (r : Rep K H d x) (q : Rep K H e x) : b = true := by
  cases d <;> cases e <;> simp only [eqAtom] at h <;> first | (cases h; done) | skip
  all_goals (cases h; cases r)
  all_goals (first | (cases q; done) | skip)
  all_goals (cases q; simp)
theorem allO_same {f : D → D → Option Bool} {K : PySem.W.Frag} {H : Hp} (hf : ∀ d e x b, f d e = some b → Rep K H d x → Rep K H e x → b = true) : ∀ {ds es : List D} {xs : List V} {b : Bool}, allO f ds es = some b → Reps K H ds xs → Reps K H es xs → b = true
  | [], _, _, b, h, _, _ => by simp [allO] at h; exact h
  | _ :: _, [], _, b, h, r, q => by simp [allO] at h; exact h
  | d :: ds, e :: es, _, b, h, ⟨v, t, e1, r1, r2⟩, ⟨u, t', e2, q1, q2⟩ => by
    subst e1
    cases e2
    unfold allO at h
    cases h1 : f d e with
    | none => rw [h1] at h; cases h
    | some c =>
      rw [h1] at h
      cases h2 : allO f ds es with
      | none => rw [h2] at h; cases h
      | some c2 =>
        rw [h2] at h
        cases h
        rw [hf d e v c h1 r1 q1, allO_same hf h2 r2 q2]; rfl
theorem lst_tup_no (I : Inv X pins σ H s) {a : Addr} {xs ys : List V} (h : SqL X.K H a xs) (h' : SqT X.K H a ys) : False := by
  obtain ⟨_, _, o, e, c, _⟩ := Inv.isList I h
  obtain ⟨_, _, o', e', c', _⟩ := Inv.isTup I h'
  rw [e] at e'; cases e'
  rw [c] at c'
  have := Value.type.inj c'
  exact absurd this (by decide)
theorem eqN_same (I : Inv X pins σ H s) : ∀ (n : Nat) (d e : D) (x : V) (b : Bool), eqN n d e = some b → Rep X.K H d x → Rep X.K H e x → b = true
  | 0, d, e, x, b, h, r, q => by
    have h : eqAtom d e = some b := by
      cases d <;> cases e <;> exact h
    exact eqAtom_same h r q
  | n + 1, d, e, x, b, h, r, q => by
    have key : eqAtom d e = some b → b = true := fun h => eqAtom_same h r q
    cases d with
    | lst xs =>
      obtain ⟨a, vs, rfl, h1, z, r1⟩ := r
      cases e with
      | lst ys =>
        obtain ⟨a', ws, e', h2, z', q1⟩ := q
        cases e'
        rw [h1] at h2; cases h2
        simp only [eqN] at h
        rw [if_pos (r1.length.trans q1.length.symm)] at h
        exact allO_same (eqN_same I n) h r1 q1
      | tup ys =>
        obtain ⟨a', ws, e', h2, z', q1⟩ := q
        cases e'
        exact (lst_tup_no I (SqL.of h1) h2).elim
      | dct _ => exact key h
      | scr _ => exact key h
      | ins _ _ _ => exact key h
      | _ => cases q
    | tup xs =>
      obtain ⟨a, vs, rfl, h1, z, r1⟩ := r
      cases e with
      | tup ys =>
        obtain ⟨a', ws, e', h2, z', q1⟩ := q
        cases e'
        have := I.tuple_inj h1 h2
        subst this
        simp only [eqN] at h
        cases h3 : allO (eqN n) xs ys with
        | none => rw [h3] at h; cases h
        | some c =>
          rw [h3] at h; cases h
          rw [allO_same (eqN_same I n) h3 r1 q1, decide_eq_true (r1.length.trans q1.length.symm)]; rfl
      | lst ys =>
        obtain ⟨a', ws, e', h2, z', q1⟩ := q
        cases e'
        exact (lst_tup_no I (SqL.of h2) h1).elim
      | dct _ => exact key h
      | scr _ => exact key h
      | ins _ _ _ => exact key h
      | _ => cases q
    | ins _ _ _ => cases e <;> exact key h
    | dct _ => cases e <;> exact key h
    | scr ns =>
      cases e with
      | lst ys =>
        cases ys with
        | nil =>
          obtain ⟨a, rfl, h1⟩ := r
          obtain ⟨a', ws, e', h2, z', q1⟩ := q
          cases e'
          have := I.list_inj h1 (SqL.of h2)
          cases q1
          have : ns = [] := by cases ns with
            | nil => rfl
            | cons _ _ => cases this
          subst this
          simp only [eqN] at h
          cases h; rfl
        | cons _ _ => exact key h
      | _ => exact key h
    | _ =>
      cases e with
      | lst ys => obtain ⟨a', ws, e', _⟩ := q; cases r; cases e'
      | tup ys => obtain ⟨a', ws, e', _⟩ := q; cases r; cases e'
      | _ => exact key h
/-- what == tells, what != tells, what a search tells -/
structure Eqs (A : Around) (s : Shared) (v u : Value) (b : Bool) : Prop where
  e : SeqAt.EqAt A s v u b
  r : SeqAt.RcAt A s v u b
  n : SeqAt.RcNeAt A s v u (!b)
theorem eqAtom_at {A : Around} {d e : D} {x y : V} {v u : Value} {b : Bool} (h : eqAtom d e = some b) (r : Rep X.K H d x) (rv : RelV x v) (q : Rep X.K H e y) (ru : RelV y u) : Eqs A s v u b :=
  match d, e, h, r, q with
  | .non, .non, h, r, q => by cases h; cases r; cases q; cases rv; cases ru; exact ⟨.same _, .none_none  , .none_none  ⟩
  | .non, .bl _, h, r, q => by cases h; cases r; cases q; cases rv; cases ru; exact ⟨.none_bool  _, .none_bool  _, .none_bool  _⟩
  | .non, .int _, h, r, q => by cases h; cases r; cases q; cases rv; obtain ⟨_, rfl⟩ := ru; exact ⟨.none_int  _ _, .none_int  _ _, .none_int  _ _⟩
  | .non, .str _, h, r, q => by cases h; cases r; cases q; cases rv; obtain ⟨_, rfl⟩ := ru; exact ⟨.none_str  _ _, .none_str  _ _, .none_str  _ _⟩
  | .bl _, .non, h, r, q => by cases h; cases r; cases q; cases rv; cases ru; exact ⟨.bool_none _ , .bool_none _ , .bool_none _ ⟩
  | .bl _, .bl _, h, r, q => by cases h; cases r; cases q; cases rv; cases ru; exact ⟨.bool_bool _ _, .bool_bool _ _, .bool_bool _ _⟩
  | .bl _, .str _, h, r, q => by cases h; cases r; cases q; cases rv; obtain ⟨_, rfl⟩ := ru; exact ⟨.bool_str _ _ _, .bool_str _ _ _, .bool_str _ _ _⟩
  | .int _, .non, h, r, q => by cases h; cases r; cases q; obtain ⟨_, rfl⟩ := rv; cases ru; exact ⟨.int_none _ _ , .int_none _ _ , .int_none _ _ ⟩
  | .int _, .int _, h, r, q => by cases h; cases r; cases q; obtain ⟨_, rfl⟩ := rv; obtain ⟨_, rfl⟩ := ru; exact ⟨.int_int _ _ _ _, .int_int _ _ _ _, .int_int _ _ _ _⟩
  | .int _, .str _, h, r, q => by cases h; cases r; cases q; obtain ⟨_, rfl⟩ := rv; obtain ⟨_, rfl⟩ := ru; exact ⟨.int_str _ _ _ _, .int_str _ _ _ _, .int_str _ _ _ _⟩
  | .str _, .non, h, r, q => by cases h; cases r; cases q; obtain ⟨_, rfl⟩ := rv; cases ru; exact ⟨.str_none _ _ , .str_none _ _ , .str_none _ _ ⟩
  | .str _, .bl _, h, r, q => by cases h; cases r; cases q; obtain ⟨_, rfl⟩ := rv; cases ru; exact ⟨.str_bool _ _ _, .str_bool _ _ _, .str_bool _ _ _⟩
  | .str _, .int _, h, r, q => by cases h; cases r; cases q; obtain ⟨_, rfl⟩ := rv; obtain ⟨_, rfl⟩ := ru; exact ⟨.str_int _ _ _ _, .str_int _ _ _ _, .str_int _ _ _ _⟩
  | .str _, .str _, h, r, q => by cases h; cases r; cases q; obtain ⟨_, rfl⟩ := rv; obtain ⟨_, rfl⟩ := ru; exact ⟨.str_str _ _ _ _, .str_str _ _ _ _, .str_str _ _ _ _⟩
  | .bl _, .int _, h, _, _ => by cases h
  | .int _, .bl _, h, _, _ => by cases h
  | .lst _, _, h, _, _ => by cases h
  | .tup _, _, h, _, _ => by cases h
  | .dct _, _, h, _, _ => by cases h
  | .scr _, _, h, _, _ => by cases h
  | .ins _ _ _, _, h, _, _ => by cases h
  | .non, .ins _ _ _, h, _, _ => by cases h
  | .bl _, .ins _ _ _, h, _, _ => by cases h
  | .int _, .ins _ _ _, h, _, _ => by cases h
  | .str _, .ins _ _ _, h, _, _ => by cases h
  | .non, .lst _, h, _, _ => by cases h
  | .non, .tup _, h, _, _ => by cases h
  | .non, .dct _, h, _, _ => by cases h
  | .non, .scr _, h, _, _ => by cases h
  | .bl _, .lst _, h, _, _ => by cases h
  | .bl _, .tup _, h, _, _ => by cases h
  | .bl _, .dct _, h, _, _ => by cases h
  | .bl _, .scr _, h, _, _ => by cases h
  | .int _, .lst _, h, _, _ => by cases h
  | .int _, .tup _, h, _, _ => by cases h
  | .int _, .dct _, h, _, _ => by cases h
  | .int _, .scr _, h, _, _ => by cases h
  | .str _, .lst _, h, _, _ => by cases h
  | .str _, .tup _, h, _, _ => by cases h
  | .str _, .dct _, h, _, _ => by cases h
  | .str _, .scr _, h, _, _ => by cases h
theorem allO_at {A : Around} {f : D → D → Option Bool} (hf : ∀ d e x y v u b, f d e = some b → Rep X.K H d x → RelV x v → Rep X.K H e y → RelV y u → SeqAt.EqAt A s v u b) :
    ∀ {ds es : List D} {xs ys : List V} {vs us : List Value} {b : Bool}, allO f ds es = some b → Reps X.K H ds xs → Vals xs vs → Reps X.K H es ys → Vals ys us →
      ∃ k : Nat → Bool, (∀ j (h1 : j < vs.length) (h2 : j < us.length), SeqAt.EqAt A s vs[j] us[j] (k j)) ∧ (List.range (min vs.length us.length)).all k = b
  | [], _, _, _, _, us, b, h, r, rv, q, ru => by
    cases r; cases rv
    simp only [allO] at h; cases h
    exact ⟨fun _ => true, fun j h1 _ => absurd h1 (by simp), by simp⟩
  | _ :: _, [], _, _, vs, _, b, h, r, rv, q, ru => by
    cases q; cases ru
    simp only [allO] at h; cases h
    exact ⟨fun _ => true, fun j _ h2 => absurd h2 (by simp), by simp⟩
  | d :: ds, e :: es, _, _, _, _, b, h, ⟨x, t, e1, r1, r2⟩, rv, ⟨y, t', e2, q1, q2⟩, ru => by
    subst e1 e2
    cases rv with
    | cons rv1 rv2 =>
    cases ru with
    | cons ru1 ru2 =>
    unfold allO at h
    cases h1 : f d e with
    | none => rw [h1] at h; cases h
    | some c =>
      rw [h1] at h
      cases h2 : allO f ds es with
      | none => rw [h2] at h; cases h
      | some c2 =>
        rw [h2] at h
        cases h
        obtain ⟨k, k1, k2⟩ := allO_at hf h2 r2 rv2 q2 ru2
        refine ⟨fun j => match j with | 0 => c | j + 1 => k j, fun j h1' h2' => ?_, ?_⟩
        · cases j with
          | zero => exact hf d e x y _ _ c h1 r1 rv1 q1 ru1
          | succ j => exact k1 j (by simpa using h1') (by simpa using h2')
        · simp only [List.length_cons]
          rw [show min (_ + 1) (_ + 1) = min _ _ + 1 from Nat.succ_min_succ .. , List.range_succ_eq_map, List.all_cons, List.all_map]
          rw [← k2]; rfl
theorem eqN_at (I : Inv X pins σ H s) : ∀ (n : Nat) (A : Around) (d e : D) (x y : V) (v u : Value) (b : Bool), A.units + n < cLine → eqN n d e = some b → Rep X.K H d x → RelV x v → Rep X.K H e y → RelV y u → Eqs A s v u b
  | 0, A, d, e, x, y, v, u, b, hu, h, r, rv, q, ru => by
    have h : eqAtom d e = some b := by
      cases d <;> cases e <;> exact h
    exact eqAtom_at h r rv q ru
  | n + 1, A, d, e, x, y, v, u, b, hu, h, r, rv, q, ru => by
    have key : eqAtom d e = some b → Eqs A s v u b := fun h => eqAtom_at h r rv q ru
    have hu0 : A.units < cLine := by omega
    have ih := fun d e x y v u b h1 h2 h3 h4 h5 => (eqN_at I n A.in1 d e x y v u b (by show A.units + 1 + n < _; omega) h1 h2 h3 h4 h5).e
    have whole := h
    cases d with
    | lst xs =>
      have rr := r
      obtain ⟨a, vs, rfl, h1, z, r1⟩ := r
      cases rv
      obtain ⟨its, rl, il⟩ := Inv.isList I (SqL.of h1)
      cases e with
      | lst ys =>
        have qq := q
        obtain ⟨a', ws, rfl, h2, z', q1⟩ := q
        cases ru
        obtain ⟨its', rl', il'⟩ := Inv.isList I (SqL.of h2)
        simp only [eqN] at h
        have fin : SeqAt.RcAt A s (.ref a) (.ref a') b ∧ SeqAt.RcNeAt A s (.ref a) (.ref a') (!b) := by
          have L1 : xs.length = its.length := r1.length.trans rl.length
          have L2' : ys.length = its'.length := q1.length.trans rl'.length
          by_cases hl : xs.length = ys.length
          · rw [if_pos hl] at h
            obtain ⟨k, k1, k2⟩ := allO_at ih h r1 rl q1 rl'
            have hs : its.toArray.size = its'.toArray.size := by simp only [List.size_toArray]; omega
            have e1 : (List.range its.toArray.size).all k = b := by
              rw [← k2]
              congr 2
              simp only [List.size_toArray]; omega
            refine ⟨?_, ?_⟩
            · have := SeqAt.RcAt.lists il il' hs hu0 (e := k) fun j h1 h2 => by simpa using k1 j (by simpa using h1) (by simpa using h2)
              rw [e1] at this; exact this
            · have := SeqAt.RcNeAt.lists il il' hs hu0 (e := k) fun j h1 h2 => by simpa using k1 j (by simpa using h1) (by simpa using h2)
              rw [e1] at this; exact this
          · rw [if_neg hl] at h; cases h
            have hs : (its.toArray.size != its'.toArray.size) = true := by simp only [List.size_toArray, bne_iff_ne, ne_eq]; omega
            exact ⟨.lists_lengths il il' hs hu0, .lists_lengths il il' hs hu0⟩
        refine ⟨?_, fin.1, fin.2⟩
        by_cases ha : a = a'
        · subst ha
          rw [eqN_same I (n + 1) _ _ _ b whole rr qq]
          exact .same _
        · exact .of_refs ha fin.1
      | tup ys =>
        obtain ⟨a', ws, rfl, h2, z', q1⟩ := q
        cases ru
        obtain ⟨its', rl', il'⟩ := Inv.isTup I h2
        simp only [eqN] at h; cases h
        exact ⟨.list_tuple il il' hu0, .list_tuple il il' hu0, .list_tuple il il' hu0⟩
      | dct _ => exact key h
      | scr _ => exact key h
      | ins _ _ _ => exact key h
      | non => cases q; cases ru; simp only [eqN] at h; cases h; exact ⟨.list_none il hu0, .list_none il hu0, .list_none il hu0⟩
      | bl _ => cases q; cases ru; simp only [eqN] at h; cases h; exact ⟨.list_bool _ il hu0, .list_bool _ il hu0, .list_bool _ il hu0⟩
      | int _ => cases q; obtain ⟨t, rfl⟩ := ru; simp only [eqN] at h; cases h; exact ⟨.list_int _ _ il hu0, .list_int _ _ il hu0, .list_int _ _ il hu0⟩
      | str _ => cases q; obtain ⟨t, rfl⟩ := ru; simp only [eqN] at h; cases h; exact ⟨.list_str _ _ il hu0, .list_str _ _ il hu0, .list_str _ _ il hu0⟩
    | tup xs =>
      have rr := r
      obtain ⟨a, vs, rfl, h1, z, r1⟩ := r
      cases rv
      obtain ⟨its, rl, il⟩ := Inv.isTup I h1
      cases e with
      | tup ys =>
        have qq := q
        obtain ⟨a', ws, rfl, h2, z', q1⟩ := q
        cases ru
        obtain ⟨its', rl', il'⟩ := Inv.isTup I h2
        simp only [eqN] at h
        have fin : SeqAt.RcAt A s (.ref a) (.ref a') b ∧ SeqAt.RcNeAt A s (.ref a) (.ref a') (!b) := by
          have L1 : xs.length = its.length := r1.length.trans rl.length
          have L2' : ys.length = its'.length := q1.length.trans rl'.length
          cases h3 : allO (eqN n) xs ys with
          | none => rw [h3] at h; cases h
          | some c =>
            rw [h3] at h; cases h
            obtain ⟨k, k1, k2⟩ := allO_at ih h3 r1 rl q1 rl'
            have e1 : ((List.range (min its.toArray.size its'.toArray.size)).all k && its.toArray.size == its'.toArray.size) = (c && decide (xs.length = ys.length)) := by
              rw [← k2]
              simp only [List.size_toArray, L1, L2']
              rfl
            refine ⟨?_, ?_⟩
            · have := SeqAt.RcAt.tuples il il' hu0 (e := k) fun j h1 h2 => by simpa using k1 j (by simpa using h1) (by simpa using h2)
              rw [e1] at this; exact this
            · have := SeqAt.RcNeAt.tuples il il' hu0 (e := k) fun j h1 h2 => by simpa using k1 j (by simpa using h1) (by simpa using h2)
              rw [e1] at this; exact this
        refine ⟨?_, fin.1, fin.2⟩
        by_cases ha : a = a'
        · subst ha
          rw [eqN_same I (n + 1) _ _ _ b whole rr qq]
          exact .same _
        · exact .of_refs ha fin.1
      | lst ys =>
        obtain ⟨a', ws, rfl, h2, z', q1⟩ := q
        cases ru
        obtain ⟨its', rl', il'⟩ := Inv.isList I (SqL.of h2)
        simp only [eqN] at h; cases h
        exact ⟨.tuple_list il il' hu0, .tuple_list il il' hu0, .tuple_list il il' hu0⟩
      | dct _ => exact key h
      | scr _ => exact key h
      | ins _ _ _ => exact key h
      | non => cases q; cases ru; simp only [eqN] at h; cases h; exact ⟨.tuple_none il hu0, .tuple_none il hu0, .tuple_none il hu0⟩
      | bl _ => cases q; cases ru; simp only [eqN] at h; cases h; exact ⟨.tuple_bool _ il hu0, .tuple_bool _ il hu0, .tuple_bool _ il hu0⟩
      | int _ => cases q; obtain ⟨t, rfl⟩ := ru; simp only [eqN] at h; cases h; exact ⟨.tuple_int _ _ il hu0, .tuple_int _ _ il hu0, .tuple_int _ _ il hu0⟩
      | str _ => cases q; obtain ⟨t, rfl⟩ := ru; simp only [eqN] at h; cases h; exact ⟨.tuple_str _ _ il hu0, .tuple_str _ _ il hu0, .tuple_str _ _ il hu0⟩
    | dct _ => cases e <;> exact key h
    | ins _ _ _ => cases e <;> exact key h
    | scr ns =>
      cases e with
      | lst ys =>
        cases ys with
        | nil =>
          have rr := r
          have qq := q
          obtain ⟨a, rfl, h1⟩ := r
          cases rv
          obtain ⟨a', ws, rfl, h2, z', q1⟩ := q
          cases ru
          cases q1
          obtain ⟨its, rl, il⟩ := Inv.isList I h1
          obtain ⟨its', rl', il'⟩ := Inv.isList I (SqL.of h2)
          cases rl'
          simp only [eqN] at h; cases h
          have L1 : ns.length = its.length := by simpa using rl.length
          have fin : SeqAt.RcAt A s (.ref a) (.ref a') ns.isEmpty ∧ SeqAt.RcNeAt A s (.ref a) (.ref a') (!ns.isEmpty) := by
            cases ns with
            | nil =>
              have hs : its.toArray.size = ([] : List Value).toArray.size := by simp only [List.size_toArray]; rw [← L1]; rfl
              have e0 : (List.range its.toArray.size).all (fun _ => true) = true := by simp
              refine ⟨?_, ?_⟩
              · have := SeqAt.RcAt.lists il il' hs hu0 (e := fun _ => true) fun j _ h2 => absurd h2 (by simp)
                rw [e0] at this; exact this
              · have := SeqAt.RcNeAt.lists il il' hs hu0 (e := fun _ => true) fun j _ h2 => absurd h2 (by simp)
                rw [e0] at this; exact this
            | cons m ms =>
              have hs : (its.toArray.size != ([] : List Value).toArray.size) = true := by simp only [List.size_toArray, bne_iff_ne, ne_eq, ← L1]; simp
              exact ⟨.lists_lengths il il' hs hu0, .lists_lengths il il' hs hu0⟩
          refine ⟨?_, fin.1, fin.2⟩
          by_cases ha : a = a'
          · subst ha
            rw [eqN_same I (n + 1) _ _ _ _ whole rr qq]
            exact .same _
          · exact .of_refs ha fin.1
        | cons _ _ => exact key h
      | _ => exact key h
    | non =>
      cases e with
      | lst ys => obtain ⟨a', ws, rfl, h2, _⟩ := q; cases r; cases rv; cases ru; obtain ⟨_, _, il⟩ := Inv.isList I (SqL.of h2); simp only [eqN] at h; cases h; exact ⟨.none_list il hu0, .none_list il hu0, .none_list il hu0⟩
      | tup ys => obtain ⟨a', ws, rfl, h2, _⟩ := q; cases r; cases rv; cases ru; obtain ⟨_, _, il⟩ := Inv.isTup I h2; simp only [eqN] at h; cases h; exact ⟨.none_tuple il hu0, .none_tuple il hu0, .none_tuple il hu0⟩
      | _ => exact key h
    | bl _ =>
      cases e with
      | lst ys => obtain ⟨a', ws, rfl, h2, _⟩ := q; cases r; cases rv; cases ru; obtain ⟨_, _, il⟩ := Inv.isList I (SqL.of h2); simp only [eqN] at h; cases h; exact ⟨.bool_list _ il hu0, .bool_list _ il hu0, .bool_list _ il hu0⟩
      | tup ys => obtain ⟨a', ws, rfl, h2, _⟩ := q; cases r; cases rv; cases ru; obtain ⟨_, _, il⟩ := Inv.isTup I h2; simp only [eqN] at h; cases h; exact ⟨.bool_tuple _ il hu0, .bool_tuple _ il hu0, .bool_tuple _ il hu0⟩
      | _ => exact key h
    | int _ =>
      cases e with
      | lst ys => obtain ⟨a', ws, rfl, h2, _⟩ := q; cases r; obtain ⟨t, rfl⟩ := rv; cases ru; obtain ⟨_, _, il⟩ := Inv.isList I (SqL.of h2); simp only [eqN] at h; cases h; exact ⟨.int_list _ _ il hu0, .int_list _ _ il hu0, .int_list _ _ il hu0⟩
      | tup ys => obtain ⟨a', ws, rfl, h2, _⟩ := q; cases r; obtain ⟨t, rfl⟩ := rv; cases ru; obtain ⟨_, _, il⟩ := Inv.isTup I h2; simp only [eqN] at h; cases h; exact ⟨.int_tuple _ _ il hu0, .int_tuple _ _ il hu0, .int_tuple _ _ il hu0⟩
      | _ => exact key h
    | str _ =>
      cases e with
      | lst ys => obtain ⟨a', ws, rfl, h2, _⟩ := q; cases r; obtain ⟨t, rfl⟩ := rv; cases ru; obtain ⟨_, _, il⟩ := Inv.isList I (SqL.of h2); simp only [eqN] at h; cases h; exact ⟨.str_list _ _ il hu0, .str_list _ _ il hu0, .str_list _ _ il hu0⟩
      | tup ys => obtain ⟨a', ws, rfl, h2, _⟩ := q; cases r; obtain ⟨t, rfl⟩ := rv; cases ru; obtain ⟨_, _, il⟩ := Inv.isTup I h2; simp only [eqN] at h; cases h; exact ⟨.str_tuple _ _ il hu0, .str_tuple _ _ il hu0, .str_tuple _ _ il hu0⟩
      | _ => exact key h
def fB (f : D → D → Option Bool) : D → D → Option FD := fun a b => (f a b).map fun k => (.T, .bl k)
theorem fB_some {f : D → D → Option Bool} {a b : D} {r : FD} (h : fB f a b = some r) : ∃ k, f a b = some k ∧ r = (.T, .bl k) := by
  unfold fB at h
  cases e : f a b with
  | none => rw [e] at h; cases h
  | some k => rw [e] at h; cases h; exact ⟨k, rfl, rfl⟩
theorem op_eqV (hu : X.A.units + 64 < cLine) : OpR X (compareOp .Eq) (rV X.K (fB (eqN 32))) := fun pins s σ H x y v u Q I rx ry ⟨H0, a, b, r, hs, ra, rb, e, f⟩ => by
  obtain ⟨k, ek, rfl⟩ := fB_some e
  exact (eqN_at I 32 X.A a b x y v u k (by omega) ek (Rep.mono hs _ _ ra) rx (Rep.mono hs _ _ rb) ry).r _ _ _ _ ⟨.bl k, H, I, rfl, Fin.atom f hs ⟨rfl, rfl⟩⟩
theorem op_neV (hu : X.A.units + 64 < cLine) : OpR X (compareOp .NotEq) (rV X.K (fB fun a b => (eqN 32 a b).map (!·))) := fun pins s σ H x y v u Q I rx ry ⟨H0, a, b, r, hs, ra, rb, e, f⟩ => by
  obtain ⟨k, ek, rfl⟩ := fB_some e
  cases e2 : eqN 32 a b with
  | none => rw [e2] at ek; cases ek
  | some c =>
    rw [e2] at ek; cases ek
    exact (eqN_at I 32 X.A a b x y v u c (by omega) e2 (Rep.mono hs _ _ ra) rx (Rep.mono hs _ _ rb) ry).n _ _ _ _ ⟨.bl _, H, I, rfl, Fin.atom f hs ⟨rfl, rfl⟩⟩
end
end VL
end

section
set_option Elab.async false
set_option maxRecDepth 100000
set_option linter.all false
/-! The value layer, 4: operators, subscripts. -/
namespace VL
open PySem PySem.Spec PyProof.Rows L2

/-- a new object that holds what is shared -/
theorem Fin.newR {K : PySem.W.Frag} {H0 H : Hp} {d : D} {o : HO} {Q : VK} {p : Addr} (f : Fin K H0 H (.R, d) Q) (h : Same H0 H) (r : Root K H0 d o) (hp : H p = none) : Q (.ref p) (upd H p o) :=
  f (.ref p) _ H0 [p] (Ext.lay0 h hp o) ⟨p, o, rfl, rfl, upd_same, r⟩ ⟨by simp, fun b hb => by rw [List.mem_singleton.mp hb]; exact ⟨hp, h.free hp⟩⟩
theorem Fin.newT {K : PySem.W.Frag} {H0 H : Hp} {d : D} {o : HO} {Q : VK} {p : Addr} (f : Fin K H0 H (.T, d) Q) (h : Same H0 H) (r : Tree (upd H p o) d (.ref p) [p]) (hp : H p = none) : Q (.ref p) (upd H p o) :=
  f (.ref p) _ H0 [p] (Ext.lay0 h hp o) r ⟨by simp, fun b hb => by rw [List.mem_singleton.mp hb]; exact ⟨hp, h.free hp⟩⟩
theorem trees_atoms {H : Hp} {α : Type} {f : α → D} {g : α → V} (h : ∀ a, Tree H (f a) (g a) []) : ∀ xs : List α, Trees H (xs.map f) (xs.map g) []
  | [] => ⟨rfl, rfl⟩
  | x :: xs => ⟨g x, _, [], [], rfl, rfl, h x, trees_atoms h xs⟩
theorem trees_int {H : Hp} (xs : List Int) : Trees H (xs.map D.int) (xs.map V.int) [] := trees_atoms (f := D.int) (g := V.int) (fun _ => ⟨rfl, rfl⟩) xs
theorem trees_str {H : Hp} (xs : List Str) : Trees H (xs.map D.str) (xs.map V.str) [] := trees_atoms (f := D.str) (g := V.str) (fun _ => ⟨rfl, rfl⟩) xs
theorem tree_lst {H : Hp} {p : Addr} {ds : List D} {vs : List V} (t : Trees (upd H p (.lst vs)) ds vs []) (z : ds.length ≤ sizeLine) : Tree (upd H p (.lst vs)) (.lst ds) (.ref p) [p] := ⟨p, vs, [], rfl, rfl, upd_same, z, t⟩

def oT (d : D) : Option FD := some (.T, d)
def tooBig (n : Nat) : Bool := decide (sizeLine < n)

/-! ### arithmetic -/
def addD : D → D → Option FD
  | .int i, .int j => some (.T, .int (i + j))
  | .str a, .str b => if a.length + b.length ≤ sizeLine then some (.T, .str (a ++ b)) else none
  | .lst xs, .lst ys => if xs.length + ys.length ≤ sizeLine then some (.R, .lst (xs ++ ys)) else none
  | _, _ => none
def subD : D → D → Option FD
  | .int i, .int j => some (.T, .int (i - j))
  | _, _ => none
def repS (x : Str) (n : Nat) : Str := ⟨(List.replicate n x.cps).foldl (· ++ ·) #[]⟩
def mulD : D → D → Option FD
  | .int i, .int j => if (-(2 ^ 64) < i ∧ i < 2 ^ 64) ∨ (-(2 ^ 64) < j ∧ j < 2 ^ 64) then some (.T, .int (i * j)) else none
  | .str a, .int n => if 0 ≤ n ∧ n ≤ 1000 ∧ a.length ≤ 1000 then some (.T, .str (repS a n.toNat)) else none
  | _, _ => none
def divD : D → D → Option FD
  | .int i, .int j => if 0 < j ∧ j.natAbs.log2 < 9000 then some (.T, .int (i / j)) else none
  | _, _ => none
def modD : D → D → Option FD
  | .int i, .int j => if 0 < j then some (.T, .int (i % j)) else none
  | _, _ => none
def powD : D → D → Option FD
  | .int i, .int j => if 0 ≤ j ∧ j ≤ 1000000 ∧ i.natAbs < 2 ^ 64 then some (.T, .int (i ^ j.toNat)) else none
  | _, _ => none
def negD : D → Option FD
  | .int i => some (.T, .int (-i))
  | _ => none
theorem rep_int {K : PySem.W.Frag} {H : Hp} {i : Int} {v : V} (r : Rep K H (.int i) v) : v = .int i := r
theorem rep_str {K : PySem.W.Frag} {H : Hp} {i : Str} {v : V} (r : Rep K H (.str i) v) : v = .str i := r
theorem rep_bl {K : PySem.W.Frag} {H : Hp} {i : Bool} {v : V} (r : Rep K H (.bl i) v) : v = .bl i := r
section
variable {X : Cx}
theorem op_addV : OpR X (binaryOp .Add) (rV X.K addD) := fun pins s σ H x y v u Q I rx ry ⟨H0, a, b, r, hs, ra, rb, e, f⟩ => by
  unfold addD at e
  split at e
  · cases e; cases ra; cases rb
    exact op_add pins s σ H _ _ v u Q I rx ry ⟨_, _, rfl, rfl, Fin.atom f hs ⟨rfl, rfl⟩⟩
  · split at e
    · rename_i hz
      cases e; cases ra; cases rb
      exact op_add_str pins s σ H _ _ v u Q I rx ry ⟨_, _, rfl, rfl, hz, Fin.atom f hs ⟨rfl, rfl⟩⟩
    · cases e
  · split at e
    · rename_i hz
      cases e
      obtain ⟨p, vs, rfl, h1, z1, r1⟩ := ra
      obtain ⟨p', ws, rfl, h2, z2, r2⟩ := rb
      refine op_cat pins s σ H _ _ v u Q I rx ry ⟨_, _, _, _, rfl, rfl, hs _ _ h1, hs _ _ h2, by rw [← r1.length, ← r2.length]; exact hz, fun q hq => ?_⟩
      exact Fin.newR f hs ⟨_, rfl, by rw [List.length_append]; exact hz, r1.append r2⟩ hq
    · cases e
  · cases e
theorem op_subV : OpR X (binaryOp .Sub) (rV X.K subD) := fun pins s σ H x y v u Q I rx ry ⟨H0, a, b, r, hs, ra, rb, e, f⟩ => by
  unfold subD at e
  split at e
  · cases e; cases ra; cases rb
    exact op_sub pins s σ H _ _ v u Q I rx ry ⟨_, _, rfl, rfl, Fin.atom f hs ⟨rfl, rfl⟩⟩
  · cases e
theorem repS_length (x : Str) : ∀ (n : Nat) (acc : Array Nat), ((List.replicate n x.cps).foldl (· ++ ·) acc).size = acc.size + n * x.length
  | 0, acc => by simp
  | n + 1, acc => by
    rw [List.replicate_succ, List.foldl_cons, repS_length x n, Array.size_append]
    show acc.size + x.length + n * x.length = _
    rw [Nat.succ_mul]; omega
theorem op_mulV : OpR X (binaryOp .Mult) (rV X.K mulD) := fun pins s σ H x y v u Q I rx ry ⟨H0, a, b, r, hs, ra, rb, e, f⟩ => by
  unfold mulD at e
  split at e
  · split at e
    · rename_i hz
      cases e; cases ra; cases rb
      exact op_mul pins s σ H _ _ v u Q I rx ry ⟨_, _, rfl, rfl, hz, Fin.atom f hs ⟨rfl, rfl⟩⟩
    · cases e
  · split at e
    · rename_i z n hz
      obtain ⟨h0, h1, h2⟩ := hz
      cases e; cases ra; cases rb
      obtain ⟨t, rfl⟩ := rx
      obtain ⟨t', rfl⟩ := ry
      have fin : ∀ (y : Str) (tk : Nat) (t : Tok), y = repS z n.toNat → EP X pins σ Q (.str y t) { s with toks := tk } := fun y tk t e => ⟨.str y, H, I.tok _, ⟨_, rfl⟩, Fin.atom f hs (by rw [e]; exact ⟨rfl, rfl⟩)⟩
      have fin0 : ∀ (y : Str) (t : Tok), y = repS z n.toNat → EP X pins σ Q (.str y t) s := fun y t e => ⟨.str y, H, I, ⟨_, rfl⟩, Fin.atom f hs (by rw [e]; exact ⟨rfl, rfl⟩)⟩
      have bnd : (z.length : Int) * n ≤ 1000 * 1000 := Int.mul_le_mul (by omega) h1 h0 (by omega)
      refine PySem.P.mul_str (by
          have h3 : ¬ n ≥ 2 ^ 63 := by omega
          have h4 : ¬ n < -(2 ^ 63 : Int) := by omega
          rw [decide_eq_false h4, decide_eq_false h3]; rfl) (fun h3 _ => ?_) (fun h3 _ => ?_) ?_
      · have : (1000 : Int) ≤ (2 ^ 63 - 1) / n := (Int.le_ediv_iff_mul_le (by omega)).mpr (by omega)
        omega
      · show decide _ = false
        refine decide_eq_false ?_
        have : ((z.length * n.toNat : Nat) : Int) ≤ 1000 * 1000 := by
          rw [Int.natCast_mul, Int.toNat_of_nonneg h0]; exact bnd
        have e : sizeLine = 16777216 := by decide
        omega
      · split
        · rename_i h3
          have hn : n = 0 := by omega
          subst hn
          exact ⟨by decide, fin _ _ _ rfl⟩
        · split
          · rename_i h4
            simp only [Bool.or_eq_true, beq_iff_eq] at h4
            refine fin0 _ _ ?_
            rcases h4 with h4 | h4
            · subst h4
              obtain ⟨c⟩ := z
              show (⟨c⟩ : Str) = ⟨(List.replicate 1 c).foldl (· ++ ·) #[]⟩
              simp
            · have e1 : (repS z n.toNat).length = 0 := by
                show ((List.replicate n.toNat z.cps).foldl (· ++ ·) #[]).size = 0
                rw [repS_length, h4]; simp
              obtain ⟨c⟩ := z
              generalize hr : repS ⟨c⟩ n.toNat = r at e1
              obtain ⟨d⟩ := r
              have hc : c = #[] := Array.eq_empty_of_size_eq_zero h4
              have hd : d = #[] := Array.eq_empty_of_size_eq_zero e1
              rw [hc, hd]
          · refine ⟨?_, fin _ _ _ rfl⟩
            show ((List.replicate n.toNat z.cps).foldl (· ++ ·) #[]).size ≤ sizeLine
            rw [repS_length]
            have : ((z.length * n.toNat : Nat) : Int) ≤ 1000 * 1000 := by
              rw [Int.natCast_mul, Int.toNat_of_nonneg h0]; exact bnd
            have e : sizeLine = 16777216 := by decide
            rw [Nat.mul_comm, e]
            show 0 + _ ≤ _
            omega
    · cases e
  · cases e
theorem op_divV : OpR X (binaryOp .FloorDiv) (rV X.K divD) := fun pins s σ H x y v u Q I rx ry ⟨H0, a, b, r, hs, ra, rb, e, f⟩ => by
  unfold divD at e
  split at e
  · split at e
    · rename_i hz
      cases e; cases ra; cases rb
      exact op_fdivW pins s σ H _ _ v u Q I rx ry ⟨_, _, rfl, rfl, hz, Fin.atom f hs ⟨rfl, rfl⟩⟩
    · cases e
  · cases e
theorem op_modV : OpR X (binaryOp .Mod) (rV X.K modD) := fun pins s σ H x y v u Q I rx ry ⟨H0, a, b, r, hs, ra, rb, e, f⟩ => by
  unfold modD at e
  split at e
  · split at e
    · rename_i hz
      cases e; cases ra; cases rb
      exact op_mod pins s σ H _ _ v u Q I rx ry ⟨_, _, rfl, rfl, hz, Fin.atom f hs ⟨rfl, rfl⟩⟩
    · cases e
  · cases e
theorem op_powV : OpR X (binaryOp .Pow) (rV X.K powD) := fun pins s σ H x y v u Q I rx ry ⟨H0, a, b, r, hs, ra, rb, e, f⟩ => by
  unfold powD at e
  split at e
  · split at e
    · rename_i hz
      cases e; cases ra; cases rb
      exact op_pow pins s σ H _ _ v u Q I rx ry ⟨_, _, rfl, rfl, hz, Fin.atom f hs ⟨rfl, rfl⟩⟩
    · cases e
  · cases e
theorem ev_neg {W : WX} {a : Expr} {pos : Pos} {g : GE} (h : PE X a (tE (Md.of X) W g)) : PE X (.UnaryOp .USub a pos) (tE (Md.of X) W fun ρ => (g ρ).bind fun x => ofO (negD x.2)) :=
  (pe_un un_neg h).imp fun σ H Q q => one (f := fun d => ofO (negD d)) (Q := Q) q fun x H1 H01 a hs ra q => by
    cases a <;> first | exact (q : False).elim | skip
    cases ra
    exact ⟨_, rfl, Fin.atom (K := X.K) q hs ⟨rfl, rfl⟩⟩

/-! ### order -/
def ltD : D → D → Option Bool
  | .int i, .int j => some (decide (i < j))
  | .str a, .str b => some (decide (a.cps.toList < b.cps.toList))
  | .bl a, .bl b => some (decide (b2i a < b2i b))
  | _, _ => none
def gtD : D → D → Option Bool
  | .int i, .int j => some (decide (j < i))
  | .str a, .str b => some (decide (b.cps.toList < a.cps.toList))
  | .bl a, .bl b => some (decide (b2i a > b2i b))
  | _, _ => none
def leD : D → D → Option Bool
  | .int i, .int j => some (decide (i ≤ j))
  | _, _ => none
def geD : D → D → Option Bool
  | .int i, .int j => some (decide (j ≤ i))
  | _, _ => none
theorem op_ltV : OpR X (compareOp .Lt) (rV X.K (fB ltD)) := fun pins s σ H x y v u Q I rx ry ⟨H0, a, b, r, hs, ra, rb, e, f⟩ => by
  obtain ⟨k, e1, rfl⟩ := fB_some e
  unfold ltD at e1
  split at e1 <;> cases e1
  · cases ra; cases rb
    exact op_lt pins s σ H _ _ v u Q I rx ry ⟨_, _, rfl, rfl, Fin.atom f hs ⟨rfl, rfl⟩⟩
  · cases ra; cases rb
    exact op_lt_str pins s σ H _ _ v u Q I rx ry ⟨_, _, rfl, rfl, Fin.atom f hs ⟨rfl, rfl⟩⟩
  · cases ra; cases rb; cases rx; cases ry
    exact PyProof.Rows.lt_bool ⟨.bl _, H, I, rfl, Fin.atom f hs ⟨rfl, rfl⟩⟩
theorem op_gtV : OpR X (compareOp .Gt) (rV X.K (fB gtD)) := fun pins s σ H x y v u Q I rx ry ⟨H0, a, b, r, hs, ra, rb, e, f⟩ => by
  obtain ⟨k, e1, rfl⟩ := fB_some e
  unfold gtD at e1
  split at e1 <;> cases e1
  · cases ra; cases rb
    exact op_gt pins s σ H _ _ v u Q I rx ry ⟨_, _, rfl, rfl, Fin.atom f hs ⟨rfl, rfl⟩⟩
  · cases ra; cases rb
    exact op_gt_str pins s σ H _ _ v u Q I rx ry ⟨_, _, rfl, rfl, Fin.atom f hs ⟨rfl, rfl⟩⟩
  · cases ra; cases rb; cases rx; cases ry
    exact PyProof.Rows.gt_bool ⟨.bl _, H, I, rfl, Fin.atom f hs ⟨rfl, rfl⟩⟩
theorem op_leV : OpR X (compareOp .LtE) (rV X.K (fB leD)) := fun pins s σ H x y v u Q I rx ry ⟨H0, a, b, r, hs, ra, rb, e, f⟩ => by
  obtain ⟨k, e1, rfl⟩ := fB_some e
  unfold leD at e1
  split at e1 <;> cases e1
  cases ra; cases rb
  exact op_le pins s σ H _ _ v u Q I rx ry ⟨_, _, rfl, rfl, Fin.atom f hs ⟨rfl, rfl⟩⟩
theorem op_geV : OpR X (compareOp .GtE) (rV X.K (fB geD)) := fun pins s σ H x y v u Q I rx ry ⟨H0, a, b, r, hs, ra, rb, e, f⟩ => by
  obtain ⟨k, e1, rfl⟩ := fB_some e
  unfold geD at e1
  split at e1 <;> cases e1
  cases ra; cases rb
  exact op_ge pins s σ H _ _ v u Q I rx ry ⟨_, _, rfl, rfl, Fin.atom f hs ⟨rfl, rfl⟩⟩

/-! ### subscripts -/
def keyOf : D → Option Key
  | .int i => some (.inl i)
  | .str z => some (.inr z)
  | _ => none
theorem keyOf_rep {K : PySem.W.Frag} {H : Hp} {d : D} {k : Key} {v : V} (h : keyOf d = some k) (r : Rep K H d v) : v = kV k := by
  cases d <;> simp only [keyOf] at h <;> first | (cases h; done) | skip
  · cases h; cases r; rfl
  · cases h; cases r; rfl
def ixD : D → D → Option FD
  | .lst xs, .int i => (atI xs i).map sh
  | .tup xs, .int i => (atI xs i).map sh
  | .scr ns, .int i => (atI ns i).map fun n => (.T, .int n)
  | .str z, .int i => if z.length ≤ sizeLine then (atI z.cps.toList i).map fun c => (.T, .str ⟨#[c]⟩) else none
  | .dct kds, k => (keyOf k).bind fun k => (look kds k).map sh
  | _, _ => none
theorem Reps.atI {K : PySem.W.Frag} {H : Hp} {ds : List D} {vs : List V} {i : Int} {d : D} (r : Reps K H ds vs) (h : atI ds i = some d) : ∃ v, L2.atI vs i = some v ∧ Rep K H d v := by
  unfold L2.atI at h ⊢
  rw [← r.length]
  cases e : ixN ds.length i with
  | none => rw [e] at h; cases h
  | some j => rw [e] at h; exact r.get h
theorem ix_dictV (hu : X.A.units + 1 < cLine) : IxR X (fun x y H Q => ∃ a v, x = .ref a ∧ DGet H a y (some v) ∧ Q v H) := by
  intro value slice pins s σ H x y v u Q I rx ry h hs
  obtain ⟨a, v', rfl, g, q⟩ := h
  cases rx
  have hT := dict_typeIs I g
  unfold subscriptTail
  refine wpAny_bind ?_
  rw [getitemInPython_of_ne hT.not_modules]
  refine wpAny_bind (wpAny_specialOf hT PySem.F.slot_dict_getitem.lookup ?_)
  have fin : wpAny (model X.prog X.w) X.A (subscripted slice false (.ref a) u) (fun r s₃ => wpAny (model X.prog X.w) X.A (letTemporaryGo value (.ref a) r >>= fun _ => pure r) (EP X pins σ Q) X.xe s₃) X.xe s := by
    rw [hs]
    exact wpAny_operating (wpAny_mono (d_getItem hu I g ry fun w' s3 I3 rw' => (⟨v', H, I3, rw', q⟩ : EP X pins σ Q w' s3)) (fun r s₃ h₃ => wpAny_bind (wpAny_letTemporaryGo (wpAny_pure h₃))) fun _ _ x => x)
  first
    | exact wpAny_pure (wpAny_bind fin)
    | exact wpAny_bind (wpAny_pure (wpAny_bind fin))
    | exact wpAny_bind fin
theorem ix_V (hu : X.A.units + 64 < cLine) : IxR X (rV X.K ixD) := fun value slice pins s σ H x y v u Q I rx ry ⟨H0, a, b, r, hs, ra, rb, e, f⟩ hh => by
  unfold ixD at e
  split at e
  · obtain ⟨d, e1, rfl⟩ := Option.map_eq_some_iff.mp e
    obtain ⟨p, vs, rfl, h1, z1, r1⟩ := ra
    cases rb
    obtain ⟨w, e2, rw2⟩ := r1.atI e1
    exact ix_list value slice pins s σ H _ _ v u Q I rx ry ⟨_, _, _, _, rfl, rfl, SqL.of (hs _ _ h1), e2, Fin.here f hs rw2⟩ hh
  · obtain ⟨d, e1, rfl⟩ := Option.map_eq_some_iff.mp e
    obtain ⟨p, vs, rfl, h1, z1, r1⟩ := ra
    cases rb
    obtain ⟨w, e2, rw2⟩ := r1.atI e1
    exact ix_tup value slice pins s σ H _ _ v u Q I rx ry ⟨_, _, _, _, rfl, rfl, same_seqT hs h1, e2, Fin.here f hs rw2⟩ hh
  · obtain ⟨d, e1, rfl⟩ := Option.map_eq_some_iff.mp e
    obtain ⟨p, rfl, h1⟩ := ra
    cases rb
    refine ix_list value slice pins s σ H _ _ v u Q I rx ry ⟨_, _, _, .int d, rfl, rfl, hs.seq h1, ?_, Fin.atom f hs ⟨rfl, rfl⟩⟩ hh
    unfold L2.atI at e1 ⊢
    rw [List.length_map]
    cases e3 : ixN _ _ with
    | none => rw [e3] at e1; cases e1
    | some j =>
      rw [e3, Option.bind_some] at e1
      rw [Option.bind_some, List.getElem?_map, e1]; rfl
  · split at e
    · rename_i hz
      obtain ⟨d, e1, rfl⟩ := Option.map_eq_some_iff.mp e
      cases ra; cases rb
      exact ix_str value slice pins s σ H _ _ v u Q I rx ry ⟨_, _, _, rfl, rfl, hz, e1, Fin.atom f hs ⟨rfl, rfl⟩⟩ hh
    · cases e
  · obtain ⟨k, e1, e⟩ := Option.bind_eq_some_iff.mp e
    obtain ⟨d, e2, rfl⟩ := Option.map_eq_some_iff.mp e
    obtain ⟨p, kvs, rfl, h1, z1, r1⟩ := ra
    have ey := keyOf_rep e1 rb
    subst ey
    rcases r1.look k with ⟨e3, _⟩ | ⟨d', v', e3, e4, r2⟩
    · rw [e2] at e3; cases e3
    · rw [e2] at e3; cases e3
      exact ix_dictV (by omega) value slice pins s σ H _ _ v u Q I rx ry ⟨_, v', rfl, .inl ⟨kvs, k, same_rd hs h1, rfl, e4.symm⟩, Fin.here f hs r2⟩ hh
  · cases e
theorem ev_ix {W : WX} {a b : Expr} {pos : Pos} {ga gb : GE} (hu : X.A.units + 64 < cLine) (ha : PE X a (tE (Md.of X) W ga)) (hb : PE X b (tE (Md.of X) W gb)) (hs : PlainIx b) :
    PE X (.Subscript a b pos) (tE (Md.of X) W (g2 ga gb fun x y => ofO (ixD x.2 y.2))) := (pe_ix (ix_V hu) ha hb hs).imp fun σ H Q h => two (f := fun a b => ofO (ixD a b)) (Q := Q) h fun x y H1 H01 a b hs ra rb q => by
  have q : Out (Md.of X) W σ H01 H1 (ofO (ixD a b)) _ := q
  cases e : ixD a b with
  | none => rw [e] at q; exact q.elim
  | some r => rw [e] at q; exact ⟨H01, a, b, r, hs, ra, rb, e, q⟩
end
end VL
end

section
set_option Elab.async false
set_option maxRecDepth 100000
set_option linter.all false
/-! The value layer, 5: calls, built-ins. -/
namespace VL
open PySem PySem.Spec PyProof.Rows L2

def rVs (K : PySem.W.Frag) (f : List D → Option FD) : List V → Hp → VK → Prop := fun xs H Q => ∃ H0 ds r, Same H0 H ∧ Reps K H0 ds xs ∧ f ds = some r ∧ Fin K H0 H r Q
def gCall (k : List (Option D) → Res (List D)) (f : List D → Res FD) : GE := fun ρ => (k ρ).bind f

/-! ### what lists of atoms are -/
def atoms (ds : List D) : Bool := ds.all D.atom
mutual
theorem Rep.tree {K : PySem.W.Frag} {H H' : Hp} : ∀ {d : D} {v : V}, d.atom = true → Rep K H d v → Tree H' d v []
  | .non, _, _, r => ⟨r, rfl⟩
  | .bl _, _, _, r => ⟨r, rfl⟩
  | .int _, _, _, r => ⟨r, rfl⟩
  | .str _, _, _, r => ⟨r, rfl⟩
end
theorem Reps.trees {K : PySem.W.Frag} {H H' : Hp} : ∀ {ds : List D} {vs : List V}, atoms ds = true → Reps K H ds vs → Trees H' ds vs []
  | [], _, _, r => ⟨r, rfl⟩
  | d :: ds, _, h, ⟨v, t, e, s, q⟩ => by
    simp only [atoms, List.all_cons, Bool.and_eq_true] at h
    exact ⟨v, t, [], [], e, rfl, s.tree h.1, Reps.trees h.2 q⟩
def flL (ds : List D) : Fl := if atoms ds then .T else .R
/-- a new list, tuple of what is shared -/
theorem Fin.newLst {K : PySem.W.Frag} {H0 H : Hp} {ds : List D} {vs : List V} {Q : VK} {p : Addr} (f : Fin K H0 H (flL ds, .lst ds) Q) (h : Same H0 H) (r : Reps K H0 ds vs) (z : ds.length ≤ sizeLine) (hp : H p = none) : Q (.ref p) (upd H p (.lst vs)) := by
  unfold flL at f
  split at f
  · rename_i a
    exact f.newT h ⟨p, vs, [], rfl, rfl, upd_same, z, r.trees a⟩ hp
  · exact f.newR h ⟨vs, rfl, z, r⟩ hp
theorem Fin.newTup {K : PySem.W.Frag} {H0 H : Hp} {ds : List D} {vs : List V} {Q : VK} {p : Addr} (f : Fin K H0 H (flL ds, .tup ds) Q) (h : Same H0 H) (r : Reps K H0 ds vs) (z : ds.length ≤ sizeLine) (hp : H p = none) : Q (.ref p) (upd H p (.tup vs)) := by
  unfold flL at f
  split at f
  · rename_i a
    exact f.newT h ⟨p, vs, [], rfl, rfl, upd_same, z, r.trees a⟩ hp
  · exact f.newR h ⟨vs, rfl, z, r⟩ hp

/-! ### sorted -/
def leStr (a b : Str) : Bool := !decide (b.cps.toList < a.cps.toList)
def sortStr (ks : List Str) : List Str := ks.mergeSort leStr
def leInt (a b : Int) : Bool := decide (a ≤ b)
def sortInt (ks : List Int) : List Int := ks.mergeSort leInt
theorem ltCps_iff (a b : List Nat) : ltCps a b = decide (a < b) := by
  first
    | rfl
    | (induction a generalizing b with
       | nil => cases b <;> simp [ltCps]
       | cons x xs ih => cases b <;> simp [ltCps, ih, List.cons_lt_cons_iff]; rw [Bool.beq_eq_decide_eq])
theorem leStr_tot (a b : Str) : (leStr a b || leStr b a) = true := by
  unfold leStr
  by_cases h : b.cps.toList < a.cps.toList
  · have : ¬ a.cps.toList < b.cps.toList := fun q => List.lt_irrefl _ (List.lt_trans h q)
    simp [this]
  · simp [h]
theorem leStr_trans (a b c : Str) (h1 : leStr a b = true) (h2 : leStr b c = true) : leStr a c = true := by
  unfold leStr at *
  simp only [Bool.not_eq_true', decide_eq_false_iff_not] at *
  have h1' : a.cps.toList ≤ b.cps.toList := List.not_lt.mp h1
  have h2' : b.cps.toList ≤ c.cps.toList := List.not_lt.mp h2
  exact List.not_lt.mpr (List.le_trans h1' h2')
theorem leStr_anti (a b : Str) (h1 : leStr a b = true) (h2 : leStr b a = true) : a = b := by
  unfold leStr at *
  simp only [Bool.not_eq_true', decide_eq_false_iff_not] at *
  have e : a.cps.toList = b.cps.toList := List.le_antisymm (List.not_lt.mp h1) (List.not_lt.mp h2)
  obtain ⟨a⟩ := a
  obtain ⟨b⟩ := b
  have := Array.toList_inj.mp e
  simp only at this
  rw [this]
theorem rising_pair : ∀ {p : Str} {ys : List Str}, risingS p ys = true → (∀ y ∈ ys, leStr p y = true) ∧ ys.Pairwise (fun a b => leStr a b = true)
  | _, [], _ => ⟨by simp, .nil⟩
  | p, x :: r, h => by
    unfold risingS at h
    simp only [Bool.and_eq_true, Bool.not_eq_true'] at h
    obtain ⟨h1, h2⟩ := h
    have px : leStr p x = true := by
      unfold leStr
      rw [ltCps_iff] at h1
      rw [h1]; rfl
    obtain ⟨h3, h4⟩ := rising_pair h2
    refine ⟨fun y hy => ?_, .cons h3 h4⟩
    rcases List.mem_cons.mp hy with rfl | hy
    · exact px
    · exact leStr_trans _ _ _ px (h3 y hy)
theorem sortedS_pair {ys : List Str} (h : sortedS ys = true) : ys.Pairwise (fun a b => leStr a b = true) := by
  cases ys with
  | nil => exact .nil
  | cons x r => obtain ⟨h1, h2⟩ := rising_pair h; exact .cons h1 h2
theorem sortStr_of {ys ks : List Str} (p : ys.Perm ks) (s : sortedS ys = true) : ys = sortStr ks :=
  List.Perm.eq_of_pairwise (le := fun a b => leStr a b = true) (fun a b _ _ => leStr_anti a b) (sortedS_pair s) (List.pairwise_mergeSort leStr_trans leStr_tot ks) (p.trans (List.mergeSort_perm ks leStr).symm)
theorem sortInt_of {ys ks : List Int} (p : ys.Perm ks) (s : ys.Pairwise (fun a b => a ≤ b)) : ys = sortInt ks :=
  List.Perm.eq_of_pairwise (le := fun a b => leInt a b = true) (fun a b _ _ h1 h2 => by unfold leInt at *; simp at *; omega) (s.imp fun h => by unfold leInt; simpa using h)
    (List.pairwise_mergeSort (fun a b c h1 h2 => by unfold leInt at *; simp at *; omega) (fun a b => by unfold leInt; simp; omega) ks) (p.trans (List.mergeSort_perm ks leInt).symm)
def asInts : List D → Option (List Int)
  | [] => some []
  | .int i :: r => (asInts r).map (i :: ·)
  | _ => none
def asStrs : List D → Option (List Str)
  | [] => some []
  | .str i :: r => (asStrs r).map (i :: ·)
  | _ => none
def asBls : List D → Option (List Bool)
  | [] => some []
  | .bl i :: r => (asBls r).map (i :: ·)
  | _ => none
def keyInts : List Key → Option (List Int)
  | [] => some []
  | .inl i :: r => (keyInts r).map (i :: ·)
  | _ => none
def keyStrs : List Key → Option (List Str)
  | [] => some []
  | .inr i :: r => (keyStrs r).map (i :: ·)
  | _ => none
theorem asInts_eq : ∀ {ds : List D} {ns : List Int}, asInts ds = some ns → ds = ns.map D.int
  | [], _, h => by cases h; rfl
  | d :: ds, _, h => by
    cases d <;> simp only [asInts] at h <;> first | (cases h; done) | skip
    obtain ⟨a, h1, rfl⟩ := Option.map_eq_some_iff.mp h
    rw [asInts_eq h1]; rfl
theorem asStrs_eq : ∀ {ds : List D} {ns : List Str}, asStrs ds = some ns → ds = ns.map D.str
  | [], _, h => by cases h; rfl
  | d :: ds, _, h => by
    cases d <;> simp only [asStrs] at h <;> first | (cases h; done) | skip
    obtain ⟨a, h1, rfl⟩ := Option.map_eq_some_iff.mp h
    rw [asStrs_eq h1]; rfl
theorem asBls_eq : ∀ {ds : List D} {ns : List Bool}, asBls ds = some ns → ds = ns.map D.bl
  | [], _, h => by cases h; rfl
  | d :: ds, _, h => by
    cases d <;> simp only [asBls] at h <;> first | (cases h; done) | skip
    obtain ⟨a, h1, rfl⟩ := Option.map_eq_some_iff.mp h
    rw [asBls_eq h1]; rfl
theorem keyInts_eq : ∀ {ds : List Key} {ns : List Int}, keyInts ds = some ns → ds = ns.map Sum.inl
  | [], _, h => by cases h; rfl
  | d :: ds, _, h => by
    cases d <;> simp only [keyInts] at h <;> first | (cases h; done) | skip
    obtain ⟨a, h1, rfl⟩ := Option.map_eq_some_iff.mp h
    rw [keyInts_eq h1]; rfl
theorem keyStrs_eq : ∀ {ds : List Key} {ns : List Str}, keyStrs ds = some ns → ds = ns.map Sum.inr
  | [], _, h => by cases h; rfl
  | d :: ds, _, h => by
    cases d <;> simp only [keyStrs] at h <;> first | (cases h; done) | skip
    obtain ⟨a, h1, rfl⟩ := Option.map_eq_some_iff.mp h
    rw [keyStrs_eq h1]; rfl
theorem Reps.ints {K : PySem.W.Frag} {H : Hp} : ∀ {ns : List Int} {vs : List V}, Reps K H (ns.map D.int) vs → vs = ns.map V.int
  | [], _, r => r
  | n :: ns, _, ⟨v, t, e, s, q⟩ => by subst e; cases s; rw [Reps.ints q]; rfl
theorem Reps.strs {K : PySem.W.Frag} {H : Hp} : ∀ {ns : List Str} {vs : List V}, Reps K H (ns.map D.str) vs → vs = ns.map V.str
  | [], _, r => r
  | n :: ns, _, ⟨v, t, e, s, q⟩ => by subst e; cases s; rw [Reps.strs q]; rfl
theorem Reps.bls {K : PySem.W.Frag} {H : Hp} : ∀ {ns : List Bool} {vs : List V}, Reps K H (ns.map D.bl) vs → vs = ns.map V.bl
  | [], _, r => r
  | n :: ns, _, ⟨v, t, e, s, q⟩ => by subst e; cases s; rw [Reps.bls q]; rfl

/-! ### built-ins, by the data of their arguments -/
def lenD : List D → Option FD
  | [.lst xs] => oT (.int xs.length)
  | [.tup xs] => oT (.int xs.length)
  | [.dct xs] => oT (.int xs.length)
  | [.scr xs] => oT (.int xs.length)
  | [.str z] => if z.length ≤ sizeLine then oT (.int z.length) else none
  | _ => none
def intD : List D → Option FD
  | [.bl b] => oT (.int (if b then 1 else 0))
  | [.int i] => oT (.int i)
  | _ => none
def kD : Key → D
  | .inl i => .int i
  | .inr z => .str z
def listD : List D → Option FD
  | [.lst xs] => some (flL xs, .lst xs)
  | [.tup xs] => some (flL xs, .lst xs)
  | _ => none
def tupD : List D → Option FD
  | [.lst xs] => some (flL xs, .tup xs)
  | _ => none
def sortD : List D → Option FD
  | [.lst xs] => match asInts xs, asStrs xs with
    | some ns, _ => oT (.lst ((sortInt ns).map D.int))
    | none, some ss => if ss.length < 64 then oT (.lst ((sortStr ss).map D.str)) else none
    | none, none => none
  | [.dct kds] => match keyStrs (kds.map (·.1)), keyInts (kds.map (·.1)) with
    | some ss, _ => if ss.length < 64 then oT (.lst ((sortStr ss).map D.str)) else none
    | none, some ns => if ns.length < 64 then oT (.lst ((sortInt ns).map D.int)) else none
    | none, none => none
  | _ => none
def minD : List D → Option FD
  | [.int i, .int j] => oT (.int (if j < i then j else i))
  | _ => none
def maxD2 : List D → Option FD
  | [.int i, .int j] => oT (.int (if j > i then j else i))
  | _ => none
def sumD : List D → Option FD
  | [.lst xs] => (asInts xs).bind fun ns => oT (.int ns.sum)
  | _ => none
def allD : List D → Option FD
  | [.lst xs] => (asBls xs).bind fun bs => oT (.bl (bs.all id))
  | _ => none
def anyD : List D → Option FD
  | [.lst xs] => (asBls xs).bind fun bs => oT (.bl (bs.any id))
  | _ => none
section
variable {X : Cx} {W : WX}
theorem call_lenV : CallR X (.builtin "len") (rVs X.K lenD) := fun pins s σ H xs us Q I rx ⟨H0, ds, r, hs, rs, e, f⟩ => by
  unfold lenD at e
  split at e
  · cases e
    obtain ⟨v, t, rfl, ⟨a, vs, rfl, h, z, q⟩, rfl⟩ := rs
    exact call_len pins s σ H _ us Q I rx ⟨_, _, rfl, .inl ⟨_, SqL.of (hs _ _ h), rfl⟩, by rw [← q.length]; exact Fin.atom f hs ⟨rfl, rfl⟩⟩
  · cases e
    obtain ⟨v, t, rfl, ⟨a, vs, rfl, h, z, q⟩, rfl⟩ := rs
    exact call_len pins s σ H _ us Q I rx ⟨_, _, rfl, .inr ⟨_, same_seqT hs h, rfl⟩, by rw [← q.length]; exact Fin.atom f hs ⟨rfl, rfl⟩⟩
  · cases e
    obtain ⟨v, t, rfl, ⟨a, vs, rfl, h, z, q⟩, rfl⟩ := rs
    obtain ⟨u, rfl, rv⟩ := vals1 rx
    cases rv
    exact d_len I (same_rd hs h) fun t s' I' => ⟨.int vs.length, H, I', ⟨t, rfl⟩, by rw [← q.length]; exact Fin.atom f hs ⟨rfl, rfl⟩⟩
  · cases e
    obtain ⟨v, t, rfl, ⟨a, rfl, h⟩, rfl⟩ := rs
    exact call_len pins s σ H _ us Q I rx ⟨_, _, rfl, .inl ⟨_, hs.seq h, rfl⟩, by rw [List.length_map]; exact Fin.atom f hs ⟨rfl, rfl⟩⟩
  · split at e
    · rename_i hz
      cases e
      obtain ⟨v, t, rfl, rfl, rfl⟩ := rs
      exact call_len_str pins s σ H _ us Q I rx ⟨_, rfl, hz, Fin.atom f hs ⟨rfl, rfl⟩⟩
    · cases e
  · cases e
theorem call_intV : CallR X (.type "int") (rVs X.K intD) := fun pins s σ H xs us Q I rx ⟨H0, ds, r, hs, rs, e, f⟩ => by
  unfold intD at e
  split at e
  · cases e
    obtain ⟨v, t, rfl, rfl, rfl⟩ := rs
    exact call_int1 pins s σ H _ us Q I rx (.inr ⟨_, rfl, Fin.atom f hs ⟨rfl, rfl⟩⟩)
  · cases e
    obtain ⟨v, t, rfl, rfl, rfl⟩ := rs
    exact call_int1 pins s σ H _ us Q I rx (.inl ⟨_, rfl, Fin.atom f hs ⟨rfl, rfl⟩⟩)
  · cases e
theorem call_listV : CallR X (.type "list") (rVs X.K listD) := fun pins s σ H xs us Q I rx ⟨H0, ds, r, hs, rs, e, f⟩ => by
  unfold listD at e
  split at e
  · cases e
    obtain ⟨v, t, rfl, ⟨a, vs, rfl, h, z, q⟩, rfl⟩ := rs
    exact call_list_of pins s σ H _ us Q I rx ⟨_, _, rfl, .inl (SqL.of (hs _ _ h)), fun l hl => Fin.newLst f hs q z hl⟩
  · cases e
    obtain ⟨v, t, rfl, ⟨a, vs, rfl, h, z, q⟩, rfl⟩ := rs
    exact call_list_of pins s σ H _ us Q I rx ⟨_, _, rfl, .inr (same_seqT hs h), fun l hl => Fin.newLst f hs q z hl⟩
  · cases e
theorem call_tupV : CallR X (.type "tuple") (rVs X.K tupD) := fun pins s σ H xs us Q I rx ⟨H0, ds, r, hs, rs, e, f⟩ => by
  unfold tupD at e
  split at e
  · cases e
    obtain ⟨v, t, rfl, ⟨a, vs, rfl, h, z, q⟩, rfl⟩ := rs
    exact call_tuple_of pins s σ H _ us Q I rx ⟨_, _, rfl, .inl ⟨SqL.of (hs _ _ h), fun l hl => Fin.newTup f hs q z hl⟩⟩
  · cases e
theorem call_minV (hc : X.calm = true) : CallR X (.builtin "min") (rVs X.K minD) := fun pins s σ H xs us Q I rx ⟨H0, ds, r, hs, rs, e, f⟩ => by
  unfold minD at e
  split at e
  · cases e
    obtain ⟨v, t, rfl, rfl, v2, t2, rfl, rfl, rfl⟩ := rs
    exact call_min2 hc pins s σ H _ us Q I rx ⟨_, _, rfl, Fin.atom f hs ⟨rfl, rfl⟩⟩
  · cases e
theorem call_maxV2 (hc : X.calm = true) : CallR X (.builtin "max") (rVs X.K maxD2) := fun pins s σ H xs us Q I rx ⟨H0, ds, r, hs, rs, e, f⟩ => by
  unfold maxD2 at e
  split at e
  · cases e
    obtain ⟨v, t, rfl, rfl, v2, t2, rfl, rfl, rfl⟩ := rs
    exact call_max2 hc pins s σ H _ us Q I rx ⟨_, _, rfl, Fin.atom f hs ⟨rfl, rfl⟩⟩
  · cases e
theorem call_sumV (hc : X.calm = true) : CallR X (.builtin "sum") (rVs X.K sumD) := fun pins s σ H xs us Q I rx ⟨H0, ds, r, hs, rs, e, f⟩ => by
  unfold sumD at e
  split at e
  · obtain ⟨ns, e1, e⟩ := Option.bind_eq_some_iff.mp e
    cases e
    obtain ⟨v, t, rfl, ⟨a, vs, rfl, h, z, q⟩, rfl⟩ := rs
    rw [asInts_eq e1] at q
    rw [q.ints] at h
    exact cr_sum hc pins s σ H _ us Q I rx ⟨_, _, rfl, SqL.of (hs _ _ h), Fin.atom f hs ⟨rfl, rfl⟩⟩
  · cases e
theorem call_allV (hc : X.calm = true) : CallR X (.builtin "all") (rVs X.K allD) := fun pins s σ H xs us Q I rx ⟨H0, ds, r, hs, rs, e, f⟩ => by
  unfold allD at e
  split at e
  · obtain ⟨ns, e1, e⟩ := Option.bind_eq_some_iff.mp e
    cases e
    obtain ⟨v, t, rfl, ⟨a, vs, rfl, h, z, q⟩, rfl⟩ := rs
    rw [asBls_eq e1] at q
    rw [q.bls] at h
    exact cr_all hc pins s σ H _ us Q I rx ⟨_, _, rfl, SqL.of (hs _ _ h), Fin.atom f hs ⟨rfl, rfl⟩⟩
  · cases e
theorem call_anyV (hc : X.calm = true) : CallR X (.builtin "any") (rVs X.K anyD) := fun pins s σ H xs us Q I rx ⟨H0, ds, r, hs, rs, e, f⟩ => by
  unfold anyD at e
  split at e
  · obtain ⟨ns, e1, e⟩ := Option.bind_eq_some_iff.mp e
    cases e
    obtain ⟨v, t, rfl, ⟨a, vs, rfl, h, z, q⟩, rfl⟩ := rs
    rw [asBls_eq e1] at q
    rw [q.bls] at h
    exact cr_any hc pins s σ H _ us Q I rx ⟨_, _, rfl, SqL.of (hs _ _ h), Fin.atom f hs ⟨rfl, rfl⟩⟩
  · cases e
theorem newInts {K : PySem.W.Frag} {H0 H : Hp} {ns : List Int} {Q : VK} {p : Addr} (f : Fin K H0 H (.T, .lst (ns.map D.int)) Q) (h : Same H0 H) (z : ns.length ≤ sizeLine) (hp : H p = none) : Q (.ref p) (upd H p (.lst (ns.map V.int))) :=
  f.newT h (tree_lst (trees_int ns) (by rw [List.length_map]; exact z)) hp
theorem newStrs {K : PySem.W.Frag} {H0 H : Hp} {ns : List Str} {Q : VK} {p : Addr} (f : Fin K H0 H (.T, .lst (ns.map D.str)) Q) (h : Same H0 H) (z : ns.length ≤ sizeLine) (hp : H p = none) : Q (.ref p) (upd H p (.lst (ns.map V.str))) :=
  f.newT h (tree_lst (trees_str ns) (by rw [List.length_map]; exact z)) hp
theorem sortStr_length (ks : List Str) : (sortStr ks).length = ks.length := (List.mergeSort_perm ks leStr).length_eq
theorem sortInt_length (ks : List Int) : (sortInt ks).length = ks.length := (List.mergeSort_perm ks leInt).length_eq
theorem lt64 {n : Nat} (h : n < 64) : n ≤ sizeLine := Nat.le_of_lt (Nat.lt_of_lt_of_le h (by decide))
theorem call_sortV (hc : X.calm = true) : CallR X (.builtin "sorted") (rVs X.K sortD) := fun pins s σ H xs us Q I rx ⟨H0, ds, r, hs, rs, e, f⟩ => by
  unfold sortD at e
  split at e
  · rename_i xs
    obtain ⟨v, t, rfl, ⟨a, vs, rfl, h, z, q⟩, rfl⟩ := rs
    split at e
    · rename_i ns _ e1
      cases e
      rw [asInts_eq e1] at q
      rw [asInts_eq e1, List.length_map] at z
      rw [q.ints] at h
      exact cr_sortedI pins s σ H _ us Q I rx ⟨_, _, rfl, SqL.of (hs _ _ h), fun ns' p hp hr hn => by
        rw [sortInt_of hp hr]; exact newInts f hs (by rw [sortInt_length]; exact z) hn⟩
    · rename_i ss _ e1
      split at e
      · rename_i hz
        cases e
        rw [asStrs_eq e1] at q
        rw [q.strs] at h
        exact cr_sortedS pins s σ H _ us Q I rx ⟨_, _, rfl, SqL.of (hs _ _ h), hz, fun ns' p hp hr hn => by
          rw [sortStr_of hp hr]; exact newStrs f hs (by rw [sortStr_length]; exact lt64 hz) hn⟩
      · cases e
    · cases e
  · rename_i kds
    obtain ⟨v, t, rfl, ⟨a, vs, rfl, h, z, q⟩, rfl⟩ := rs
    split at e
    · rename_i _ _ ss e1
      split at e
      · rename_i hz
        cases e
        exact call_sortedD hc pins s σ H _ us Q I rx ⟨_, _, ss, rfl, same_rd hs h, by rw [← keyStrs_eq e1]; exact q.keys.symm, hz, fun ns' p hp hr hn => by
          rw [sortStr_of hp hr]; exact newStrs f hs (by rw [sortStr_length]; exact lt64 hz) hn⟩
      · cases e
    · rename_i ns _ e1
      split at e
      · rename_i hz
        cases e
        exact call_sortedDI hc pins s σ H _ us Q I rx ⟨_, _, ns, rfl, same_rd hs h, by rw [← keyInts_eq e1]; exact q.keys.symm, hz, fun ns' p hp hr hn => by
          rw [sortInt_of hp hr]; exact newInts f hs (by rw [sortInt_length]; exact lt64 hz) hn⟩
      · cases e
    · cases e
  · cases e

/-! ### their calls -/
theorem args {σ : L2.St} {H : Hp} {k : List (Option D) → Res (List D)} {f : List D → Res FD} {Q : VK} {R : List V → Hp → Prop} (h : tE (Md.of X) W (gCall k f) σ H Q)
    (c : ∀ vs H1 H01 ds, Same H01 H1 → Reps X.K H01 ds vs → Out (Md.of X) W σ H01 H1 (f ds) (fun r => Fin X.K H01 H1 r Q) → R vs H1) : tA (Md.of X) W k σ H R := by
  obtain ⟨H0, ρ, hs, hr, q⟩ := h
  exact ⟨H0, ρ, hs, hr, (Out.bind q).imp fun ds qd => fun vs H1 H01 e rs => c vs H1 H01 ds e.s1 rs (Out.after e qd fun r q => Fin.after e q)⟩
theorem args_o {σ : L2.St} {H : Hp} {k : List (Option D) → Res (List D)} {f : List D → Option FD} {Q : VK} (h : tE (Md.of X) W (gCall k fun ds => ofO (f ds)) σ H Q) : tA (Md.of X) W k σ H fun vs H1 => rVs X.K f vs H1 Q :=
  args h fun vs H1 H01 ds hs rs q => by
    cases e : f ds with
    | none => rw [e] at q; exact q.elim
    | some r => rw [e] at q; exact ⟨H01, ds, r, hs, rs, e, q⟩
theorem ev_callB {x : Str} {p pos : Pos} {e : Expr} {es : List Expr} {id : String} {f : List D → Option FD} {k : List (Option D) → Res (List D)} (hc : CallR X (.builtin id) (rVs X.K f)) (hg : Gl X x) (hm : X.mg x = none) (hv : bootBuiltins x = some (.builtin id)) (ha : PA X (e :: es) (tA (Md.of X) W k))
    (hn : x ≠ "__name__" := by decide) (hdb : (x == ("__debug__" : Str)) = false := by decide)
    (he : starEach (e :: es) X.env = (false, eval e X.env) :: starEach es X.env := by rfl) (hpl : (backTo pos (starEach es X.env)).any (·.1) = false := by rfl) :
    PE X (.Call (.Name x p) (e :: es) [] pos) (tE (Md.of X) W (gCall k fun ds => ofO (f ds))) := (pe_callB hc hg hm hv ha hn hdb he hpl).imp fun σ H Q q => args_o q
theorem ev_callTy {x : Str} {p pos : Pos} {e : Expr} {es : List Expr} {T : String} {f : List D → Option FD} {k : List (Option D) → Res (List D)} (hc : CallR X (.type T) (rVs X.K f)) (hg : Gl X x) (hm : X.mg x = none) (hv : bootBuiltins x = some (.type T)) (ha : PA X (e :: es) (tA (Md.of X) W k))
    (hn : x ≠ "__name__" := by decide) (hdb : (x == ("__debug__" : Str)) = false := by decide)
    (he : starEach (e :: es) X.env = (false, eval e X.env) :: starEach es X.env := by rfl) (hpl : (backTo pos (starEach es X.env)).any (·.1) = false := by rfl) :
    PE X (.Call (.Name x p) (e :: es) [] pos) (tE (Md.of X) W (gCall k fun ds => ofO (f ds))) := (pe_callTy hc hg hm hv ha hn hdb he hpl).imp fun σ H Q q => args_o q

/-! ### isinstance -/
def tyN : D → String
  | .non => "NoneType"
  | .bl _ => "bool"
  | .int _ => "int"
  | .str _ => "str"
  | .lst _ => "list"
  | .tup _ => "tuple"
  | .dct _ => "dict"
  | .scr _ => "list"
  | .ins _ _ _ => "list"
def isT (T : String) (d : D) : Bool := (kitB (tyN d) T).getD false
def isO : D → Bool
  | .ins _ _ _ => true
  | _ => false
theorem rep_ty {K : PySem.W.Frag} {H : Hp} : ∀ {d : D} {v : V}, isO d = false → Rep K H d v → TyX K H v (.type (tyN d))
  | .non, _, _, r => by cases r; exact .base .non
  | .bl b, _, _, r => by cases r; exact .base (.bl b)
  | .int i, _, _, r => by cases r; exact .base (.int i)
  | .str z, _, _, r => by cases r; exact .base (.str z)
  | .lst _, _, _, ⟨a, vs, e, h, _⟩ => by subst e; exact .base (.lst h)
  | .tup _, _, _, ⟨a, vs, e, h, _⟩ => by
    subst e
    rcases h with (h | ⟨o, h⟩) | ⟨o, _, _, h, c, _⟩
    · exact .base (.tup h)
    · exact .fTuple h
    · exact .kTuple h c
  | .dct _, _, _, ⟨a, vs, e, h, _⟩ => by
    subst e
    rcases h with h | ⟨o, h⟩
    · exact .base (.dK h)
    · exact .fDict h
  | .scr _, _, _, ⟨a, e, h⟩ => by
    subst e
    rcases h with (h | ⟨o, h⟩) | ⟨o, _, _, h, c, _⟩
    · exact .base (.lst h)
    · exact .base (.frz h)
    · exact .kList h c
def kits (T : String) : Bool := ["NoneType", "bool", "int", "str", "list", "tuple", "dict"].all fun t => (kitB t T).isSome
theorem kits_at {T : String} (h : kits T = true) (d : D) : kitB (tyN d) T = some (isT T d) := by
  have : (kitB (tyN d) T).isSome = true := by
    simp only [kits, List.all_cons, List.all_nil, Bool.and_true, Bool.and_eq_true] at h
    obtain ⟨h1, h2, h3, h4, h5, h6, h7⟩ := h
    cases d <;> assumption
  unfold isT
  obtain ⟨b, e⟩ := Option.isSome_iff_exists.mp this
  rw [e]; rfl
def gIsi (T : String) (g : GE) : GE := fun ρ => (g ρ).bind fun x => match x.2 with
  | .ins _ _ _ => .bad
  | d => .ok (.T, .bl (isT T d))
theorem isi_go {T : String} {d : D} (h : isO d = false) : (match d with | .ins _ _ _ => (Res.bad : Res FD) | d => .ok (.T, .bl (isT T d))) = .ok (.T, .bl (isT T d)) := by
  cases d <;> first | rfl | cases h
theorem isi_some {T : String} {d : D} {M : Md} {W : WX} {σ : L2.St} {H0 H : Hp} {P : FD → Prop} (o : Out M W σ H0 H (match d with | .ins _ _ _ => .bad | d => .ok (.T, .bl (isT T d))) P) : isO d = false ∧ P (.T, .bl (isT T d)) := by
  cases d <;> first | exact ⟨rfl, o⟩ | exact o.elim
theorem ev_isi {p p2 pos : Pos} {e : Expr} {y : Str} {T : String} {g : GE} (hg : Gl X "isinstance") (hm : X.mg "isinstance" = none) (hgT : Gl X y) (hmT : X.mg y = none) (hvT : bootBuiltins y = some (.type T)) (k : kits T = true) (he : PE X e (tE (Md.of X) W g))
    (hs : starEach [e, .Name y p2] X.env = (false, eval e X.env) :: starEach [.Name y p2] X.env := by rfl) (hnT : y ≠ "__name__" := by decide) (hdT : (y == ("__debug__" : Str)) = false := by decide) :
    PE X (.Call (.Name "isinstance" p) [e, .Name y p2] [] pos) (tE (Md.of X) W (gIsi T g)) :=
  (pe_callB call_isi hg hm (by decide +kernel) (pa_cons he (pa_cons (pe_bltn (v := .ty T) hgT hmT hvT rfl hnT hdT) pa_nil) hs) (by decide) (by decide) hs).imp fun σ H Q q => by
    show tE _ _ g σ H fun x H1 => rIsi X.K [x, .ty T] H1 Q
    exact one (f := fun d => match d with | .ins _ _ _ => .bad | d => .ok (.T, .bl (isT T d))) q fun x H1 H01 a hs ra q =>
      have q := isi_some q
      ⟨x, .ty T, _, _, _, rfl, .ty T, rep_ty q.1 (Rep.mono hs _ _ ra), kit_ty (kits_at k a), Fin.atom (K := X.K) q.2 hs ⟨rfl, rfl⟩⟩

/-! ### calls of defs -/
/-- what a def promises: its outcome is m's -/
def spD (M : Md) (n : Nat) (m : List D → Res FD) : Sp := fun vs H Q E => ∃ H0 ds, Same H0 H ∧ Reps M.K H0 ds vs ∧ ds.length = n ∧ Out M (fun c d _ H => E c d H) [] H0 H (m ds) fun x => Fin M.K H0 H x Q
theorem spD_len {M : Md} {n : Nat} {m : List D → Res FD} {vs : List V} {H : Hp} {Q : VK} {E : XK} (h : spD M n m vs H Q E) : vs.length = n := by
  obtain ⟨H0, ds, _, r, e, _⟩ := h
  rw [← r.length, e]
theorem ev_call {k n : Nat} {f : Addr} {fd : FuncData} {ps : List Str} {m : List D → Res FD} {x : Str} {p pos : Pos} {e : Expr} {es : List Expr} {g : List (Option D) → Res (List D)}
    (F : FnOk X.prog X.w X.K X.mg X.base (CX X.prog X.w) k f fd ps (spD (Md.of X) n m)) (hr : Room k X.A) (hg : Gl X x) (hm : X.mg x = some (.ref f)) (hk : PySem.W.keepIn X.K (.ref f) = true) (hb : Binds X.K fd ps []) (tk : Takes X W)
    (hl : (e :: es).length = n) (ha : PA X (e :: es) (tA (Md.of X) W g)) (hln : ∀ ρ ds, g ρ = .ok ds → ds.length = (e :: es).length) (hdb : (x == ("__debug__" : Str)) = false := by decide)
    (he : starEach (e :: es) X.env = (false, eval e X.env) :: starEach es X.env := by rfl) (hpl : (backTo pos (starEach es X.env)).any (·.1) = false := by rfl) :
    PE X (.Call (.Name x p) (e :: es) [] pos) (tE (Md.of X) W (gCall g m)) := (pe_callS F hr hg hm hk hb (passAt tk) ha hdb he hpl).imp fun σ H Q ⟨H0, ρ, hs, hr, q⟩ => by
  refine ⟨H0, ρ, hs, hr, ?_⟩
  have q : Out (Md.of X) W σ H0 H ((g ρ).bind m) _ := q
  cases e : g ρ with
  | bad => rw [e] at q; exact q.elim
  | xc c fs => rw [e] at q; exact q
  | ok ds =>
    rw [e] at q
    refine fun vs H1 H01 ex rs => ?_
    refine ⟨H01, ds, ex.s1, rs, (hln ρ ds e).trans hl, ?_⟩
    have q : Out (Md.of X) W σ H0 H (m ds) _ := q
    cases e2 : m ds with
    | bad => rw [e2] at q; exact q.elim
    | ok r => rw [e2] at q; exact Fin.after ex q
    | xc c fs => rw [e2] at q; exact fun C d H' H0' hmC e' xf => q C d H' H0' hmC (ex.trans e') xf
end
theorem gNil_len : ∀ ρ ds, gNil ρ = .ok ds → ds.length = 0 := fun ρ ds h => by cases h; rfl
theorem gCons_len {g : GE} {k : List (Option D) → Res (List D)} {n : Nat} (h : ∀ ρ ds, k ρ = .ok ds → ds.length = n) : ∀ ρ ds, gCons g k ρ = .ok ds → ds.length = n + 1 := fun ρ ds e => by
  unfold gCons at e
  cases e1 : g ρ with
  | bad => rw [e1] at e; cases e
  | xc c fs => rw [e1] at e; cases e
  | ok x =>
    rw [e1, Res.bind_ok] at e
    cases e2 : k ρ with
    | bad => rw [e2] at e; cases e
    | xc c fs => rw [e2] at e; cases e
    | ok xs => rw [e2] at e; cases e; simp [h ρ xs e2]
end VL
end

section
set_option Elab.async false
set_option maxRecDepth 100000
set_option linter.all false
/-! The value layer, 6: the slots of a def, statements. -/
namespace VL
open PySem PySem.Spec PyProof.Rows L2

abbrev DE := List (Option FD)
/-- the grounds: what must stay; the def's entry, a loop's start .. -/
abbrev Bs := List (Hp × Hp)
/-- fresh over all grounds and H0 -/
def FrB (B : Bs) (H0 : Hp) (F : List Addr) : Prop := F.Nodup ∧ ∀ p ∈ F, (∀ b ∈ B, b.2 p = none) ∧ H0 p = none
theorem FrB.nil {B : Bs} {H0 : Hp} : FrB B H0 [] := ⟨List.nodup_nil, by simp⟩
/-- the slots hold ρ: what is shared stands in H0, what is owned at F -/
structure EnvAt (K : PySem.W.Frag) (B : Bs) (σ : L2.St) (ρ : DE) (H H0 : Hp) (F : Nat → List Addr) : Prop where
  s0 : Same H0 H
  ext : ∀ b ∈ B, Ext b.1 b.2 H0 H
  sl : ∀ i x, ρ[i]? = some (some x) → ∃ v, σ[i]? = some (some v) ∧ Sh K H H0 x v (F i)
  fr : ∀ i, FrB B H0 (F i)
  th : ∀ i p, p ∈ F i → H p ≠ none
  dj : ∀ i j, i ≠ j → ∀ p ∈ F i, p ∉ F j
  len : ρ.length = σ.length
def EnvOk (K : PySem.W.Frag) (B : Bs) (σ : L2.St) (ρ : DE) (H : Hp) : Prop := ∃ H0 F, EnvAt K B σ ρ H H0 F

def viewF (vs : List Nat) : Nat → DE → List (Option D)
  | _, [] => []
  | i, none :: r => none :: viewF vs (i + 1) r
  | i, some (fl, d) :: r => (if fl = .S ∨ vs.contains i = true then some d else none) :: viewF vs (i + 1) r
def leakF (vs : List Nat) : Nat → DE → DE
  | _, [] => []
  | i, none :: r => none :: leakF vs (i + 1) r
  | i, some (fl, d) :: r => (if vs.contains i = true then some (sh d) else some (fl, d)) :: leakF vs (i + 1) r
theorem viewF_get {vs : List Nat} : ∀ {ρ : DE} {k i : Nat} {d : D}, (viewF vs k ρ)[i]? = some (some d) → ∃ fl, ρ[i]? = some (some (fl, d)) ∧ (fl = .S ∨ vs.contains (k + i) = true)
  | [], _, _, _, h => by simp [viewF] at h
  | none :: r, k, 0, _, h => by simp [viewF] at h
  | none :: r, k, i + 1, d, h => by
    obtain ⟨fl, h1, h2⟩ := viewF_get (ρ := r) (k := k + 1) (i := i) (d := d) (by simpa [viewF] using h)
    exact ⟨fl, by simpa using h1, by rw [show k + (i + 1) = k + 1 + i by omega]; exact h2⟩
  | some (fl, x) :: r, k, 0, d, h => by
    simp only [viewF, List.getElem?_cons_zero, Option.some.injEq] at h
    split at h
    · rename_i hc
      cases h
      exact ⟨fl, rfl, hc⟩
    · cases h
  | some (fl, x) :: r, k, i + 1, d, h => by
    obtain ⟨fl, h1, h2⟩ := viewF_get (ρ := r) (k := k + 1) (i := i) (d := d) (by simpa [viewF] using h)
    exact ⟨fl, by simpa using h1, by rw [show k + (i + 1) = k + 1 + i by omega]; exact h2⟩
theorem leakF_get {vs : List Nat} : ∀ {ρ : DE} {k i : Nat} {x : FD}, (leakF vs k ρ)[i]? = some (some x) → ∃ y, ρ[i]? = some (some y) ∧ ((vs.contains (k + i) = true ∧ x = sh y.2) ∨ (vs.contains (k + i) = false ∧ x = y))
  | [], _, _, _, h => by simp [leakF] at h
  | none :: r, k, 0, _, h => by simp [leakF] at h
  | none :: r, k, i + 1, d, h => by
    obtain ⟨fl, h1, h2⟩ := leakF_get (ρ := r) (k := k + 1) (i := i) (x := d) (by simpa [leakF] using h)
    exact ⟨fl, by simpa using h1, by rw [show k + (i + 1) = k + 1 + i by omega]; exact h2⟩
  | some (fl, y) :: r, k, 0, d, h => by
    simp only [leakF, List.getElem?_cons_zero, Option.some.injEq] at h
    split at h
    · rename_i hc
      cases h
      exact ⟨(fl, y), rfl, .inl ⟨hc, rfl⟩⟩
    · rename_i hc
      cases h
      exact ⟨_, rfl, .inr ⟨by simpa using hc, rfl⟩⟩
  | some (fl, y) :: r, k, i + 1, d, h => by
    obtain ⟨fl, h1, h2⟩ := leakF_get (ρ := r) (k := k + 1) (i := i) (x := d) (by simpa [leakF] using h)
    exact ⟨fl, by simpa using h1, by rw [show k + (i + 1) = k + 1 + i by omega]; exact h2⟩
theorem viewF_length (vs : List Nat) : ∀ (ρ : DE) (k : Nat), (viewF vs k ρ).length = ρ.length
  | [], _ => rfl
  | none :: r, k => by simp [viewF, viewF_length vs r]
  | some (fl, d) :: r, k => by simp [viewF, viewF_length vs r]
theorem leakF_length (vs : List Nat) : ∀ (ρ : DE) (k : Nat), (leakF vs k ρ).length = ρ.length
  | [], _ => rfl
  | none :: r, k => by simp [leakF, leakF_length vs r]
  | some (fl, d) :: r, k => by simp [leakF, leakF_length vs r]

section
variable {K : PySem.W.Frag} {B : Bs} {H H0 : Hp} {σ : L2.St} {ρ : DE} {F : Nat → List Addr}
theorem EnvAt.free (e : EnvAt K B σ ρ H H0 F) {p : Addr} (h : H p = none) : ∀ b ∈ B, b.2 p = none := fun b hb => (e.ext b hb).s.free h
/-- H0 and what the slots vs own -/
theorem EnvAt.viewExt (e : EnvAt K B σ ρ H H0 F) (vs : List Nat) : ∀ b ∈ B, Ext b.1 b.2 (addF H0 H (vs.flatMap F)) H := fun b hB => by
  have z : ∀ p ∈ vs.flatMap F, (∀ b ∈ B, b.2 p = none) ∧ H0 p = none := fun p hp => by
    obtain ⟨i, _, h⟩ := List.mem_flatMap.mp hp
    exact (e.fr i).2 p h
  exact ⟨(e.ext b hB).s0.trans (addF_same0 fun p hp => (z p hp).2), addF_same e.s0, (e.ext b hB).s, fun p h1 h2 => by
    by_cases hb : p ∈ vs.flatMap F
    · exact (z p hb).1 b hB
    · rw [addF_out hb] at h2; exact (e.ext b hB).new p h1 h2⟩
theorem EnvAt.viewS (e : EnvAt K B σ ρ H H0 F) (vs : List Nat) : Same (addF H0 H (vs.flatMap F)) H := addF_same e.s0
theorem EnvAt.viewSame (e : EnvAt K B σ ρ H H0 F) (vs : List Nat) : Same H0 (addF H0 H (vs.flatMap F)) := addF_same0 fun p hp => by
  obtain ⟨i, _, h⟩ := List.mem_flatMap.mp hp
  exact ((e.fr i).2 p h).2
theorem EnvAt.repAt (e : EnvAt K B σ ρ H H0 F) {vs : List Nat} {i : Nat} {x : FD} {v : V} (s : Sh K H H0 x v (F i)) (h : x.1 = .S ∨ i ∈ vs) : Rep K (addF H0 H (vs.flatMap F)) x.2 v := by
  rcases h with h | h
  · obtain ⟨fl, d⟩ := x
    obtain rfl : fl = .S := h
    exact Rep.mono (e.viewSame vs) _ _ s.2
  · refine Rep.mono (fun b o eb => ?_) _ _ (s.rep fun p hp => ((e.fr i).2 p hp).2)
    by_cases hb : b ∈ F i
    · rw [addF_in hb] at eb
      rw [addF_in (List.mem_flatMap.mpr ⟨i, h, hb⟩)]; exact eb
    · rw [addF_out hb] at eb
      exact e.viewSame vs b o eb
theorem EnvAt.view (e : EnvAt K B σ ρ H H0 F) (vs : List Nat) : RdE K σ (viewF vs 0 ρ) (addF H0 H (vs.flatMap F)) := ⟨by rw [viewF_length]; exact e.len, fun i d h => by
  obtain ⟨fl, h1, h2⟩ := viewF_get h
  obtain ⟨v, h3, h4⟩ := e.sl i _ h1
  rw [Nat.zero_add] at h2
  exact ⟨v, h3, e.repAt h4 (h2.imp id fun q => by simpa using q)⟩⟩
/-- behind an expression: nothing is let go -/
theorem EnvAt.keep (e : EnvAt K B σ ρ H H0 F) {H' : Hp} (h : Same H H') : EnvAt K B σ ρ H' H0 F :=
  ⟨e.s0.trans h, fun b hb => ⟨(e.ext b hb).s0, e.s0.trans h, (e.ext b hb).s.trans h, (e.ext b hb).new⟩, fun i x hx => by
    obtain ⟨v, h1, h2⟩ := e.sl i x hx
    exact ⟨v, h1, h2.mono (Same.refl _) fun p _ o q => h p o q⟩, e.fr, fun i p hp => by
    cases q : H p with
    | none => exact absurd q (e.th i p hp)
    | some o => rw [h p o q]; simp, e.dj, e.len⟩
/-- .. the slots vs are let go -/
theorem EnvAt.leak (e : EnvAt K B σ ρ H H0 F) (vs : List Nat) {H' H0' : Hp} (x : Ext (addF H0 H (vs.flatMap F)) H H0' H') : EnvAt K B σ (leakF vs 0 ρ) H' H0' (fun i => if i ∈ vs then [] else F i) := by
  have k := e.keep x.s
  have nf : ∀ i p, i ∉ vs → p ∈ F i → H0' p = none := fun i p hi hp => by
    cases q : H0' p with
    | none => rfl
    | some o =>
      have hn : p ∉ vs.flatMap F := fun h => by
        obtain ⟨j, hj, hpj⟩ := List.mem_flatMap.mp h
        exact e.dj i j (fun z => hi (z ▸ hj)) p hp hpj
      have := x.new p (by rw [addF_out hn]; exact ((e.fr i).2 p hp).2) (by rw [q]; simp)
      exact absurd this (e.th i p hp)
  refine ⟨x.s1, fun b hb => (e.viewExt vs b hb).trans x, fun i y hy => ?_, fun i => ?_, fun i p hp => ?_, fun i j hij p hp => ?_, by rw [leakF_length]; exact e.len⟩
  · obtain ⟨z, h1, h2⟩ := leakF_get hy
    rw [Nat.zero_add] at h2
    obtain ⟨v, h3, h4⟩ := e.sl i z h1
    refine ⟨v, h3, ?_⟩
    rcases h2 with ⟨hc, rfl⟩ | ⟨hc, rfl⟩
    · have hi : i ∈ vs := by simpa using hc
      simp only [if_pos hi]
      exact sh_ok (Rep.mono x.s0 _ _ (e.repAt h4 (.inr hi)))
    · have hi : i ∉ vs := by simpa using hc
      simp only [if_neg hi]
      exact h4.mono ((e.viewSame vs).trans x.s0) fun p _ o q => x.s p o q
  · by_cases hi : i ∈ vs
    · simp only [if_pos hi]; exact FrB.nil
    · simp only [if_neg hi]
      exact ⟨(e.fr i).1, fun p hp => ⟨((e.fr i).2 p hp).1, nf i p hi hp⟩⟩
  · by_cases hi : i ∈ vs
    · simp only [if_pos hi] at hp; exact absurd hp (by simp)
    · simp only [if_neg hi] at hp; exact k.th i p hp
  · by_cases hi : i ∈ vs
    · simp only [if_pos hi] at hp; exact absurd hp (by simp)
    · simp only [if_neg hi] at hp
      by_cases hj : j ∈ vs
      · simp only [if_pos hj]; simp
      · simp only [if_neg hj]; exact e.dj i j hij p hp
/-- a slot is written -/
theorem EnvAt.set (e : EnvAt K B σ ρ H H0 F) {i : Nat} {x : FD} {v : V} {G : List Addr} (s : Sh K H H0 x v G) (f : FrB B H0 G) (d : ∀ j, j ≠ i → ∀ p ∈ G, p ∉ F j) :
    EnvAt K B (σ.set i (some v)) (ρ.set i (some x)) H H0 (fun j => if j = i then G else F j) := by
  refine ⟨e.s0, e.ext, fun j y hy => ?_, fun j => ?_, fun j p hp => ?_, fun j k hjk p hp => ?_, by simp [e.len]⟩
  · by_cases hj : j = i
    · subst hj
      have hl : j < ρ.length := by
        by_cases hl : j < ρ.length
        · exact hl
        · rw [List.getElem?_eq_none (by simpa using hl)] at hy; cases hy
      rw [List.getElem?_set_self hl] at hy
      cases hy
      simp only [if_pos]
      exact ⟨v, List.getElem?_set_self (by rw [← e.len]; exact hl), s⟩
    · rw [List.getElem?_set_ne (Ne.symm hj)] at hy
      rw [List.getElem?_set_ne (Ne.symm hj)]
      simp only [if_neg hj]
      exact e.sl j y hy
  · by_cases hj : j = i
    · simp only [if_pos hj]; exact f
    · simp only [if_neg hj]; exact e.fr j
  · by_cases hj : j = i
    · simp only [if_pos hj] at hp; exact s.there p hp
    · simp only [if_neg hj] at hp; exact e.th j p hp
  · by_cases hj : j = i
    · simp only [if_pos hj] at hp
      by_cases hk : k = i
      · exact absurd (hj.trans hk.symm) hjk
      · simp only [if_neg hk]; exact d k hk p hp
    · simp only [if_neg hj] at hp
      by_cases hk : k = i
      · simp only [if_pos hk]
        exact fun h => d j hj p h hp
      · simp only [if_neg hk]; exact e.dj j k hjk p hp
theorem EnvAt.unset (e : EnvAt K B σ ρ H H0 F) (i : Nat) : EnvAt K B (σ.set i none) (ρ.set i none) H H0 F :=
  ⟨e.s0, e.ext, fun j y hy => by
    by_cases hj : j = i
    · subst hj
      by_cases hl : j < ρ.length
      · rw [List.getElem?_set_self hl] at hy; cases hy
      · rw [List.getElem?_eq_none (by simpa using hl)] at hy; cases hy
    · rw [List.getElem?_set_ne (Ne.symm hj)] at hy
      rw [List.getElem?_set_ne (Ne.symm hj)]
      exact e.sl j y hy, e.fr, e.th, e.dj, by simp [e.len]⟩
/-- the value of an expression goes to a slot: a fresh tree lets nothing go -/
theorem EnvAt.bindT (e : EnvAt K B σ ρ H H0 F) {vs : List Nat} {i : Nat} {d : D} {v : V} {G : List Addr} {H' H0' : Hp} (x : Ext (addF H0 H (vs.flatMap F)) H H0' H') (s : Sh K H' H0' (.T, d) v G) (f : FrF H H0' G) :
    EnvAt K B (σ.set i (some v)) (ρ.set i (some (.T, d))) H' H0 (fun j => if j = i then G else F j) := by
  refine (e.keep x.s).set (x := (.T, d)) s ⟨f.1, fun p hp => ⟨e.free (f.2 p hp).1, e.s0.free (f.2 p hp).1⟩⟩ fun j _ p hp h => ?_
  exact e.th j p h (f.2 p hp).1
theorem EnvAt.bindS (e : EnvAt K B σ ρ H H0 F) {vs : List Nat} {i : Nat} {x : FD} {v : V} {G : List Addr} {H' H0' : Hp} (y : Ext (addF H0 H (vs.flatMap F)) H H0' H') (s : Sh K H' H0' x v G) (f : FrF H H0' G) :
    EnvAt K B (σ.set i (some v)) ((leakF vs 0 ρ).set i (some x)) H' H0' (fun j => if j = i then G else if j ∈ vs then [] else F j) := by
  refine (e.leak vs y).set s ⟨f.1, fun p hp => ⟨e.free (f.2 p hp).1, (f.2 p hp).2⟩⟩ fun j _ p hp h => ?_
  by_cases hj : j ∈ vs
  · simp only [if_pos hj] at h; exact absurd h (by simp)
  · simp only [if_neg hj] at h; exact e.th j p h (f.2 p hp).1
end

/-! ### statements -/
inductive Fo where
  | nx (ρ : DE) | rt (x : FD) | bk (ρ : DE) | ct (ρ : DE) | xc (c : Str) (fs : List (Str × D)) (ρ : DE) | bad
abbrev GS := DE → Fo
/-- what is wanted of a statement's outcome -/
def OutS (M : Md) (W : WX) (B : Bs) (D : Ends) : Fo → Prop
  | .nx ρ => ∀ σ H, EnvOk M.K B σ ρ H → D.nx σ H
  | .bk ρ => ∀ σ H, EnvOk M.K B σ ρ H → D.bk σ H
  | .ct ρ => ∀ σ H, EnvOk M.K B σ ρ H → D.ct σ H
  | .rt x => ∀ v H H0 F, Same H0 H → (∀ b ∈ B, Ext b.1 b.2 H0 H) → Sh M.K H H0 x v F → FrB B H0 F → D.rt v H
  | .xc c fs ρ => ∀ C d σ H H0 F, M.mg c = some (.ref C) → EnvAt M.K B σ ρ H H0 F → XF M.K H0 H d fs → W (.ref C) d σ H
  | .bad => False
def tS (M : Md) (W : WX) (g : GS) : TS := fun D σ H => ∃ B ρ, EnvOk M.K B σ ρ H ∧ OutS M W B D (g ρ)
/-- from an expression's outcome -/
def viaE {α : Type} (vs : List Nat) (r : Res α) (ρ : DE) (f : α → Fo) : Fo := match r with
  | .ok x => f x
  | .xc c fs => .xc c fs (leakF vs 0 ρ)
  | .bad => .bad
def putV (vs : List Nat) (i : Nat) (ρ : DE) (x : FD) : DE := match x.1 with
  | .T => ρ.set i (some x)
  | _ => (leakF vs 0 ρ).set i (some x)
section
variable {X : Cx} {W : WX} {B : Bs}
theorem via {α : Type} {M : Md} {K : PySem.W.Frag} {H H0 : Hp} {σ : L2.St} {ρ : DE} {F : Nat → List Addr} {vs : List Nat} {r : Res α} {f : α → Fo} {P : α → Prop} {D : Ends} (e : EnvAt M.K B σ ρ H H0 F)
    (q : OutS M W B D (viaE vs r ρ f)) (h : ∀ a, r = .ok a → OutS M W B D (f a) → P a) : Out M W σ (addF H0 H (vs.flatMap F)) H r P := by
  cases r with
  | ok a => exact h a rfl q
  | xc c fs => exact fun C d H' H0' hm x xf => q C d σ H' H0' _ hm (e.leak vs x) xf
  | bad => exact q.elim
def gSet (i : Nat) (vs : List Nat) (g : GE) : GS := fun ρ => viaE vs (g (viewF vs 0 ρ)) ρ fun x => .nx (putV vs i ρ x)
theorem ss_asg {i : Nat} {vs : List Nat} {st : Stmt} {g : GE} (h : PS X st (tAsg (tE (Md.of X) W g) (gName i))) : PS X st (tS (Md.of X) W (gSet i vs g)) := h.imp fun D σ H ⟨B, ρ, ⟨H0, F, e⟩, q⟩ => by
  refine ⟨_, _, e.viewS vs, e.view vs, via (K := X.K) e q fun x _ qx => fun v H' H0' G ex s f => ?_⟩
  obtain ⟨fl, d⟩ := x
  cases fl with
  | T => exact qx _ _ ⟨_, _, e.bindT ex s f⟩
  | S => exact qx _ _ ⟨_, _, e.bindS ex s f⟩
  | R => exact qx _ _ ⟨_, _, e.bindS ex s f⟩
def gRet (vs : List Nat) (g : GE) : GS := fun ρ => viaE vs (g (viewF vs 0 ρ)) ρ fun x => .rt x
theorem ss_ret {vs : List Nat} {st : Stmt} {g : GE} (h : PS X st (tRet (tE (Md.of X) W g))) : PS X st (tS (Md.of X) W (gRet vs g)) := h.imp fun D σ H ⟨B, ρ, ⟨H0, F, e⟩, q⟩ => by
  refine ⟨_, _, e.viewS vs, e.view vs, via (K := X.K) e q fun x _ qx => fun v H' H0' G ex s f => ?_⟩
  exact qx v H' H0' G ex.s1 (fun b hb => (e.viewExt vs b hb).trans ex) s ⟨f.1, fun p hp => ⟨e.free (f.2 p hp).1, (f.2 p hp).2⟩⟩
/-- return x: what the slot owns goes -/
def gRetV (i : Nat) : GS := fun ρ => match ρ[i]? with
  | some (some x) => .rt x
  | _ => .bad
theorem ss_retV {i : Nat} {st : Stmt} (h : PS X st (tRet (tVar i))) : PS X st (tS (Md.of X) W (gRetV i)) := h.imp fun D σ H ⟨B, ρ, ⟨H0, F, e⟩, q⟩ => by
  unfold gRetV at q
  split at q
  · rename_i x hx
    obtain ⟨v, h1, h2⟩ := e.sl i x hx
    exact ⟨v, h1, q v H H0 (F i) e.s0 e.ext h2 (e.fr i)⟩
  · exact q.elim
def gRetN : GS := fun _ => .rt (.T, .non)
theorem ss_retN {st : Stmt} (h : PS X st tRetN) : PS X st (tS (Md.of X) W gRetN) := h.imp fun D σ H ⟨B, ρ, ⟨H0, F, e⟩, q⟩ =>
  q .non H H0 [] e.s0 e.ext ⟨rfl, rfl⟩ FrB.nil
def gPass : GS := fun ρ => .nx ρ
theorem ss_pass {st : Stmt} (h : PS X st tNext) : PS X st (tS (Md.of X) W gPass) := h.imp fun D σ H ⟨B, ρ, e, q⟩ => q σ H e
def gBreak : GS := fun ρ => .bk ρ
theorem ss_break {st : Stmt} (h : PS X st tBreak) : PS X st (tS (Md.of X) W gBreak) := h.imp fun D σ H ⟨B, ρ, e, q⟩ => q σ H e
def gCont : GS := fun ρ => .ct ρ
theorem ss_cont {st : Stmt} (h : PS X st tCont) : PS X st (tS (Md.of X) W gCont) := h.imp fun D σ H ⟨B, ρ, e, q⟩ => q σ H e
/-- an expression whose value is dropped -/
def gDrop (vs : List Nat) (g : GE) : GS := fun ρ => viaE vs (g (viewF vs 0 ρ)) ρ fun x => .nx ρ
theorem ss_drop {vs : List Nat} {st : Stmt} {g : GE} (h : PS X st (tDrop (tE (Md.of X) W g))) : PS X st (tS (Md.of X) W (gDrop vs g)) := h.imp fun D σ H ⟨B, ρ, ⟨H0, F, e⟩, q⟩ => by
  refine ⟨_, _, e.viewS vs, e.view vs, via (K := X.K) e q fun x _ qx => fun v H' H0' G ex s f => ?_⟩
  exact qx _ _ ⟨_, _, e.keep ex.s⟩

/-! blocks -/
def gSeq (g k : GS) : GS := fun ρ => match g ρ with
  | .nx ρ' => k ρ'
  | o => o
theorem sb_nil : PSs X [] (tS (Md.of X) W gPass) := pss_nil.imp fun D σ H ⟨B, ρ, e, q⟩ => q σ H e
theorem sb_one {st : Stmt} {g : GS} (h : PS X st (tS (Md.of X) W g)) : PSs X [st] (tS (Md.of X) W g) := pss_one h
theorem OutS.seq {M : Md} {D : Ends} {g k : GS} {ρ : DE} (q : OutS M W B D (gSeq g k ρ)) : OutS M W B { D with nx := fun σ H => tS M W k D σ H } (g ρ) := by
  unfold gSeq at q
  cases e : g ρ with
  | nx ρ' => rw [e] at q; exact fun σ H h => ⟨B, ρ', h, q⟩
  | rt x => rw [e] at q; exact q
  | bk x => rw [e] at q; exact q
  | ct x => rw [e] at q; exact q
  | xc c fs x => rw [e] at q; exact q
  | bad => rw [e] at q; exact q
theorem sb_cons {st : Stmt} {r : List Stmt} {g k : GS} (h : PS X st (tS (Md.of X) W g)) (h' : PSs X r (tS (Md.of X) W k)) : PSs X (st :: r) (tS (Md.of X) W (gSeq g k)) :=
  (pss_cons h h').imp fun D σ H ⟨B, ρ, e, q⟩ => ⟨B, ρ, e, q.seq⟩
def gIfS (vs : List Nat) (c : GT) (g k : GS) : GS := fun ρ => viaE vs (c (viewF vs 0 ρ)) ρ fun b => if b = true then g ρ else k ρ
theorem ss_if {vs : List Nat} {c : Expr} {a b : List Stmt} {pos : Pos} {gc : GT} {g k : GS} (hc : PT X c (tT (Md.of X) W gc)) (ha : PSs X a (tS (Md.of X) W g)) (hb : PSs X b (tS (Md.of X) W k)) :
    PS X (.If c a b pos) (tS (Md.of X) W (gIfS vs gc g k)) := (ps_if hc ha hb).imp fun D σ H ⟨B, ρ, ⟨H0, F, e⟩, q⟩ => by
  refine ⟨_, _, e.viewS vs, e.view vs, via (K := X.K) e q fun b _ qb => fun H' H0' ex => ?_⟩
  cases b with
  | true => exact ⟨B, ρ, ⟨_, _, e.keep ex.s⟩, qb⟩
  | false => exact ⟨B, ρ, ⟨_, _, e.keep ex.s⟩, qb⟩
end
end VL
end

section
set_option Elab.async false
set_option maxRecDepth 100000
set_option linter.all false
/-! The value layer, 7: what a slot owns is changed. -/
namespace VL
open PySem PySem.Spec PyProof.Rows L2
section
variable {K : PySem.W.Frag} {B : Bs} {H H0 : Hp} {σ : L2.St} {ρ : DE} {F : Nat → List Addr}
/-- the object at a, a slot's own, is changed -/
theorem EnvAt.mut (e : EnvAt K B σ ρ H H0 F) {i : Nat} {a : Addr} {o : HO} {x : FD} {G : List Addr} (hi : σ[i]? = some (some (.ref a))) (ha : a ∈ F i) (s : Sh K (upd H a o) H0 x (.ref a) G) (f : FrB B H0 G) (d : ∀ j, j ≠ i → ∀ p ∈ G, p ∉ F j) :
    EnvAt K B σ (ρ.set i (some x)) (upd H a o) H0 (fun j => if j = i then G else F j) := by
  have hn := (e.fr i).2 a ha
  have k : EnvAt K B σ (ρ.set i none) (upd H a o) H0 (fun j => if j = i then [] else F j) := by
    have s0' : Same H0 (upd H a o) := fun b u q => by rw [upd_ne (fun z => by subst z; rw [hn.2] at q; cases q)]; exact e.s0 b u q
    refine ⟨s0', fun c hc => ⟨(e.ext c hc).s0, s0', fun b u q => by rw [upd_ne (fun z => by subst z; rw [hn.1 c hc] at q; cases q)]; exact (e.ext c hc).s b u q, (e.ext c hc).new⟩,
      fun j y hy => ?_, fun j => ?_, fun j p hp => ?_, fun j l hjl p hp => ?_, by simp [e.len]⟩
    · by_cases hj : j = i
      · subst hj
        by_cases hl : j < ρ.length
        · rw [List.getElem?_set_self hl] at hy; cases hy
        · rw [List.getElem?_eq_none (by simpa using hl)] at hy; cases hy
      · rw [List.getElem?_set_ne (Ne.symm hj)] at hy
        obtain ⟨v, h1, h2⟩ := e.sl j y hy
        simp only [if_neg hj]
        refine ⟨v, h1, h2.mono (Same.refl _) fun p hp u q => ?_⟩
        rw [upd_ne (fun z => by subst z; exact e.dj j i hj p hp ha)]
        exact q
    · by_cases hj : j = i
      · simp only [if_pos hj]; exact FrB.nil
      · simp only [if_neg hj]; exact e.fr j
    · by_cases hj : j = i
      · simp only [if_pos hj] at hp; exact absurd hp (by simp)
      · simp only [if_neg hj] at hp
        rw [upd_ne (fun z => by subst z; exact e.dj j i hj p hp ha)]
        exact e.th j p hp
    · by_cases hj : j = i
      · simp only [if_pos hj] at hp; exact absurd hp (by simp)
      · simp only [if_neg hj] at hp
        by_cases hl : l = i
        · simp only [if_pos hl]; simp
        · simp only [if_neg hl]; exact e.dj j l hjl p hp
  have q := k.set (i := i) s f fun j hj p hp => by simp only [if_neg hj]; exact d j hj p hp
  have hil : i < σ.length := by
    by_cases hl : i < σ.length
    · exact hl
    · rw [List.getElem?_eq_none (by simpa using hl)] at hi; cases hi
  have e1 : σ.set i (some (.ref a)) = σ := by
    apply List.ext_getElem?
    intro j
    by_cases hj : j = i
    · subst hj; rw [List.getElem?_set_self hil, hi]
    · rw [List.getElem?_set_ne (Ne.symm hj)]
  rw [e1, List.set_set] at q
  refine ⟨q.s0, q.ext, fun j y hy => ?_, fun j => ?_, fun j p hp => ?_, fun j l hjl p hp => ?_, q.len⟩
  · obtain ⟨v, h1, h2⟩ := q.sl j y hy
    refine ⟨v, h1, ?_⟩
    by_cases hj : j = i
    · simp only [if_pos hj] at h2 ⊢; exact h2
    · simp only [if_neg hj] at h2 ⊢; exact h2
  · have := q.fr j
    by_cases hj : j = i
    · simp only [if_pos hj] at this ⊢; exact this
    · simp only [if_neg hj] at this ⊢; exact this
  · have := q.th j p
    by_cases hj : j = i
    · simp only [if_pos hj] at this hp; exact this hp
    · simp only [if_neg hj] at this hp; exact this hp
  · have := q.dj j l hjl p
    by_cases hj : j = i
    · by_cases hl : l = i
      · exact absurd (hj.trans hl.symm) hjl
      · simp only [if_pos hj, if_neg hl] at this hp ⊢; exact this hp
    · by_cases hl : l = i
      · simp only [if_neg hj, if_pos hl] at this hp ⊢; exact this hp
      · simp only [if_neg hj, if_neg hl] at this hp ⊢; exact this hp
/-- nobody's objects are let go -/
theorem EnvAt.addG (e : EnvAt K B σ ρ H H0 F) {G : List Addr} (z : ∀ p ∈ G, (∀ b ∈ B, b.2 p = none) ∧ H0 p = none) (d : ∀ j, ∀ p ∈ G, p ∉ F j) : EnvAt K B σ ρ H (addF H0 H G) F := by
  have s := addF_same0 (H := H) fun p hp => (z p hp).2
  refine ⟨addF_same e.s0, fun c hc => ⟨(e.ext c hc).s0.trans s, addF_same e.s0, (e.ext c hc).s, fun b h1 h2 => ?_⟩, fun i x hx => ?_, fun i => ⟨(e.fr i).1, fun p hp => ⟨((e.fr i).2 p hp).1, ?_⟩⟩, e.th, e.dj, e.len⟩
  · by_cases hb : b ∈ G
    · exact (z b hb).1 c hc
    · rw [addF_out hb] at h2; exact (e.ext c hc).new b h1 h2
  · obtain ⟨v, h1, h2⟩ := e.sl i x hx
    exact ⟨v, h1, h2.mono s fun p _ o q => q⟩
  · rw [addF_out (fun h => d i p h hp)]
    exact ((e.fr i).2 p hp).2
/-- an owned container: from here on what is in it is shared -/
theorem EnvAt.toR (e : EnvAt K B σ ρ H H0 F) {i : Nat} {fl : Fl} {d : D} (hx : ρ[i]? = some (some (fl, d))) (hfl : fl ≠ .S) (ha : d.atom = false) (ho : isO d = false) :
    ∃ H0' F' a o, EnvAt K B σ (ρ.set i none) H H0' F' ∧ Same H0 H0' ∧ σ[i]? = some (some (.ref a)) ∧ F' i = [a] ∧ H a = some o ∧ Root K H0' d o := by
  obtain ⟨v, h1, h2⟩ := e.sl i _ hx
  have drop : ∀ {H0' F'}, EnvAt K B σ ρ H H0' F' → EnvAt K B σ (ρ.set i none) H H0' F' := fun {H0' F'} e => by
    refine ⟨e.s0, e.ext, fun j y hy => ?_, e.fr, e.th, e.dj, by simp [e.len]⟩
    by_cases hj : j = i
    · subst hj
      by_cases hl : j < ρ.length
      · rw [List.getElem?_set_self hl] at hy; cases hy
      · rw [List.getElem?_eq_none (by simpa using hl)] at hy; cases hy
    · rw [List.getElem?_set_ne (Ne.symm hj)] at hy
      exact e.sl j y hy
  cases fl with
  | S => exact absurd rfl hfl
  | R =>
    obtain ⟨a, o, rfl, hF, h3, h4⟩ := h2
    exact ⟨H0, F, a, o, drop e, Same.refl _, h1, hF, h3, h4⟩
  | T =>
    -- the root stays, the rest goes
    have go : ∀ (a : Addr) (G : List Addr), F i = a :: G → ∃ F', EnvAt K B σ (ρ.set i none) H (addF H0 H G) F' ∧ F' i = [a] := fun a G hF => by
      have fi := e.fr i
      rw [hF] at fi
      obtain ⟨nd, fz⟩ := fi
      obtain ⟨n1, n2⟩ := List.nodup_cons.mp nd
      have e2 : EnvAt K B σ (ρ.set i none) H H0 (fun j => if j = i then [a] else F j) := by
        have e' := drop e
        refine ⟨e'.s0, e'.ext, fun j y hy => ?_, fun j => ?_, fun j p hp => ?_, fun j l hjl p hp => ?_, e'.len⟩
        · by_cases hj : j = i
          · subst hj
            by_cases hl : j < ρ.length
            · rw [List.getElem?_set_self hl] at hy; cases hy
            · rw [List.getElem?_eq_none (by simpa using hl)] at hy; cases hy
          · simp only [if_neg hj]; exact e'.sl j y hy
        · by_cases hj : j = i
          · simp only [if_pos hj]; exact ⟨by simp, fun p hp => fz p (by rw [List.mem_singleton.mp hp]; exact List.mem_cons_self)⟩
          · simp only [if_neg hj]; exact e.fr j
        · by_cases hj : j = i
          · simp only [if_pos hj] at hp
            exact e.th i p (by rw [hF, List.mem_singleton.mp hp]; exact List.mem_cons_self)
          · simp only [if_neg hj] at hp; exact e.th j p hp
        · by_cases hj : j = i
          · simp only [if_pos hj] at hp
            by_cases hl : l = i
            · exact absurd (hj.trans hl.symm) hjl
            · simp only [if_neg hl]
              subst hj
              exact e.dj j l hjl p (by rw [hF, List.mem_singleton.mp hp]; exact List.mem_cons_self)
          · simp only [if_neg hj] at hp
            by_cases hl : l = i
            · simp only [if_pos hl]
              subst hl
              intro h
              exact e.dj j l hjl p hp (by rw [hF, List.mem_singleton.mp h]; exact List.mem_cons_self)
            · simp only [if_neg hl]; exact e.dj j l hjl p hp
      refine ⟨_, e2.addG (G := G) (fun p hp => fz p (List.mem_cons_of_mem _ hp)) fun j p hp => ?_, by simp⟩
      by_cases hj : j = i
      · simp only [if_pos hj]
        intro h
        rw [List.mem_singleton.mp h] at hp
        exact n1 hp
      · simp only [if_neg hj]
        exact e.dj i j (Ne.symm hj) p (by rw [hF]; exact List.mem_cons_of_mem _ hp)
    have z : ∀ (a : Addr) (G : List Addr), F i = a :: G → ∀ p ∈ G, H0 p = none := fun a G hF p hp => ((e.fr i).2 p (by rw [hF]; exact List.mem_cons_of_mem _ hp)).2
    cases d with
    | lst ds =>
      obtain ⟨a, vs, G, rfl, hF, h3, hz, t⟩ := h2
      obtain ⟨F', e', hF'⟩ := go a G hF
      exact ⟨_, F', a, _, e', addF_same0 (z a G hF), h1, hF', h3, vs, rfl, hz, Trees.rep _ _ _ (fun p hp o q => by rw [addF_in hp]; exact q) t⟩
    | tup ds =>
      obtain ⟨a, vs, G, rfl, hF, h3, hz, t⟩ := h2
      obtain ⟨F', e', hF'⟩ := go a G hF
      exact ⟨_, F', a, _, e', addF_same0 (z a G hF), h1, hF', h3, vs, rfl, hz, Trees.rep _ _ _ (fun p hp o q => by rw [addF_in hp]; exact q) t⟩
    | dct ds =>
      obtain ⟨a, vs, G, rfl, hF, h3, hz, t⟩ := h2
      obtain ⟨F', e', hF'⟩ := go a G hF
      exact ⟨_, F', a, _, e', addF_same0 (z a G hF), h1, hF', h3, vs, rfl, hz, TreeK.rep _ _ _ (fun p hp o q => by rw [addF_in hp]; exact q) t⟩
    | ins o C ds => cases ho
    | scr _ => exact h2.elim
    | _ => simp [D.atom] at ha
/-- behind the expression that is put into slot i's container -/
def envP (vs : List Nat) (ρ : DE) (y : FD) : DE := match y.1 with
  | .T => ρ
  | _ => leakF vs 0 ρ
theorem EnvAt.ready (e : EnvAt K B σ ρ H H0 F) {vs : List Nat} {i : Nat} {fl : Fl} {d : D} {y : FD} {v : V} {G : List Addr} {H' H0' : Hp} (hx : ρ[i]? = some (some (fl, d))) (hfl : fl ≠ .S) (ha : d.atom = false) (ho : isO d = false) (hy : y.1 = .T ∨ vs.contains i = false)
    (x : Ext (addF H0 H (vs.flatMap F)) H H0' H') (s : Sh K H' H0' y v G) (f : FrF H H0' G) :
    ∃ H1 F1 a o, EnvAt K B σ ((envP vs ρ y).set i none) H' H1 F1 ∧ σ[i]? = some (some (.ref a)) ∧ F1 i = [a] ∧ H' a = some o ∧ Root K H1 d o ∧ Rep K H1 y.2 v := by
  have fresh : ∀ j, ∀ p ∈ G, p ∉ F j := fun j p hp h => e.th j p h (f.2 p hp).1
  obtain ⟨yf, yd⟩ := y
  -- behind the expression
  have step : ∀ {ρ1 : DE} {H1 : Hp} {F1 : Nat → List Addr}, EnvAt K B σ ρ1 H' H1 F1 → ρ1[i]? = some (some (fl, d)) → (∀ p ∈ G, (∀ b ∈ B, b.2 p = none) ∧ H1 p = none) → (∀ j, ∀ p ∈ G, p ∉ F1 j) → Sh K H' H1 (yf, yd) v G →
      ∃ H2 F2 a o, EnvAt K B σ (ρ1.set i none) H' H2 F2 ∧ σ[i]? = some (some (.ref a)) ∧ F2 i = [a] ∧ H' a = some o ∧ Root K H2 d o ∧ Rep K H2 yd v := fun {ρ1 H1 F1} e1 h1 z dj s1 => by
    have r := s1.rep fun p hp => (z p hp).2
    obtain ⟨H2, F2, a, o, e3, sm, h2, h3, h4, h5⟩ := (e1.addG z dj).toR h1 hfl ha ho
    exact ⟨H2, F2, a, o, e3, h2, h3, h4, h5, Rep.mono sm _ _ r⟩
  cases yf with
  | T =>
    refine step (ρ1 := ρ) (e.keep x.s) hx (fun p hp => ⟨e.free (f.2 p hp).1, e.s0.free (f.2 p hp).1⟩) fresh s
  | _ =>
    have hc : vs.contains i = false := hy.resolve_left (by intro z; cases z)
    have hi : i ∉ vs := by simpa using hc
    refine step (ρ1 := leakF vs 0 ρ) (e.leak vs x) ?_ (fun p hp => ⟨e.free (f.2 p hp).1, (f.2 p hp).2⟩) (fun j p hp h => ?_) s
    · have : ∀ (ρ : DE) (k i : Nat), ρ[i]? = some (some (fl, d)) → vs.contains (k + i) = false → (leakF vs k ρ)[i]? = some (some (fl, d)) := by
        intro ρ
        induction ρ with
        | nil => intro k i h; simp at h
        | cons o r ih =>
          intro k i h hc
          cases i with
          | zero =>
            simp at h; subst h
            simp only [Nat.add_zero] at hc
            have hc' : k ∉ vs := by simpa using hc
            simp [leakF, hc']
          | succ i =>
            have := ih (k + 1) i (by simpa using h) (by rw [show k + 1 + i = k + (i + 1) by omega]; exact hc)
            cases o with
            | none => simpa [leakF] using this
            | some p => obtain ⟨a, b⟩ := p; simpa [leakF] using this
      exact this ρ 0 i hx (by rw [Nat.zero_add]; exact hc)
    · by_cases hj : j ∈ vs
      · simp only [if_pos hj] at h; exact absurd h (by simp)
      · simp only [if_neg hj] at h; exact fresh j p hp h
end
def mutV (i : Nat) (vs : List Nat) (ρ : DE) (fl : Fl) (y : FD) (d : D) : Fo :=
  if fl = .T ∧ y.1 = .T then .nx (ρ.set i (some (.T, d)))
  else if fl ≠ .S ∧ (y.1 = .T ∨ vs.contains i = false) then .nx ((envP vs ρ y).set i (some (.R, d)))
  else .bad
/-- the root at a is changed to o', over what is shared -/
theorem EnvAt.putR {K : PySem.W.Frag} {B : Bs} {H H0 : Hp} {σ : L2.St} {ρ : DE} {F : Nat → List Addr} (e : EnvAt K B σ (ρ.set i none) H H0 F) {a : Addr} {o' : HO} {d' : D} (hi : σ[i]? = some (some (.ref a))) (hF : F i = [a]) (r : Root K H0 d' o') :
    EnvOk K B σ (ρ.set i (some (.R, d'))) (upd H a o') := by
  have fi := e.fr i
  rw [hF] at fi
  have := e.mut (i := i) (a := a) (o := o') (x := (.R, d')) (G := [a]) hi (by rw [hF]; simp) ⟨a, o', rfl, rfl, upd_same, r⟩ fi fun j hj p hp => by
    exact e.dj i j (Ne.symm hj) p (by rw [hF]; exact hp)
  rw [List.set_set] at this
  exact ⟨_, _, this⟩
section
variable {X : Cx} {W : WX}
/-! ### x.append(e) -/
def gApp (i : Nat) (vs : List Nat) (g : GE) : GS := fun ρ => match ρ[i]? with
  | some (some (fl, .lst ds)) => viaE vs (g (viewF vs 0 ρ)) ρ fun y => if ds.length < sizeLine then mutV i vs ρ fl y (.lst (ds ++ [y.2])) else .bad
  | _ => .bad
theorem ss_app {i : Nat} {vs : List Nat} {st : Stmt} {g : GE} (hp : PS X st (tDrop (tBM X.K "list" rAppend (tVar i) (tCons (tE (Md.of X) W g) tNil)))) : PS X st (tS (Md.of X) W (gApp i vs g)) := hp.imp fun D σ H ⟨B, ρ, ⟨H0, F, e⟩, q⟩ => by
  unfold gApp at q
  split at q
  · rename_i fl ds hx
    obtain ⟨v, h1, h2⟩ := e.sl i _ hx
    -- what stands in the slot, read
    have rd : Sh X.K H H0 (fl, .lst ds) v (F i) → ∃ a vs', v = .ref a ∧ H a = some (.lst vs') ∧ ds.length = vs'.length := fun s => by
      cases fl with
      | S => obtain ⟨_, a, vs', e1, e2, _, r⟩ := s; exact ⟨a, vs', e1, e.s0 _ _ e2, r.length⟩
      | R => obtain ⟨a, o, e1, _, e2, vs', e3, _, r⟩ := s; subst e3; exact ⟨a, vs', e1, e2, r.length⟩
      | T => obtain ⟨a, vs', G, e1, _, e2, _, t⟩ := s; exact ⟨a, vs', e1, e2, t.length⟩
    obtain ⟨a, vs', rfl, ha, hl⟩ := rd h2
    refine ⟨_, h1, .inl ⟨rfl, vs', SqL.of ha⟩, _, _, e.viewS vs, e.view vs, via (K := X.K) e q fun y _ qy => fun w H' H0' G ex s f => ?_⟩
    have ha' := ex.s _ _ ha
    split at qy
    · rename_i hz
      refine ⟨a, vs', w, rfl, rfl, ha', by rw [← hl]; exact hz, ?_⟩
      unfold mutV at qy
      split at qy
      · rename_i hT
        obtain ⟨rfl, hyT⟩ := hT
        obtain ⟨yf, yd⟩ := y
        obtain rfl : yf = .T := hyT
        obtain ⟨a2, vs2, G2, e1, hF, e2, hz2, t⟩ := h2
        cases e1
        rw [ha] at e2; cases e2
        have k := e.keep ex.s
        have fi := e.fr i
        rw [hF] at fi
        obtain ⟨nd, fz⟩ := fi
        obtain ⟨n1, n2⟩ := List.nodup_cons.mp nd
        have aG : a ∉ G := fun h => by rw [(f.2 a h).1] at ha; cases ha
        have gs : ∀ p ∈ G2, ∀ o, H p = some o → (upd H' a (.lst (vs' ++ [w]))) p = some o := fun p hp o q => by
          rw [upd_ne (fun z => n1 (by rw [← z]; exact hp))]; exact ex.s p o q
        have gs' : ∀ p ∈ G, ∀ o, H' p = some o → (upd H' a (.lst (vs' ++ [w]))) p = some o := fun p hp o q => by
          rw [upd_ne (fun z => aG (by rw [← z]; exact hp))]; exact q
        have t1 := Trees.agree _ _ _ gs t
        have t2 := Tree.agree _ _ _ gs' (show Tree H' yd w G from s)
        refine qy _ _ ⟨_, _, k.mut (i := i) (a := a) (G := a :: (G2 ++ G)) (x := (.T, .lst (ds ++ [yd]))) h1 (by rw [hF]; exact List.mem_cons_self) ⟨a, _, _, rfl, rfl, upd_same, by rw [List.length_append]; exact hz, t1.snoc t2⟩ ⟨?_, fun p hp => ?_⟩ fun j hj p hp => ?_⟩
        · refine List.nodup_cons.mpr ⟨fun h => ?_, List.nodup_append.mpr ⟨n2, f.1, fun x hx y hy exy => ?_⟩⟩
          · rcases List.mem_append.mp h with h | h
            · exact n1 h
            · exact aG h
          · subst exy
            exact e.th i x (by rw [hF]; exact List.mem_cons_of_mem _ hx) (f.2 x hy).1
        · rcases List.mem_cons.mp hp with rfl | hp
          · exact fz p List.mem_cons_self
          · rcases List.mem_append.mp hp with hp | hp
            · exact fz p (List.mem_cons_of_mem _ hp)
            · exact ⟨e.free (f.2 p hp).1, e.s0.free (f.2 p hp).1⟩
        · rcases List.mem_cons.mp hp with rfl | hp
          · exact e.dj i j (Ne.symm hj) p (by rw [hF]; exact List.mem_cons_self)
          · rcases List.mem_append.mp hp with hp | hp
            · exact e.dj i j (Ne.symm hj) p (by rw [hF]; exact List.mem_cons_of_mem _ hp)
            · exact fun h => e.th j p h (f.2 p hp).1
      · split at qy
        · rename_i hc
          obtain ⟨H1, F1, a1, o, e1, i1, hF1, h3, h4, h5⟩ := e.ready hx hc.1 rfl rfl hc.2 ex s f
          rw [h1] at i1
          cases i1
          rw [ha'] at h3; cases h3
          obtain ⟨vs2, e2, z2, r2⟩ := h4
          cases e2
          exact qy _ _ (e1.putR h1 hF1 ⟨_, rfl, by rw [List.length_append]; exact hz, r2.snoc h5⟩)
        · exact qy.elim
    · exact qy.elim
  · exact q.elim

/-! ### x[k] = e -/
def rSetV : TSet := fun o i v H Q => rSetL o i v H Q ∨ ∃ a H', o = .ref a ∧ DPut H a i v H' ∧ Q H'
theorem set_V (hu : X.A.units + 1 < cLine) : PSet X rSetV := fun pins s σ H o i v ov iv u Q I ro ri rv h => by
  rcases h with h | ⟨a, H', rfl, h, q⟩
  · exact set_list pins s σ H o i v ov iv u Q I ro ri rv h
  · cases ro
    exact d_setItem hu I h ri rv fun s' I' => ⟨H', I', q⟩
def setD (c k y : D) : Option D := match c with
  | .lst ds => match k with
    | .int j => (ixN ds.length j).map fun n => .lst (ds.set n y)
    | _ => none
  | .dct kds => (keyOf k).bind fun k => if kds.length < sizeLine then some (.dct (putD kds k y)) else none
  | _ => none
def mutR (i : Nat) (vs : List Nat) (ρ : DE) (fl : Fl) (y : FD) (d : D) : Fo :=
  if fl ≠ .S ∧ (y.1 = .T ∨ vs.contains i = false) then .nx ((envP vs ρ y).set i (some (.R, d))) else .bad
def gSetIt (i : Nat) (vs : List Nat) (gk ge : GE) : GS := fun ρ => match ρ[i]? with
  | some (some (fl, c)) => viaE vs (ge (viewF vs 0 ρ)) ρ fun y => viaE vs (gk (viewF vs 0 ρ)) ρ fun k => match setD c k.2 y.2 with
    | some c' => match c with
      | .dct _ => mutV i vs ρ fl y c'
      | _ => mutR i vs ρ fl y c'
    | none => .bad
  | _ => .bad
theorem ss_setIt {i : Nat} {vs : List Nat} {st : Stmt} {gk ge : GE} (hp : PS X st (tAsg (tE (Md.of X) W ge) (gSub (tVar i) (tE (Md.of X) W gk) rSetV))) : PS X st (tS (Md.of X) W (gSetIt i vs gk ge)) := hp.imp fun D σ H ⟨B, ρ, ⟨H0, F, e⟩, q⟩ => by
  unfold gSetIt at q
  split at q
  · rename_i fl c hx
    obtain ⟨v, h1, h2⟩ := e.sl i _ hx
    refine ⟨_, _, e.viewS vs, e.view vs, via (K := X.K) e q fun y _ qy => fun w H' H0' G ex s f => ?_⟩
    show ∃ v, σ[i]? = some (some v) ∧ _
    refine ⟨v, h1, ?_⟩
    -- the key, behind the value
    refine ⟨H0', _, ex.s1, (e.view vs).mono ex.s0, Out.after ex (via (K := X.K) e qy fun k _ qk => ?_) fun _ z => z⟩
    refine fun kv H2 H02 G2 ex2 s2 f2 => ?_
    have exx := ex.trans ex2
    have sy := s.ext ex2
    have fy := FrF.ext f s ex2
    split at qk
    · rename_i c' hc'
      -- over what is shared
      have viaR : c.atom = false → isO c = false → mutR i vs ρ fl y c' = mutR i vs ρ fl y c' → OutS (Md.of X) W B D (mutR i vs ρ fl y c') → (fl ≠ .S → rSetV v kv w H2 fun H3 => D.nx σ H3) := fun hat hoo _ qm hfl => by
        unfold mutR at qm
        split at qm
        · rename_i hcnd
          obtain ⟨H1, F1, a1, o, e1, i1, hF1, h3, h4, h5⟩ := e.ready hx hcnd.1 hat hoo hcnd.2 exx sy fy
          rw [h1] at i1
          cases i1
          have hk : Rep X.K H2 k.2 kv := by
            have := (ex2.letgo s2 f2)
            exact Rep.mono this.1.s1 _ _ this.2
          cases c with
          | lst ds =>
            obtain ⟨vs2, rfl, z2, r2⟩ := h4
            simp only [setD] at hc'
            split at hc'
            · rename_i j hj
              obtain ⟨n, hn, rfl⟩ := Option.map_eq_some_iff.mp hc'
              rw [hj] at hk
              cases hk
              refine .inl ⟨a1, vs2, j, n, rfl, rfl, h3, by rw [← r2.length]; exact hn, ?_⟩
              exact qm _ _ (e1.putR h1 hF1 ⟨_, rfl, by rw [List.length_set]; exact z2, Reps.set h5 n r2⟩)
            · cases hc'
          | dct kds =>
            obtain ⟨vs2, rfl, z2, r2⟩ := h4
            simp only [setD] at hc'
            obtain ⟨ky, hky, hc'⟩ := Option.bind_eq_some_iff.mp hc'
            split at hc'
            · rename_i hz
              cases hc'
              have ek := keyOf_rep hky hk
              subst ek
              refine .inr ⟨a1, _, rfl, .inl ⟨vs2, ky, h3, rfl, by rw [← r2.length]; exact hz, rfl⟩, ?_⟩
              exact qm _ _ (e1.putR h1 hF1 ⟨_, rfl, ⟨Nat.le_trans (putD_length _ _ _) hz, putD_nodup _ _ z2.2⟩, r2.put h5⟩)
            · cases hc'
          | _ => simp [setD] at hc'
        · exact qm.elim
      cases c with
      | dct kds =>
        simp only at qk
        unfold mutV at qk
        split at qk
        · rename_i hT
          obtain ⟨rfl, hyT⟩ := hT
          obtain ⟨yf, yd⟩ := y
          obtain rfl : yf = .T := hyT
          obtain ⟨a2, vs2, G3, e1, hF, e2, hz2, t⟩ := h2
          subst e1
          have k' := e.keep exx.s
          have fi := e.fr i
          rw [hF] at fi
          obtain ⟨nd, fz⟩ := fi
          obtain ⟨n1, n2⟩ := List.nodup_cons.mp nd
          have aG : a2 ∉ G := fun h => by rw [(f.2 a2 h).1] at e2; cases e2
          have hk : Rep X.K H2 k.2 kv := by
            have := (ex2.letgo s2 f2)
            exact Rep.mono this.1.s1 _ _ this.2
          simp only [setD] at hc'
          obtain ⟨ky, hky, hc'⟩ := Option.bind_eq_some_iff.mp hc'
          split at hc'
          · rename_i hz
            cases hc'
            have ek := keyOf_rep hky hk
            subst ek
            refine .inr ⟨a2, _, rfl, .inl ⟨vs2, ky, exx.s _ _ e2, rfl, by rw [← RepK.length (TreeK.rep (K := X.K) _ _ _ (fun p _ o q => q) t)]; exact hz, rfl⟩, ?_⟩
            have gs : ∀ p ∈ G3, ∀ o, H p = some o → (upd H2 a2 (.dK (putK vs2 ky w))) p = some o := fun p hp o q => by
              rw [upd_ne (fun z => n1 (by rw [← z]; exact hp))]; exact exx.s p o q
            have gs' : ∀ p ∈ G, ∀ o, H2 p = some o → (upd H2 a2 (.dK (putK vs2 ky w))) p = some o := fun p hp o q => by
              rw [upd_ne (fun z => aG (by rw [← z]; exact hp))]; exact q
            have t1 := TreeK.agree _ _ _ gs t
            have t2 := Tree.agree _ _ _ gs' (show Tree H2 yd w G from sy)
            obtain ⟨F', tp, ndp, sub⟩ := t1.put (k := ky) t2 hz2.2 (List.nodup_append.mpr ⟨n2, f.1, fun x hx y hy exy => by
              subst exy
              exact e.th i x (by rw [hF]; exact List.mem_cons_of_mem _ hx) (f.2 x hy).1⟩)
            refine qk _ _ ⟨_, _, k'.mut (i := i) (a := a2) (G := a2 :: F') (x := (.T, .dct (putD kds ky yd))) h1 (by rw [hF]; exact List.mem_cons_self) ⟨a2, _, _, rfl, rfl, upd_same, ⟨Nat.le_trans (putD_length _ _ _) hz, putD_nodup _ _ hz2.2⟩, tp⟩ ⟨?_, fun p hp => ?_⟩ fun j hj p hp => ?_⟩
            · refine List.nodup_cons.mpr ⟨fun h => ?_, ndp⟩
              rcases sub _ h with h | h
              · exact n1 h
              · exact aG h
            · rcases List.mem_cons.mp hp with rfl | hp
              · exact fz p List.mem_cons_self
              · rcases sub _ hp with hp | hp
                · exact fz p (List.mem_cons_of_mem _ hp)
                · exact ⟨e.free (f.2 p hp).1, e.s0.free (f.2 p hp).1⟩
            · rcases List.mem_cons.mp hp with rfl | hp
              · exact e.dj i j (Ne.symm hj) p (by rw [hF]; exact List.mem_cons_self)
              · rcases sub _ hp with hp | hp
                · exact e.dj i j (Ne.symm hj) p (by rw [hF]; exact List.mem_cons_of_mem _ hp)
                · exact fun h => e.th j p h (f.2 p hp).1
          · cases hc'
        · split at qk
          · rename_i hcnd
            exact viaR rfl rfl rfl (by unfold mutR; rw [if_pos hcnd]; exact qk) hcnd.1
          · exact qk.elim
      | lst ds =>
        have : fl ≠ .S := by
          intro h; subst h; simp [mutR] at qk; exact qk
        exact viaR rfl rfl rfl qk this
      | _ => simp [setD] at hc'
    · exact qk.elim
  · exact q.elim
end
end VL
end

section
set_option Elab.async false
set_option maxRecDepth 100000
set_option linter.all false
/-! The value layer, 8: what is walked; for; comprehensions. -/
namespace VL
open PySem PySem.Spec PyProof.Rows L2
theorem _root_.L2.PI.imp {X : Cx} {tg e : Expr} {t t' : TI} (h : PI X tg e t) (i : ∀ σ H R, t' σ H R → t σ H R) : PI X tg e t' := ⟨fun pins s σ H R I q => h.run pins s σ H R I (i _ _ _ q)⟩

/-- J walks the items xs, over H0 -/
structure Walks (K : PySem.W.Frag) (J : It) (H0 : Hp) (xs : List FD) : Prop where
  go : ∀ i H, i < xs.length → Same H0 H → J.go i H
  stop : ∀ i H, xs.length ≤ i → Same H0 H → J.stop i H
  yld : ∀ i x H v H', xs[i]? = some x → Same H0 H → J.yld i H v H' → ∃ F, Same H H' ∧ Sh K H' H0 x v F ∧ FrF H H0 F
def tI (M : Md) (W : WX) (g : GA) : TI := fun σ H R => ∃ H0 ρ, Same H0 H ∧ RdE M.K σ ρ H0 ∧
  Out M W σ H0 H (g ρ) fun xs => ∀ J H1 H01, Ext H0 H H01 H1 → Walks M.K J H01 xs → R J H1
section
variable {X : Cx} {W : WX}
/-- the items of what is read like a list -/
def itemsL : D → Res (List FD)
  | .lst ds => .ok (ds.map sh)
  | .scr ns => .ok (ns.map fun n => sh (.int n))
  | _ => .bad
def gItL (g : GE) : GA := fun ρ => (g ρ).bind fun x => itemsL x.2
theorem items_rep {K : PySem.W.Frag} {H0 : Hp} {d : D} {xs : List FD} {v : V} (h : itemsL d = .ok xs) (r : Rep K H0 d v) : ∃ a vs, v = .ref a ∧ SqL K H0 a vs ∧ Reps K H0 (xs.map (·.2)) vs ∧ xs = (xs.map (·.2)).map sh := by
  cases d <;> simp only [itemsL] at h <;> first | (cases h; done) | skip
  · cases h
    obtain ⟨a, vs, e, s, z, q⟩ := r
    have e1 : ∀ l : List D, (l.map sh).map (·.2) = l := fun l => by rw [List.map_map]; exact List.map_id _
    exact ⟨a, vs, e, SqL.of s, by rw [e1]; exact q, by rw [e1]⟩
  · rename_i ns
    cases h
    obtain ⟨a, e, s⟩ := r
    refine ⟨a, _, e, s, ?_, ?_⟩
    · have : (ns.map fun n => sh (.int n)).map (·.2) = ns.map D.int := by rw [List.map_map]; rfl
      rw [this]
      have : ∀ ns : List Int, Reps K H0 (ns.map D.int) (ns.map V.int) := fun ns => by
        induction ns with
        | nil => rfl
        | cons n r ih => exact ⟨_, _, rfl, rfl, ih⟩
      exact this ns
    · rw [List.map_map, List.map_map]; rfl
theorem walks_list {K : PySem.W.Frag} {H0 : Hp} {a : Addr} {vs : List V} {ds : List D} (s : SqL K H0 a vs) (r : Reps K H0 ds vs) : Walks K (Itl K a) H0 (ds.map sh) := by
  refine ⟨fun i H hi hs => ?_, fun i H hi hs => ⟨vs, hs.seq s, ?_⟩, fun i x H v H' hx hs ⟨e, y⟩ => ?_⟩
  · rw [List.length_map, r.length] at hi
    exact ⟨vs, vs[i], hs.seq s, List.getElem?_eq_getElem hi⟩
  · rw [List.length_map, r.length] at hi; exact hi
  · subst e
    rw [List.getElem?_map] at hx
    obtain ⟨d, hd, rfl⟩ := Option.map_eq_some_iff.mp hx
    obtain ⟨w, hw, rw'⟩ := r.get hd
    have := y vs (hs.seq s)
    rw [hw] at this; cases this
    exact ⟨[], Same.refl _, sh_ok rw', FrF.nil⟩
theorem ei_list {tg l : Expr} {g : GE} (h : PE X l (tE (Md.of X) W g)) : PI X tg l (tI (Md.of X) W (gItL g)) := (pi_list h).imp fun σ H R ⟨H0, ρ, hs, hr, q⟩ => by
  refine ⟨H0, ρ, hs, hr, (Out.bind q).imp fun x qx => fun v H1 H01 F e s fr => ?_⟩
  obtain ⟨e1, r1⟩ := e.letgo s fr
  cases k : itemsL x.2 with
  | bad => rw [k] at qx; exact qx.elim
  | xc c fs => cases hx : x.2 <;> rw [hx] at k <;> simp [itemsL] at k
  | ok xs =>
    rw [k] at qx
    obtain ⟨a, vs, rfl, s1, r2, ex⟩ := items_rep k r1
    exact ⟨a, rfl, ⟨vs, e1.s1.seq s1⟩, qx _ _ _ e1 (by rw [ex]; exact walks_list s1 r2)⟩
/-- range(n), range(a, b) -/
def rngD (a b : Int) : List FD := (List.range (b - a).toNat).map fun (k : Nat) => ((.T, .int (a + (k : Int))) : FD)
def okR (a b : Int) : Bool := decide (-(2 ^ 62) ≤ a ∧ a < 2 ^ 62 ∧ -(2 ^ 62) ≤ b ∧ b < 2 ^ 62 ∧ (b - a).toNat ≤ sizeLine)
def itemsR (a b : Int) : Res (List FD) := if okR a b = true then .ok (rngD a b) else .bad
def gItR1 (g : GE) : GA := fun ρ => (g ρ).bind fun x => match x.2 with
  | .int b => itemsR 0 b
  | _ => .bad
def gItR2 (g k : GE) : GA := fun ρ => (g ρ).bind fun x => (k ρ).bind fun y => match x.2, y.2 with
  | .int a, .int b => itemsR a b
  | _, _ => .bad
theorem walks_range {K : PySem.W.Frag} {H0 : Hp} (a b : Int) : Walks K (Itr a (b - a).toNat) H0 (rngD a b) := by
  have hl : (rngD a b).length = (b - a).toNat := by unfold rngD; rw [List.length_map, List.length_range]
  refine ⟨fun i H hi hs => by rw [hl] at hi; exact hi, fun i H hi hs => by rw [hl] at hi; exact hi, fun i x H v H' hx hs ⟨e, y⟩ => ?_⟩
  subst e; subst y
  unfold rngD at hx
  rw [List.getElem?_map] at hx
  obtain ⟨k, hk, rfl⟩ := Option.map_eq_some_iff.mp hx
  have hi : i < (b - a).toNat := by
    by_cases h : i < (b - a).toNat
    · exact h
    · rw [List.getElem?_eq_none (by simpa using h)] at hk; cases hk
  rw [List.getElem?_range hi] at hk
  cases hk
  exact ⟨[], Same.refl _, ⟨rfl, rfl⟩, FrF.nil⟩
theorem itemsR_ok {M : Md} {σ : L2.St} {H0 H : Hp} {a b : Int} {P : List FD → Prop} (q : Out M W σ H0 H (itemsR a b) P) : -(2 ^ 62) ≤ a ∧ a < 2 ^ 62 ∧ -(2 ^ 62) ≤ b ∧ b < 2 ^ 62 ∧ P (rngD a b) := by
  unfold itemsR at q
  split at q
  · rename_i h
    unfold okR at h
    obtain ⟨h1, h2, h3, h4, _⟩ := of_decide_eq_true h
    exact ⟨h1, h2, h3, h4, q⟩
  · exact q.elim
theorem ei_range1 {tg a : Expr} {p pos : Pos} {g : GE} (hg : Gl X "range") (hm : X.mg "range" = none) (ha : PE X a (tE (Md.of X) W g)) (hs : starEach [a] X.env = [(false, eval a X.env)] := by rfl) :
    PI X tg (.Call (.Name "range" p) [a] [] pos) (tI (Md.of X) W (gItR1 g)) := (pi_range1 hg hm (pa_cons ha pa_nil (by rw [hs]; rfl)) hs).imp fun σ H R ⟨H0, ρ, h0, hr, q⟩ => by
  refine ⟨H0, ρ, h0, hr, (Out.bind q).imp fun x qx => fun v H1 H01 F e s fr => ?_⟩
  obtain ⟨e1, r1⟩ := e.letgo s fr
  split at qx
  · rename_i b hb
    rw [hb] at r1
    cases r1
    obtain ⟨h1, h2, h3, h4, qq⟩ := itemsR_ok qx
    refine ⟨b, rfl, h3, h4, ?_⟩
    have := walks_range (K := X.K) (H0 := addF H01 H1 F) 0 b
    rw [Int.sub_zero] at this
    exact qq _ _ _ e1 this
  · exact qx.elim
theorem ei_range2 {tg a b : Expr} {p pos : Pos} {g k : GE} (hg : Gl X "range") (hm : X.mg "range" = none) (ha : PE X a (tE (Md.of X) W g)) (hb : PE X b (tE (Md.of X) W k))
    (hs : starEach [a, b] X.env = [(false, eval a X.env), (false, eval b X.env)] := by rfl) (hs2 : starEach [b] X.env = [(false, eval b X.env)] := by rfl) :
    PI X tg (.Call (.Name "range" p) [a, b] [] pos) (tI (Md.of X) W (gItR2 g k)) := (pi_range2 hg hm (pa_cons ha (pa_cons hb pa_nil (by rw [hs2]; rfl)) (by rw [hs, hs2])) hs hs2).imp fun σ H R ⟨H0, ρ, h0, hr, q⟩ => by
  refine ⟨H0, ρ, h0, hr, (Out.bind q).imp fun x qx => fun v H1 H01 F e s fr => ?_⟩
  obtain ⟨e1, r1⟩ := e.letgo s fr
  refine ⟨_, ρ, e1.s1, hr.mono e1.s0, Out.after e1 (Out.bind qx) fun y qy => fun u H2 H02 G e' s' fr' => ?_⟩
  obtain ⟨e2, r2⟩ := e'.letgo s' fr'
  split at qy
  · rename_i a b hxa hyb
    rw [hxa] at r1
    rw [hyb] at r2
    cases r1; cases r2
    obtain ⟨h1, h2, h3, h4, qq⟩ := itemsR_ok qy
    exact ⟨a, b, rfl, ⟨h1, h2, h3, h4⟩, qq _ _ _ (e1.trans e2) (walks_range a b)⟩
  · exact qy.elim
/-- reversed(xs) -/
def gItV (g : GE) : GA := fun ρ => (g ρ).bind fun x => (itemsL x.2).bind fun xs => .ok xs.reverse
theorem walks_rev {K : PySem.W.Frag} {H0 : Hp} {a : Addr} {vs : List V} {ds : List D} (s : SqL K H0 a vs) (r : Reps K H0 ds vs) : Walks K (Itv K a vs.length) H0 (ds.map sh).reverse := by
  have hl : (ds.map sh).reverse.length = vs.length := by rw [List.length_reverse, List.length_map, r.length]
  refine ⟨fun i H hi hs => ?_, fun i H hi hs => ?_, fun i x H v H' hx hs ⟨e, y⟩ => ?_⟩
  · rw [hl] at hi
    exact ⟨hi, vs, vs[vs.length - 1 - i], hs.seq s, List.getElem?_eq_getElem (by omega)⟩
  · rw [hl] at hi; exact hi
  · subst e
    have hi : i < vs.length := by
      by_cases h : i < vs.length
      · exact h
      · rw [List.getElem?_eq_none (by rw [hl]; omega)] at hx; cases hx
    rw [List.getElem?_reverse (by rw [List.length_map, r.length]; exact hi), List.length_map, r.length, List.getElem?_map] at hx
    obtain ⟨d, hd, rfl⟩ := Option.map_eq_some_iff.mp hx
    obtain ⟨w, hw, rw'⟩ := r.get hd
    have := y vs (hs.seq s)
    rw [hw] at this; cases this
    exact ⟨[], Same.refl _, sh_ok rw', FrF.nil⟩
theorem ei_rev {tg l : Expr} {p pos : Pos} {g : GE} (hg : Gl X "reversed") (hm : X.mg "reversed" = none) (h : PE X l (tE (Md.of X) W g)) (hs : starEach [l] X.env = [(false, eval l X.env)] := by rfl) :
    PI X tg (.Call (.Name "reversed" p) [l] [] pos) (tI (Md.of X) W (gItV g)) := (pi_reversed hg hm (pa_cons h pa_nil (by rw [hs]; rfl)) hs).imp fun σ H R ⟨H0, ρ, hs, hr, q⟩ => by
  refine ⟨H0, ρ, hs, hr, (Out.bind q).imp fun x qx => fun v H1 H01 F e s fr => ?_⟩
  obtain ⟨e1, r1⟩ := e.letgo s fr
  cases k : itemsL x.2 with
  | bad => rw [k] at qx; exact qx.elim
  | xc c fs => cases hx : x.2 <;> rw [hx] at k <;> simp [itemsL] at k
  | ok xs =>
    rw [k] at qx
    obtain ⟨a, vs, rfl, s1, r2, ex⟩ := items_rep k r1
    refine ⟨a, vs, rfl, e1.s1.seq s1, qx _ _ _ e1 ?_⟩
    rw [ex]
    exact walks_rev s1 r2
/-- enumerate(xs) -/
def enumD : Nat → List D → List FD
  | _, [] => []
  | i, d :: ds => ((if d.atom then .T else .R, .tup [.int (i : Int), d]) : FD) :: enumD (i + 1) ds
def gItE (g : GE) : GA := fun ρ => (g ρ).bind fun x => (itemsL x.2).bind fun xs => .ok (enumD 0 (xs.map (·.2)))
theorem enumD_length : ∀ (ds : List D) (i : Nat), (enumD i ds).length = ds.length
  | [], _ => rfl
  | d :: ds, i => by simp [enumD, enumD_length ds]
theorem enumD_get : ∀ (ds : List D) (k i : Nat) (x : FD), (enumD k ds)[i]? = some x → ∃ d, ds[i]? = some d ∧ x = (if d.atom then .T else .R, .tup [.int ((k + i : Nat) : Int), d])
  | [], _, _, _, h => by simp [enumD] at h
  | d :: ds, k, 0, x, h => by simp [enumD] at h; exact ⟨d, rfl, by rw [← h]; simp⟩
  | d :: ds, k, i + 1, x, h => by
    obtain ⟨d', h1, h2⟩ := enumD_get ds (k + 1) i x (by simpa [enumD] using h)
    exact ⟨d', by simpa using h1, by rw [h2, show k + 1 + i = k + (i + 1) by omega]⟩
theorem walks_enum {K : PySem.W.Frag} {H0 : Hp} {a : Addr} {vs : List V} {ds : List D} (s : SqL K H0 a vs) (r : Reps K H0 ds vs) : Walks K (Ite K a) H0 (enumD 0 ds) := by
  refine ⟨fun i H hi hs => ?_, fun i H hi hs => ⟨vs, hs.seq s, ?_⟩, fun i x H v H' hx hs ⟨T, w, e1, hT, e2, y⟩ => ?_⟩
  · rw [enumD_length, r.length] at hi
    exact ⟨vs, vs[i], hs.seq s, List.getElem?_eq_getElem hi⟩
  · rw [enumD_length, r.length] at hi; exact hi
  · subst e1; subst e2
    obtain ⟨d, hd, rfl⟩ := enumD_get ds 0 i x hx
    rw [Nat.zero_add]
    obtain ⟨u, hu, ru⟩ := r.get hd
    have := y vs (hs.seq s)
    rw [hu] at this; cases this
    refine ⟨[T], fun b o q => by rw [upd_ne (ne_of_none q hT)]; exact q, ?_, ⟨by simp, fun p hp => by rw [List.mem_singleton.mp hp]; exact ⟨hT, hs.free hT⟩⟩⟩
    have two : (2 : Nat) ≤ sizeLine := by decide
    cases ha : d.atom with
    | true => exact ⟨T, _, [], rfl, rfl, upd_same, two, _, _, [], [], rfl, rfl, ⟨rfl, rfl⟩, _, _, [], [], rfl, rfl, ru.tree ha, rfl, rfl⟩
    | false => exact ⟨T, _, rfl, rfl, upd_same, _, rfl, two, _, _, rfl, rfl, _, _, rfl, ru, rfl⟩
theorem ei_enum {l : Expr} {p pos tpos : Pos} {elts : List Expr} {kk : Nat} {g : GE} (hg : Gl X "enumerate") (hm : X.mg "enumerate" = none) (h : PE X l (tE (Md.of X) W g)) (hs : starEach [l] X.env = [(false, eval l X.env)] := by rfl) :
    PI X (.Tuple elts kk tpos) (.Call (.Name "enumerate" p) [l] [] pos) (tI (Md.of X) W (gItE g)) := (pi_enum hg hm (pa_cons h pa_nil (by rw [hs]; rfl)) hs).imp fun σ H R ⟨H0, ρ, hs, hr, q⟩ => by
  refine ⟨H0, ρ, hs, hr, (Out.bind q).imp fun x qx => fun v H1 H01 F e s fr => ?_⟩
  obtain ⟨e1, r1⟩ := e.letgo s fr
  cases k : itemsL x.2 with
  | bad => rw [k] at qx; exact qx.elim
  | xc c fs => cases hx : x.2 <;> rw [hx] at k <;> simp [itemsL] at k
  | ok xs =>
    rw [k] at qx
    obtain ⟨a, vs, rfl, s1, r2, ex⟩ := items_rep k r1
    exact ⟨a, vs, rfl, e1.s1.seq s1, qx _ _ _ e1 (walks_enum s1 r2)⟩

/-! ### targets -/
def setsV : L2.St → List Nat → List V → L2.St
  | σ, i :: is, v :: vs => setsV (σ.set i (some v)) is vs
  | σ, _, _ => σ
/-- a target, read: to which slots the parts of a thing go -/
structure Tgt (K : PySem.W.Frag) (g : TG) (is : List Nat) (t : D → Option (List D)) : Prop where
  run : ∀ d as v σ H H0 Q, t d = some as → Same H0 H → Rep K H0 d v → (∀ vs, Reps K H0 as vs → as.length = is.length → Q (setsV σ is vs) H) → g v σ H Q
def t1 : D → Option (List D) := fun d => some [d]
theorem tgt1 {K : PySem.W.Frag} {i : Nat} : Tgt K (gName i) [i] t1 := ⟨fun d as v σ H H0 Q h hs r q => by
  cases h
  exact q [v] ⟨v, [], rfl, r, rfl⟩ rfl⟩
def t2 : D → Option (List D)
  | .tup [a, b] => some [a, b]
  | _ => none
theorem tgt2 {K : PySem.W.Frag} {i j : Nat} : Tgt K (gTup K 2 (L2.gCons (gName i) (L2.gCons (gName j) L2.gNil))) [i, j] t2 := ⟨fun d as v σ H H0 Q h hs r q => by
  unfold t2 at h
  split at h <;> cases h
  obtain ⟨a, vs, rfl, s, z, w, t, e, r1, w2, t2, e2, r2, e3⟩ := r
  subst e3; subst e2; subst e
  exact ⟨a, _, rfl, same_seqT hs s, rfl, _, _, rfl, _, _, rfl, rfl, q [w, w2] ⟨w, _, rfl, r1, w2, [], rfl, r2, rfl⟩ rfl⟩⟩
def setsD : List (Option D) → List Nat → List D → List (Option D)
  | ρ, i :: is, d :: ds => setsD (ρ.set i (some d)) is ds
  | ρ, _, _ => ρ
def setsF : DE → List Nat → List D → DE
  | ρ, i :: is, d :: ds => setsF (ρ.set i (some (sh d))) is ds
  | ρ, _, _ => ρ
def wipeD (ρ : List (Option D)) : List Nat → List (Option D)
  | [] => ρ
  | i :: is => (wipeD ρ is).set i none
theorem rde_set {K : PySem.W.Frag} {σ : L2.St} {ρ : List (Option D)} {H0 : Hp} {i : Nat} {d : D} {v : V} (h : RdE K σ ρ H0) (r : Rep K H0 d v) : RdE K (σ.set i (some v)) (ρ.set i (some d)) H0 := ⟨by simp [h.1], fun j x hx => by
  by_cases hj : i = j
  · subst hj
    have hi : i < ρ.length := by
      by_cases h : i < ρ.length
      · exact h
      · rw [List.getElem?_eq_none (by simpa using h)] at hx; cases hx
    rw [List.getElem?_set_self hi] at hx
    cases hx
    exact ⟨v, List.getElem?_set_self (by rw [← h.1]; exact hi), r⟩
  · rw [List.getElem?_set_ne hj] at hx ⊢
    exact h.2 j x hx⟩
theorem rde_sets {K : PySem.W.Frag} {H0 : Hp} : ∀ {is : List Nat} {ds : List D} {vs : List V} {σ : L2.St} {ρ : List (Option D)}, RdE K σ ρ H0 → Reps K H0 ds vs → RdE K (setsV σ is vs) (setsD ρ is ds) H0
  | [], _, _, _, _, h, _ => by unfold setsV setsD; exact h
  | i :: is, [], _, _, _, h, r => by cases r; exact h
  | i :: is, d :: ds, _, σ, ρ, h, ⟨v, t, e, r1, r2⟩ => by
    subst e
    show RdE K (setsV (σ.set i (some v)) is t) (setsD (ρ.set i (some d)) is ds) H0
    exact rde_sets (rde_set h r1) r2
theorem wipeD_length (ρ : List (Option D)) : ∀ is, (wipeD ρ is).length = ρ.length
  | [] => rfl
  | i :: is => by simp [wipeD, wipeD_length ρ is]
theorem rde_wipe {K : PySem.W.Frag} {H0 : Hp} {σ : L2.St} {ρ : List (Option D)} (h : RdE K σ ρ H0) : ∀ is, RdE K (wipe σ is) (wipeD ρ is) H0
  | [] => h
  | i :: is => ⟨by rw [wipeD_length, wipe_length]; exact h.1, fun j x hx => by
    unfold wipeD at hx
    by_cases hj : i = j
    · subst hj
      by_cases hi : i < (wipeD ρ is).length
      · rw [List.getElem?_set_self hi] at hx; cases hx
      · rw [List.getElem?_eq_none (by simpa using hi)] at hx; cases hx
    · rw [List.getElem?_set_ne hj] at hx
      obtain ⟨v, h1, h2⟩ := (rde_wipe h is).2 j x hx
      refine ⟨v, ?_, h2⟩
      unfold wipe
      rw [List.getElem?_set_ne hj]
      exact h1⟩
end
end VL
end

section
set_option Elab.async false
set_option maxRecDepth 100000
set_option linter.all false
/-! The value layer, 9: for; comprehensions. -/
namespace VL
open PySem PySem.Spec PyProof.Rows L2

/-! ### [e for x in xs if c] -/
/-- nothing raised is let through -/
def Res.nox {α : Type} (r : Res α) : Res α := match r with
  | .ok a => .ok a
  | _ => .bad
@[simp] theorem Res.nox_ok {α : Type} (a : α) : (Res.ok a).nox = .ok a := rfl
@[simp] theorem Res.nox_bad {α : Type} : (Res.bad : Res α).nox = .bad := rfl
@[simp] theorem Res.nox_xc {α : Type} (c : Str) (fs : List (Str × D)) : (Res.xc c fs : Res α).nox = .bad := rfl
/-- each item: its test, its element -/
def compL (t : D → Option (List D)) (is : List Nat) (c : GT) (g : GE) (ρ : List (Option D)) : List FD → Res (List FD)
  | [] => .ok []
  | x :: xs => match t x.2 with
    | some as => (c (setsD ρ is as)).nox.bind fun b => if b = true then (g (setsD ρ is as)).nox.bind fun y => (compL t is c g ρ xs).bind fun ys => .ok (y :: ys) else compL t is c g ρ xs
    | none => .bad
def gComp (own is : List Nat) (k : GA) (t : D → Option (List D)) (c : GT) (g : GE) : GE := fun ρ => (k ρ).bind fun xs =>
  if xs.length ≤ sizeLine then (compL t is c g (wipeD ρ own) xs).bind fun ys => .ok (mkL ys) else .bad
def cYes : GT := fun _ => .ok true
abbrev W0 : WX := fun _ _ _ _ => False
theorem wipe_setsV : ∀ (own is : List Nat) (σ : L2.St) (vs : List V), (∀ i ∈ is, i ∈ own) → wipe (setsV (wipe σ own) is vs) own = wipe σ own
  | own, [], σ, vs, _ => by
    unfold setsV
    exact wipe_twice own σ
  | own, i :: is, σ, [], _ => by
    unfold setsV
    exact wipe_twice own σ
  | own, i :: is, σ, v :: vs, h => by
    have : ∀ (σ' : L2.St) (is : List Nat) (vs : List V), (∀ i ∈ is, i ∈ own) → wipe σ' own = wipe σ own → wipe (setsV σ' is vs) own = wipe σ own := by
      intro σ' is
      induction is generalizing σ' with
      | nil => intro vs _ h; cases vs <;> exact h
      | cons j js ih =>
        intro vs hj h
        cases vs with
        | nil => exact h
        | cons w ws =>
          refine ih _ ws (fun i hi => hj i (List.mem_cons_of_mem _ hi)) ?_
          rw [← h]
          exact wipe_set own (hj j List.mem_cons_self) σ' _
    exact this _ _ _ h (wipe_twice own σ)
where
  wipe_set : ∀ (own : List Nat) {j : Nat} (hj : j ∈ own) (σ : L2.St) (v : Option V), wipe (σ.set j v) own = wipe σ own
    | k :: ks, j, hj, σ, v => by
      unfold wipe
      by_cases h : j ∈ ks
      · rw [wipe_set ks h]
      · have e : j = k := by
          rcases List.mem_cons.mp hj with e | e
          · exact e
          · exact absurd e h
        subst e
        rw [wipe_set_out ks h, List.set_set]
  wipe_set_out : ∀ (own : List Nat) {j : Nat} (hj : j ∉ own) {σ : L2.St} {v : Option V}, wipe (σ.set j v) own = (wipe σ own).set j v
    | [], j, hj, σ, v => rfl
    | k :: ks, j, hj, σ, v => by
      simp only [List.mem_cons, not_or] at hj
      unfold wipe
      rw [wipe_set_out ks hj.2, List.set_comm _ _ hj.1]
  wipe_twice : ∀ (own : List Nat) (σ : L2.St), wipe (wipe σ own) own = wipe σ own
    | [], σ => rfl
    | k :: ks, σ => by
      show (wipe ((wipe σ ks).set k none) ks).set k none = (wipe σ ks).set k none
      by_cases h : k ∈ ks
      · rw [wipe_set ks h, wipe_twice ks]
      · rw [wipe_set_out ks h, wipe_twice ks, List.set_set]

section
variable {X : Cx} {W : WX}
/-- a walk, as the layer wants it -/
theorem comp_core {M : Md} {σ : L2.St} {Hs H1 H01 : Hp} {ρ : List (Option D)} {J : It} {g : TG} {tt : TT} {te : TE} {own is : List Nat} {t : D → Option (List D)} {c : GT} {ge : GE} {xs : List FD} {ys : List FD} {Dd : Addr} {Q : VK}
    (wk : Walks M.K J H01 xs) (tg : Tgt M.K g is t) (hio : ∀ i ∈ is, i ∈ own) (ht : ∀ σ H Q, tT M W0 c σ H Q → tt σ H Q) (he : ∀ σ H Q, tE M W0 ge σ H Q → te σ H Q)
    (hz : xs.length ≤ sizeLine) (hc : compL t is c ge (wipeD ρ own) xs = .ok ys) (hr : RdE M.K σ ρ H01) (hs1 : Same H01 H1) (hsH : Same Hs H1) (hD : H1 Dd = none)
    (hq : ∀ H H0' vs F, Ext H01 Hs H0' H → H Dd = some (.lst vs) → Shs M.K H H0' ys vs F → FrF Hs H0' F → Dd ∉ F → H0' Dd = none → Q (.ref Dd) H) (hnew : ∀ p, H01 p = none → H01 p = none) :
    ∃ Wv : Nat → Nat → Hp → Prop, (∃ m, Wv 0 m (upd H1 Dd (.lst []))) ∧ ∀ i m H, Wv i m H →
      (J.stop i H ∧ Q (.ref Dd) H) ∨ (J.go i H ∧ ∃ Nx : Hp → Prop, (∀ H', Nx H' → ∃ m', m' < m ∧ Wv (i + 1) m' H') ∧ ∀ x H', J.yld i H x H' → g x (wipe σ own) H' fun σ2 H2 => wipe σ2 own = wipe σ own ∧ tt σ2 H2 fun b H3 =>
        if b = true then te σ2 H3 fun y H4 => ∃ acc, H4 Dd = some (.lst acc) ∧ acc.length < sizeLine ∧ Nx (upd H4 Dd (.lst (acc ++ [y]))) else Nx H3) := by
  have hDs : Hs Dd = none := hsH.free hD
  have hD0 : H01 Dd = none := hs1.free hD
  -- behind i turns: zs made so far, the rest of xs makes the rest of ys
  let Pv : Nat → Hp → Prop := fun i H => i ≤ xs.length ∧ ∃ zs rs H0' vs F, compL t is c ge (wipeD ρ own) (xs.drop i) = .ok rs ∧ ys = zs ++ rs ∧ zs.length ≤ i ∧ Ext H01 Hs H0' H ∧ H Dd = some (.lst vs) ∧ Shs M.K H H0' zs vs F ∧ FrF Hs H0' F ∧ Dd ∉ F ∧ H0' Dd = none
  refine ⟨fun i m H => m = xs.length - i ∧ Pv i H, ⟨xs.length, by simp, Nat.zero_le _, [], ys, H01, [], [], hc, rfl, Nat.le_refl _, ⟨Same.refl _, fun b o q => by rw [upd_ne (ne_of_none q hD0)]; exact hs1 b o q, fun b o q => by rw [upd_ne (ne_of_none q hDs)]; exact hsH b o q, fun p h1 h2 => absurd h1 h2⟩, upd_same, ⟨rfl, rfl⟩, FrF.nil, by simp, hD0⟩, ?_⟩
  rintro i m H ⟨rfl, hi, zs, rs, H0', vs, F, hcr, hys, hzl, ex, hDv, sh1, fr, nF, d0⟩
  have sm : Same H01 H := ex.s0.trans ex.s1
  by_cases hlt : i < xs.length
  · refine .inr ⟨wk.go i H hlt sm, Pv (i + 1), fun H' p => ⟨xs.length - (i + 1), by omega, rfl, p⟩, fun x H' hy => ?_⟩
    have hx : xs[i]? = some xs[i] := List.getElem?_eq_getElem hlt
    obtain ⟨G, sH, sx, fx⟩ := wk.yld i _ H x H' hx sm hy
    rw [List.drop_eq_getElem_cons hlt] at hcr
    unfold compL at hcr
    split at hcr
    · rename_i as has
      -- the item let go
      have exI : Ext H01 H H01 H' := ⟨Same.refl _, sm.trans sH, sH, fun p h1 h2 => absurd h1 h2⟩
      obtain ⟨eL, rL⟩ := exI.letgo sx fx
      -- over what is shared by now
      have fx' : ∀ p ∈ G, H0' p = none := fun p hp => by
        exact ex.s1.free (fx.2 p hp).1
      have e2 : Ext H0' H (addF H0' H' G) H' := ⟨addF_same0 fx', addF_same (ex.s1.trans sH), sH, fun b h1 h2 => by
        by_cases hb : b ∈ G
        · exact (fx.2 b hb).1
        · rw [addF_out hb] at h2; exact absurd h1 h2⟩
      have r2 : Rep M.K (addF H0' H' G) xs[i].2 x := by
        refine Rep.mono (fun b o q => ?_) _ _ rL
        by_cases hb : b ∈ G
        · rw [addF_in hb] at q ⊢; exact q
        · rw [addF_out hb] at q ⊢; exact ex.s0 b o q
      have Dn : H' Dd = some (.lst vs) := sH _ _ hDv
      refine tg.run xs[i].2 as x (wipe σ own) H' (addF H0' H' G) _ has e2.s1 r2 fun ws rw hlen => ⟨wipe_setsV own is σ ws hio, ?_⟩
      have rde : RdE M.K (setsV (wipe σ own) is ws) (setsD (wipeD ρ own) is as) (addF H0' H' G) := rde_sets (rde_wipe (hr.mono (ex.s0.trans e2.s0)) own) rw
      refine ht _ _ _ ⟨_, _, e2.s1, rde, ?_⟩
      cases hb : c (setsD (wipeD ρ own) is as) with
      | bad => rw [hb] at hcr; cases hcr
      | xc => rw [hb] at hcr; cases hcr
      | ok b =>
        rw [hb, Res.nox_ok, Res.bind_ok] at hcr
        refine fun H3 H03 e3 => ?_
        have d03 : H03 Dd = none := by
          cases q : H03 Dd with
          | none => rfl
          | some o =>
            have z1 : (addF H0' H' G) Dd = none := by rw [addF_out (fun h => by have := (fx.2 _ h).1; rw [hDv] at this; cases this)]; exact d0
            have := e3.new Dd z1 (by rw [q]; simp)
            rw [Dn] at this; cases this
        have exAll : Ext H01 Hs H03 H3 := by
          refine ex.trans (Ext.trans ⟨e2.s0, e2.s1, e2.s, e2.new⟩ e3)
        have shs3 : Shs M.K H3 H03 zs vs F := (sh1.ext e2).ext e3
        have ff3 : FrF Hs H03 F := by
          refine ⟨fr.1, fun p hp => ⟨(fr.2 p hp).1, ?_⟩⟩
          cases q : H03 p with
          | none => rfl
          | some o =>
            have z1 : (addF H0' H' G) p = none := by
              rw [addF_out (fun h => by have := (fx.2 _ h).1; exact absurd this (sh1.there p hp))]
              exact (fr.2 p hp).2
            have := e3.new p z1 (by rw [q]; simp)
            have z3 := sh1.there p hp
            exact absurd (sH.free this) z3
        cases b with
        | false =>
          simp only [Bool.false_eq_true, if_false] at hcr ⊢
          exact ⟨hlt, zs, rs, H03, vs, F, hcr, hys, Nat.le_succ_of_le hzl, exAll, e3.s _ _ Dn, shs3, ff3, nF, d03⟩
        | true =>
          simp only [if_true] at hcr ⊢
          refine he _ _ _ ⟨H03, _, e3.s1, rde.mono e3.s0, ?_⟩
          cases hg : ge (setsD (wipeD ρ own) is as) with
          | bad => rw [hg] at hcr; cases hcr
          | xc => rw [hg] at hcr; cases hcr
          | ok y =>
            rw [hg, Res.nox_ok, Res.bind_ok] at hcr
            cases hk : compL t is c ge (wipeD ρ own) (xs.drop (i + 1)) with
            | bad => rw [hk] at hcr; cases hcr
            | xc => rw [hk] at hcr; cases hcr
            | ok rs' =>
              rw [hk, Res.bind_ok] at hcr
              cases hcr
              refine fun v H4 H04 Gy e4 s4 f4 => ?_
              have D3 := e3.s _ _ Dn
              have D4 := e4.s _ _ D3
              have nGy : Dd ∉ Gy := fun h => by have := (f4.2 _ h).1; rw [D3] at this; cases this
              have d04 : H04 Dd = none := by
                cases q : H04 Dd with
                | none => rfl
                | some o => have := e4.new Dd d03 (by rw [q]; simp); rw [D3] at this; cases this
              have lv : vs.length = zs.length := sh1.length.symm
              refine ⟨vs, D4, by omega, hlt, zs ++ [y], rs', H04, vs ++ [v], F ++ Gy, hk, by rw [hys]; simp, by simp; omega, ?_, upd_same, ?_, ?_, ?_, d04⟩
              · have eA := exAll.trans e4
                exact ⟨eA.s0, fun b o q => by rw [upd_ne (ne_of_none q d04)]; exact eA.s1 b o q, fun b o q => by rw [upd_ne (ne_of_none q hDs)]; exact eA.s b o q, eA.new⟩
              · have shs4 := (shs3.ext e4).snoc s4
                refine shs_agree (fun p hp o q => ?_) shs4
                rw [upd_ne (fun z => by
                  subst z
                  rcases List.mem_append.mp hp with h | h
                  · exact nF h
                  · exact nGy h)]
                exact q
              · refine ⟨List.nodup_append.mpr ⟨fr.1, f4.1, fun a ha b hb hab => ?_⟩, fun p hp => ?_⟩
                · subst hab
                  exact shs3.there a ha (f4.2 a hb).1
                · rcases List.mem_append.mp hp with h | h
                  · refine ⟨(fr.2 p h).1, ?_⟩
                    cases q : H04 p with
                    | none => rfl
                    | some o => exact absurd (e4.new p (ff3.2 p h).2 (by rw [q]; simp)) (shs3.there p h)
                  · exact ⟨exAll.s.free (f4.2 p h).1, (f4.2 p h).2⟩
              · intro h
                rcases List.mem_append.mp h with h | h
                · exact nF h
                · exact nGy h
    · cases hcr
  · have hi' : i = xs.length := by omega
    refine .inl ⟨wk.stop i H (by omega) sm, ?_⟩
    rw [hi', List.drop_length] at hcr
    cases hcr
    rw [List.append_nil] at hys
    subst hys
    exact hq H H0' vs F ex hDv sh1 fr nF d0
where
  shs_agree : ∀ {K : PySem.W.Frag} {H H' H0 : Hp} {xs : List FD} {vs : List V} {F : List Addr}, (∀ p ∈ F, ∀ o, H p = some o → H' p = some o) → Shs K H H0 xs vs F → Shs K H' H0 xs vs F
    | _, _, _, _, [], _, _, _, r => r
    | _, _, _, _, x :: xs, _, _, h, ⟨v, r, G1, G2, e, f, s, q⟩ => by
      subst f
      exact ⟨v, r, G1, G2, e, rfl, s.mono (Same.refl _) fun p hp => h p (List.mem_append_left _ hp), shs_agree (fun p hp => h p (List.mem_append_right _ hp)) q⟩
end
end VL
end

section
set_option Elab.async false
set_option maxRecDepth 100000
set_option linter.all false
/-! The value layer, 10: the rules for comprehensions and for. -/
namespace VL
open PySem PySem.Spec PyProof.Rows L2
section
variable {X : Cx} {W : WX} {B : Bs}
theorem md_blk (s : Shared) (H : Hp) (scope : Scope) (cenv : Env) (fp : List Addr) : Md.of (X.blk s H scope cenv fp) = Md.of X := rfl
/-- a made list's end -/
theorem comp_end {K : PySem.W.Frag} {H0 Hs H0' H : Hp} {ys : List FD} {vs : List V} {F : List Addr} {Dd : Addr} {Q : VK} (f : Fin K H0 Hs (mkL ys) Q) (z : ys.length ≤ sizeLine) (e : Ext H0 Hs H0' H) (hD : H Dd = some (.lst vs)) (s : Shs K H H0' ys vs F) (fr : FrF Hs H0' F) (nF : Dd ∉ F) (d0 : H0' Dd = none) (hDs : Hs Dd = none) : Q (.ref Dd) H := by
  unfold mkL at f
  have zl : (ys.map (·.2)).length ≤ sizeLine := by rw [List.length_map]; exact z
  by_cases a : allT ys = true
  · rw [if_pos a] at f
    refine f (.ref Dd) H H0' (Dd :: F) e ⟨Dd, vs, F, rfl, rfl, hD, zl, s.trees a⟩ ⟨List.nodup_cons.mpr ⟨nF, fr.1⟩, fun b hb => ?_⟩
    rcases List.mem_cons.mp hb with rfl | hb
    · exact ⟨hDs, d0⟩
    · exact fr.2 b hb
  · rw [if_neg a] at f
    have z0 : ∀ b ∈ F, H0' b = none := fun b hb => (fr.2 b hb).2
    have e1 : Ext H0 Hs (addF H0' H F) H := ⟨e.s0.trans (addF_same0 z0), addF_same e.s1, e.s, fun b h1 h2 => by
      by_cases hb : b ∈ F
      · exact (fr.2 b hb).1
      · rw [addF_out hb] at h2; exact e.new b h1 h2⟩
    refine f (.ref Dd) H (addF H0' H F) [Dd] e1 ⟨Dd, .lst vs, rfl, rfl, hD, vs, rfl, zl, Shs.rep (addF_same0 z0) z0 (fun b hb => addF_in hb) s⟩ ⟨by simp, fun b hb => ?_⟩
    rw [List.mem_singleton.mp hb, addF_out nF]
    exact ⟨hDs, d0⟩
theorem compL_le {t : D → Option (List D)} {is : List Nat} {c : GT} {g : GE} {ρ : List (Option D)} : ∀ {xs ys : List FD}, compL t is c g ρ xs = .ok ys → ys.length ≤ xs.length
  | [], ys, h => by cases h; exact Nat.le_refl _
  | x :: xs, ys, h => by
    unfold compL at h
    split at h
    · cases hb : c _ with
      | bad => rw [hb] at h; cases h
      | xc => rw [hb] at h; cases h
      | ok b =>
        rw [hb, Res.nox_ok, Res.bind_ok] at h
        cases b with
        | false => exact Nat.le_succ_of_le (compL_le h)
        | true =>
          simp only [if_true] at h
          cases hg : g _ with
          | bad => rw [hg] at h; cases h
          | xc => rw [hg] at h; cases h
          | ok y =>
            rw [hg, Res.nox_ok, Res.bind_ok] at h
            cases hk : compL t is c g ρ xs with
            | bad => rw [hk] at h; cases h
            | xc => rw [hk] at h; cases h
            | ok zs => rw [hk] at h; cases h; exact Nat.succ_le_succ (compL_le hk)
    · cases h
theorem compL_nox {t : D → Option (List D)} {is : List Nat} {c : GT} {g : GE} {ρ : List (Option D)} {n : Str} {fs : List (Str × D)} : ∀ {xs : List FD}, compL t is c g ρ xs ≠ .xc n fs
  | [], h => by cases h
  | x :: xs, h => by
    unfold compL at h
    split at h
    · cases hb : c _ with
      | bad => rw [hb] at h; cases h
      | xc => rw [hb] at h; cases h
      | ok b =>
        rw [hb, Res.nox_ok, Res.bind_ok] at h
        cases b with
        | false => exact compL_nox h
        | true =>
          simp only [if_true] at h
          cases hg : g _ with
          | bad => rw [hg] at h; cases h
          | xc => rw [hg] at h; cases h
          | ok y =>
            rw [hg, Res.nox_ok, Res.bind_ok] at h
            cases hk : compL t is c g ρ xs with
            | bad => rw [hk] at h; cases h
            | xc => exact compL_nox hk
            | ok zs => rw [hk] at h; cases h
    · cases h
/-- what a comprehension's reading wants -/
theorem tLc_of {σ : L2.St} {H : Hp} {k : GA} {wi : TI} {g : TG} {tt : TT} {te : TE} {own is : List Nat} {t : D → Option (List D)} {c : GT} {ge : GE} {Q : VK}
    (hw : ∀ σ H R, tI (Md.of X) W k σ H R → wi σ H R) (tg : Tgt X.K g is t) (hio : ∀ i ∈ is, i ∈ own) (ht : ∀ σ H Q, tT (Md.of X) W0 c σ H Q → tt σ H Q) (he : ∀ σ H Q, tE (Md.of X) W0 ge σ H Q → te σ H Q)
    (h : tE (Md.of X) W (gComp own is k t c ge) σ H Q) : tLc wi g tt te own σ H Q := by
  obtain ⟨H0, ρ, hs, hr, q⟩ := h
  refine hw _ _ _ ⟨H0, ρ, hs, hr, ?_⟩
  have q : Out (Md.of X) W σ H0 H ((k ρ).bind _) _ := q
  cases hk : k ρ with
  | bad => rw [hk] at q; exact q.elim
  | xc n fs => rw [hk] at q; exact q
  | ok xs =>
    rw [hk] at q
    intro J H1 H01 e wk Dd hD
    have q : Out (Md.of X) W σ H0 H (if xs.length ≤ sizeLine then _ else _) _ := q
    split at q
    · rename_i hz
      cases hcr : compL t is c ge (wipeD ρ own) xs with
      | bad => rw [hcr] at q; exact q.elim
      | xc n fs => exact absurd hcr compL_nox
      | ok ys =>
        rw [hcr] at q
        have q : Fin X.K H0 H (mkL ys) Q := q
        exact comp_core (M := Md.of X) wk tg hio ht he hz hcr (hr.mono e.s0) e.s1 e.s hD (fun H' H0' vs F ex hDv sh fr nF d0 =>
          comp_end q (Nat.le_trans (compL_le hcr) hz) ⟨e.s0.trans ex.s0, ex.s1, ex.s, fun p h1 h2 => by
            by_cases hp : H01 p = none
            · exact ex.new p hp h2
            · exact e.new p h1 hp⟩ hDv sh fr nF d0 (e.s.free hD)) (fun p h => h)
    · exact q.elim
/-- the tests of a comprehension -/
structure Tst (X : Cx) (ifs : List Expr) (c : GT) : Prop where
  ok : ∃ tt, (∀ σ H Q, tT (Md.of X) W0 c σ H Q → tt σ H Q) ∧ PTs X ifs tt
theorem ev_comp {elt tg iter : Expr} {ifs : List Expr} {scope : Scope} {own : List (Str × Nat)} {pos : Pos} {g : TG} {is : List Nat} {t : D → Option (List D)} {k : GA} {c : GT} {ge : GE} {tt : TT} (hc : X.calm = true) (hN : X.N.Nodup) (hi : PI X tg iter (tI (Md.of X) W k)) (ok : BlkOk X.N X.env.scope scope own)
    (tgt : Tgt X.K g is t) (hio : ∀ i ∈ is, i ∈ own.map (·.2))
    (hg : ∀ (s : Shared) (H : Hp) (C : Addr) (cl : List (Str × Addr)) (fp : List Addr), PG (X.blk s H scope (compEnvC scope cl C X.env) fp) tg g)
    (htt : ∀ σ H Q, tT (Md.of X) W0 c σ H Q → tt σ H Q) (ht : ∀ (s : Shared) (H : Hp) (C : Addr) (cl : List (Str × Addr)) (fp : List Addr), PTs (X.blk s H scope (compEnvC scope cl C X.env) fp) ifs tt)
    (he : ∀ (s : Shared) (H : Hp) (C : Addr) (cl : List (Str × Addr)) (fp : List Addr), PE (X.blk s H scope (compEnvC scope cl C X.env) fp) elt (tE (Md.of X) W0 ge)) (hs : ∀ x, foldedSetIterable iter X.env x = pure x := by intro _; rfl) :
    PE X (.ListComp elt [⟨tg, iter, ifs, 0⟩] scope pos) (tE (Md.of X) W (gComp (own.map (·.2)) is k t c ge)) :=
  (pe_lc hc hN hi ok hg ht he hs).imp fun σ H Q q => tLc_of (fun _ _ _ x => x) tgt hio htt (fun _ _ _ x => x) q
theorem tt_yes : ∀ σ H Q, tT (Md.of X) W0 cYes σ H Q → tYes σ H Q := fun σ H Q ⟨H0, ρ, hs, hr, q⟩ => q H H0 (Ext.refl hs)
/-- y = [..] -/
theorem ss_setLc {i : Nat} {y : Str} {py : Pos} {elt tg iter : Expr} {ifs : List Expr} {scope : Scope} {own : List (Str × Nat)} {pos spos : Pos} {vs : List Nat} {g : TG} {is : List Nat} {t : D → Option (List D)} {k : GA} {c : GT} {ge : GE} {tt : TT} (hc : X.calm = true) (hN : X.N.Nodup) (hy : X.N[i]? = some y) (hyl : X.env.scope.names.lookup y = some .local)
    (hsw : swapsWith (.ListComp elt [⟨tg, iter, ifs, 0⟩] scope pos) (some (.Name y py)) spos.line X.env = pure true) (hi : PI X tg iter (tI (Md.of X) W k)) (ok : BlkOk X.N X.env.scope scope own)
    (tgt : Tgt X.K g is t) (hio : ∀ i ∈ is, i ∈ own.map (·.2))
    (hg : ∀ (s : Shared) (H : Hp) (C : Addr) (cl : List (Str × Addr)) (fp : List Addr), PG (X.blk s H scope (compEnvC scope cl C X.env) fp) tg g)
    (htt : ∀ σ H Q, tT (Md.of X) W0 c σ H Q → tt σ H Q) (ht : ∀ (s : Shared) (H : Hp) (C : Addr) (cl : List (Str × Addr)) (fp : List Addr), PTs (X.blk s H scope (compEnvC scope cl C X.env) fp) ifs tt)
    (he : ∀ (s : Shared) (H : Hp) (C : Addr) (cl : List (Str × Addr)) (fp : List Addr), PE (X.blk s H scope (compEnvC scope cl C X.env) fp) elt (tE (Md.of X) W0 ge)) (hs : ∀ x, foldedSetIterable iter X.env x = pure x := by intro _; rfl) :
    PS X (.Assign [.Name y py] (.ListComp elt [⟨tg, iter, ifs, 0⟩] scope pos) spos) (tS (Md.of X) W (gSet i vs (gComp (own.map (·.2)) is k t c ge))) :=
  ss_asg ((ps_setLc hc hN hy hyl hsw hi ok hg ht he hs).imp fun D σ H (q : tE (Md.of X) W _ σ H _) => (tLc_of (fun _ _ _ x => x) tgt hio htt (fun _ _ _ x => x) q : tLc _ _ _ _ _ σ H _))

/-! ### for x in e: body -/
def forL (t : D → Option (List D)) (is : List Nat) (g : GS) : List FD → GS
  | [], ρ => .nx ρ
  | x :: xs, ρ => match t x.2 with
    | some as => match g (setsF ρ is as) with
      | .nx ρ' => forL t is g xs ρ'
      | .ct ρ' => forL t is g xs ρ'
      | .bk ρ' => .nx ρ'
      | o => o
    | none => .bad
def gFor (vs is : List Nat) (k : GA) (t : D → Option (List D)) (g : GS) : GS := fun ρ => viaE vs (k (viewF vs 0 ρ)) ρ fun xs => forL t is g xs (leakF vs 0 ρ)
theorem EnvAt.sets {K : PySem.W.Frag} : ∀ {is : List Nat} {as : List D} {ws : List V} {σ : L2.St} {ρ : DE} {H H0 : Hp} {F : Nat → List Addr}, EnvAt K B σ ρ H H0 F → Reps K H0 as ws → ∃ F', EnvAt K B (setsV σ is ws) (setsF ρ is as) H H0 F'
  | [], as, ws, σ, ρ, H, H0, F, e, r => by unfold setsV setsF; exact ⟨F, e⟩
  | i :: is, [], ws, σ, ρ, H, H0, F, e, r => by cases r; exact ⟨F, e⟩
  | i :: is, d :: ds, _, σ, ρ, H, H0, F, e, ⟨v, t, ev, r1, r2⟩ => by
    subst ev
    show ∃ F', EnvAt K B (setsV (σ.set i (some v)) is t) (setsF (ρ.set i (some (sh d))) is ds) H H0 F'
    exact EnvAt.sets (e.set (i := i) (x := sh d) (sh_ok r1) FrB.nil fun j _ p hp => absurd hp (by simp)) r2
theorem EnvAt.sub {K : PySem.W.Frag} {B' : Bs} {σ : L2.St} {ρ : DE} {H H0 : Hp} {F : Nat → List Addr} (e : EnvAt K B' σ ρ H H0 F) (h : ∀ b ∈ B, b ∈ B') : EnvAt K B σ ρ H H0 F :=
  ⟨e.s0, fun b hb => e.ext b (h b hb), e.sl, fun i => ⟨(e.fr i).1, fun p hp => ⟨fun b hb => ((e.fr i).2 p hp).1 b (h b hb), ((e.fr i).2 p hp).2⟩⟩, e.th, e.dj, e.len⟩
/-- what is shared stays, too -/
theorem EnvAt.ground {K : PySem.W.Frag} {σ : L2.St} {ρ : DE} {H H0 : Hp} {F : Nat → List Addr} (e : EnvAt K B σ ρ H H0 F) : EnvAt K ((H0, H0) :: B) σ ρ H H0 F := by
  refine ⟨e.s0, fun b hb => ?_, e.sl, fun i => ⟨(e.fr i).1, fun p hp => ⟨fun b hb => ?_, ((e.fr i).2 p hp).2⟩⟩, e.th, e.dj, e.len⟩
  · rcases List.mem_cons.mp hb with rfl | hb
    · exact ⟨Same.refl _, e.s0, e.s0, fun p h1 _ => h1⟩
    · exact e.ext b hb
  · rcases List.mem_cons.mp hb with rfl | hb
    · exact ((e.fr i).2 p hp).2
    · exact ((e.fr i).2 p hp).1 b hb
theorem OutS.more {M : Md} {B' : Bs} {D : Ends} {o : Fo} (q : OutS M W B D o) (h : ∀ b ∈ B, b ∈ B') : OutS M W B' D o := by
  cases o with
  | nx ρ => exact fun σ H ⟨H0, F, e⟩ => q σ H ⟨H0, F, e.sub h⟩
  | bk ρ => exact fun σ H ⟨H0, F, e⟩ => q σ H ⟨H0, F, e.sub h⟩
  | ct ρ => exact fun σ H ⟨H0, F, e⟩ => q σ H ⟨H0, F, e.sub h⟩
  | rt x => exact fun v H H0 F s ex sx f => q v H H0 F s (fun b hb => ex b (h b hb)) sx ⟨f.1, fun p hp => ⟨fun b hb => (f.2 p hp).1 b (h b hb), (f.2 p hp).2⟩⟩
  | xc c fs ρ => exact fun C d σ H H0 F hm e xf => q C d σ H H0 F hm (e.sub h) xf
  | bad => exact q
/-- the loop, from a walk on -/
theorem for_core {M : Md} {J : It} {H01 : Hp} {g : TG} {tb : TS} {is : List Nat} {t : D → Option (List D)} {gb : GS} {D' : Ends} {xs : List FD} {σ : L2.St} {ρ : DE} {H1 : Hp} {F : Nat → List Addr}
    (wk : Walks M.K J H01 xs) (tg : Tgt M.K g is t) (hb : ∀ D σ H, tS M W gb D σ H → tb D σ H) (e : EnvAt M.K B σ ρ H1 H01 F) (hq : OutS M W B D' (forL t is gb xs ρ)) :
    ∃ Wv : Nat → Nat → L2.St → Hp → Prop, (∃ m, Wv 0 m σ H1) ∧ ∀ i m σ H, Wv i m σ H →
      (J.stop i H ∧ D'.nx σ H) ∨ (J.go i H ∧ ∃ N : L2.St → Hp → Prop, (∀ σ' H', N σ' H' → ∃ m', m' < m ∧ Wv (i + 1) m' σ' H') ∧ ∀ x H', J.yld i H x H' → g x σ H' fun σ2 H2 => tb { nx := N, rt := D'.rt, bk := D'.nx, ct := N } σ2 H2) := by
  have inc : ∀ b ∈ B, b ∈ (H01, H01) :: B := fun b hb => List.mem_cons_of_mem _ hb
  let Pv : Nat → L2.St → Hp → Prop := fun i σ H => i ≤ xs.length ∧ ∃ ρ' H0' F', EnvAt M.K ((H01, H01) :: B) σ ρ' H H0' F' ∧ OutS M W B D' (forL t is gb (xs.drop i) ρ')
  refine ⟨fun i m σ H => m = xs.length - i ∧ Pv i σ H, ⟨xs.length, by simp, Nat.zero_le _, ρ, H01, F, e.ground, hq⟩, ?_⟩
  rintro i m σ H ⟨rfl, hi, ρ', H0', F', e', q⟩
  have s0 : Same H01 H0' := (e'.ext _ List.mem_cons_self).s0
  have sm : Same H01 H := s0.trans e'.s0
  by_cases hlt : i < xs.length
  · refine .inr ⟨wk.go i H hlt sm, Pv (i + 1), fun σ' H' p => ⟨xs.length - (i + 1), by omega, rfl, p⟩, fun x H' hy => ?_⟩
    have hx : xs[i]? = some xs[i] := List.getElem?_eq_getElem hlt
    obtain ⟨G, sH, sx, fx⟩ := wk.yld i _ H x H' hx sm hy
    rw [List.drop_eq_getElem_cons hlt] at q
    unfold forL at q
    split at q
    · rename_i as has
      have k := e'.keep sH
      have zG : ∀ p ∈ G, (∀ b ∈ (H01, H01) :: B, b.2 p = none) ∧ H0' p = none := fun p hp => ⟨e'.free (fx.2 p hp).1, e'.s0.free (fx.2 p hp).1⟩
      have dG : ∀ j, ∀ p ∈ G, p ∉ F' j := fun j p hp h => e'.th j p h (fx.2 p hp).1
      have k2 := k.addG zG dG
      have r2 : Rep M.K (addF H0' H' G) xs[i].2 x := by
        have := sx.rep fun p hp => (fx.2 p hp).2
        refine Rep.mono (fun b o q => ?_) _ _ this
        by_cases hb : b ∈ G
        · rw [addF_in hb] at q ⊢; exact q
        · rw [addF_out hb] at q ⊢; exact s0 b o q
      refine tg.run xs[i].2 as x σ H' (addF H0' H' G) _ has k2.s0 r2 fun ws rw hlen => ?_
      obtain ⟨F3, e3⟩ := EnvAt.sets (is := is) k2 rw
      refine hb _ _ _ ⟨_, _, ⟨_, _, e3⟩, ?_⟩
      cases ho : gb (setsF ρ' is as) with
      | nx ρ2 =>
        rw [ho] at q
        exact fun σ4 H4 ⟨H04, F4, e4⟩ => ⟨hlt, ρ2, H04, F4, e4, q⟩
      | ct ρ2 =>
        rw [ho] at q
        exact fun σ4 H4 ⟨H04, F4, e4⟩ => ⟨hlt, ρ2, H04, F4, e4, q⟩
      | bk ρ2 =>
        rw [ho] at q
        exact fun σ4 H4 ⟨H04, F4, e4⟩ => q σ4 H4 ⟨H04, F4, e4.sub inc⟩
      | rt x2 =>
        rw [ho] at q
        have := OutS.more (B' := (H01, H01) :: B) q inc
        exact this
      | xc c fs ρ2 =>
        rw [ho] at q
        have := OutS.more (B' := (H01, H01) :: B) q inc
        exact this
      | bad => rw [ho] at q; exact q
    · exact q.elim
  · have hi' : i = xs.length := by omega
    refine .inl ⟨wk.stop i H (by omega) sm, ?_⟩
    rw [hi', List.drop_length] at q
    exact q σ H ⟨H0', F', e'.sub inc⟩
theorem tFor_of {σ : L2.St} {H : Hp} {vs is : List Nat} {k : GA} {wi : TI} {g : TG} {tb : TS} {t : D → Option (List D)} {gb : GS} {D' : Ends} (hw : ∀ σ H R, tI (Md.of X) W k σ H R → wi σ H R) (tg : Tgt X.K g is t)
    (hb : ∀ D σ H, tS (Md.of X) W gb D σ H → tb D σ H) (h : tS (Md.of X) W (gFor vs is k t gb) D' σ H) : tFor wi g tb D' σ H := by
  obtain ⟨B, ρ, ⟨H0, F, e⟩, q⟩ := h
  refine hw _ _ _ ⟨_, _, e.viewS vs, e.view vs, via (K := X.K) e q fun xs _ qx => fun J H1 H01 ex wk => ?_⟩
  exact for_core (M := Md.of X) wk tg hb (e.leak vs ex) qx
theorem ss_for {tg iter : Expr} {body : List Stmt} {pos : Pos} {vs is : List Nat} {k : GA} {g : TG} {t : D → Option (List D)} {gb : GS} (hp : PassesOwn (model X.prog X.w) X.A X.env X.xe) (hc : X.calm = true) (hi : PI X tg iter (tI (Md.of X) W k)) (hg : PG X tg g) (tgt : Tgt X.K g is t)
    (hb : PSs X body (tS (Md.of X) W gb)) (hs : ∀ x, foldedSetIterable iter X.env x = pure x := by intro _; rfl) : PS X (.For tg iter body [] pos) (tS (Md.of X) W (gFor vs is k t gb)) :=
  (ps_for hp hc hi hg hb hs).imp fun D σ H q => tFor_of (fun _ _ _ x => x) tgt (fun _ _ _ x => x) q
end
end VL
end

section
set_option Elab.async false
set_option maxRecDepth 100000
set_option linter.all false
/-! The value layer, 11: dicts that are walked. -/
namespace VL
open PySem PySem.Spec PyProof.Rows L2
def lk (d : Addr) (o : Obj) (X : Hp) : Hp := fun p => if p = d then (X p).map (HO.frz o) else X p
def ulk (d : Addr) (u : HO) (X : Hp) : Hp := fun p => if p = d then (X p).map (fun _ => u) else X p
theorem lk_at {d : Addr} {o : Obj} {X : Hp} : lk d o X d = (X d).map (HO.frz o) := if_pos rfl
theorem lk_ne {d p : Addr} {o : Obj} {X : Hp} (h : p ≠ d) : lk d o X p = X p := if_neg h
theorem ulk_at {d : Addr} {u : HO} {X : Hp} : ulk d u X d = (X d).map (fun _ => u) := if_pos rfl
theorem ulk_ne {d p : Addr} {u : HO} {X : Hp} (h : p ≠ d) : ulk d u X p = X p := if_neg h
theorem lk_upd {d : Addr} {o : Obj} {u : HO} {X : Hp} (h : X d = some u) : lk d o X = upd X d (.frz o u) := by
  funext p
  by_cases hp : p = d
  · subst hp; rw [lk_at, upd_same, h]; rfl
  · rw [lk_ne hp, upd_ne hp]
theorem ulk_upd {d : Addr} {u w : HO} {X : Hp} (h : X d = some w) : ulk d u X = upd X d u := by
  funext p
  by_cases hp : p = d
  · subst hp; rw [ulk_at, upd_same, h]; rfl
  · rw [ulk_ne hp, upd_ne hp]
theorem lk_none {d p : Addr} {o : Obj} {X : Hp} : lk d o X p = none ↔ X p = none := by
  unfold lk; split <;> simp
theorem ulk_none {d p : Addr} {u : HO} {X : Hp} : ulk d u X p = none ↔ X p = none := by
  unfold ulk; split <;> simp
theorem lk_same {d : Addr} {o : Obj} {A C : Hp} (h : Same A C) : Same (lk d o A) (lk d o C) := fun b w e => by
  by_cases hb : b = d
  · subst hb
    rw [lk_at] at e ⊢
    obtain ⟨x, hx, rfl⟩ := Option.map_eq_some_iff.mp e
    rw [h _ _ hx]; rfl
  · rw [lk_ne hb] at e ⊢; exact h b w e
theorem ulk_same {d : Addr} {u : HO} {A C : Hp} (h : Same A C) : Same (ulk d u A) (ulk d u C) := fun b w e => by
  by_cases hb : b = d
  · subst hb
    rw [ulk_at] at e ⊢
    obtain ⟨x, hx, rfl⟩ := Option.map_eq_some_iff.mp e
    rw [h _ _ hx]; rfl
  · rw [ulk_ne hb] at e ⊢; exact h b w e
/-- X knows of d nothing but u -/
def Onl (d : Addr) (u : HO) (X : Hp) : Prop := ∀ w, X d = some w → w = u
theorem Onl.of {d : Addr} {u : HO} {A C : Hp} (h : Same A C) (hc : C d = some u) : Onl d u A := fun w e => by
  have := h _ _ e
  rw [hc] at this; exact (Option.some.inj this).symm
theorem same_unl {d : Addr} {o : Obj} {u : HO} {A C : Hp} (h : Same (lk d o A) C) (n : Onl d u A) : Same A (ulk d u C) := fun b w e => by
  by_cases hb : b = d
  · subst hb
    rw [ulk_at, h b (.frz o w) (by rw [lk_at, e]; rfl), n w e]; rfl
  · rw [ulk_ne hb]
    exact h b w (by rw [lk_ne hb]; exact e)
theorem ext_unl {d : Addr} {o : Obj} {u : HO} {A0 A C0 C : Hp} (h : Ext (lk d o A0) (lk d o A) C0 C) (n0 : Onl d u A0) (n : Onl d u A) : Ext A0 A (ulk d u C0) (ulk d u C) :=
  ⟨same_unl h.s0 n0, ulk_same h.s1, same_unl h.s n, fun p h1 h2 => by
    have := h.new p (lk_none.mpr h1) (fun z => h2 (ulk_none.mpr z))
    exact lk_none.mp this⟩
theorem kp_lk {d : Addr} {o : Obj} {kvs : List (Key × V)} {X : Hp} (h : Onl d (.dK kvs) X) : Kp X (lk d o X) := by
  refine ⟨fun b xs e => ?_, fun b xs e => ?_, fun b xs e => ?_, fun b xs e => ?_, fun b C dx fs e => ?_⟩
  · rw [lk_ne (fun z => by subst z; cases h _ e)]; exact e
  · rcases e with e | ⟨o', e⟩
    · exact .inl (by rw [lk_ne (fun z => by subst z; cases h _ e)]; exact e)
    · exact .inr ⟨o', by rw [lk_ne (fun z => by subst z; cases h _ e)]; exact e⟩
  · rcases e with e | ⟨o', e⟩
    · exact .inl (by rw [lk_ne (fun z => by subst z; cases h _ e)]; exact e)
    · exact .inr ⟨o', by rw [lk_ne (fun z => by subst z; cases h _ e)]; exact e⟩
  · rcases e with e | ⟨o', e⟩
    · by_cases hb : b = d
      · subst hb; exact .inr ⟨o, by rw [lk_at, e]; rfl⟩
      · exact .inl (by rw [lk_ne hb]; exact e)
    · exact .inr ⟨o', by rw [lk_ne (fun z => by subst z; cases h _ e)]; exact e⟩
  · rw [lk_ne (fun z => by subst z; cases h _ e)]; exact e
theorem kp_ulk {d : Addr} {o : Obj} {kvs : List (Key × V)} {X : Hp} (h : X d = some (.frz o (.dK kvs))) : Kp X (ulk d (.dK kvs) X) := by
  refine ⟨fun b xs e => ?_, fun b xs e => ?_, fun b xs e => ?_, fun b xs e => ?_, fun b C dx fs e => ?_⟩
  · rw [ulk_ne (fun z => by subst z; rw [h] at e; cases e)]; exact e
  · rcases e with e | ⟨o', e⟩
    · exact .inl (by rw [ulk_ne (fun z => by subst z; rw [h] at e; cases e)]; exact e)
    · exact .inr ⟨o', by rw [ulk_ne (fun z => by subst z; rw [h] at e; cases e)]; exact e⟩
  · rcases e with e | ⟨o', e⟩
    · exact .inl (by rw [ulk_ne (fun z => by subst z; rw [h] at e; cases e)]; exact e)
    · exact .inr ⟨o', by rw [ulk_ne (fun z => by subst z; rw [h] at e; cases e)]; exact e⟩
  · by_cases hb : b = d
    · subst hb
      rcases e with e | ⟨o', e⟩
      · rw [h] at e; cases e
      · rw [h] at e; cases e
        exact .inl (by rw [ulk_at, h]; rfl)
    · rcases e with e | ⟨o', e⟩
      · exact .inl (by rw [ulk_ne hb]; exact e)
      · exact .inr ⟨o', by rw [ulk_ne hb]; exact e⟩
  · rw [ulk_ne (fun z => by subst z; rw [h] at e; cases e)]; exact e
/-- a value's reading under the lock -/
theorem Fin.lock {K : PySem.W.Frag} {H0 H : Hp} {x : FD} {Q : VK} {d : Addr} {o : Obj} {kvs : List (Key × V)} (f : Fin K H0 H x Q) (h0 : H0 d = some (.dK kvs)) (h : H d = some (.dK kvs)) :
    Fin K (lk d o H0) (lk d o H) x fun v H' => H' d = some (.frz o (.dK kvs)) ∧ Q v (upd H' d (.dK kvs)) := fun v H' H0' F e s fr => by
  have d0 : H0' d = some (.frz o (.dK kvs)) := e.s0 _ _ (by rw [lk_at, h0]; rfl)
  have dH : H' d = some (.frz o (.dK kvs)) := e.s1 _ _ d0
  refine ⟨dH, ?_⟩
  rw [← ulk_upd dH]
  have nd : ∀ p ∈ F, p ≠ d := fun p hp z => by
    subst z
    have := (fr.2 _ hp).1
    rw [lk_none, h] at this; cases this
  refine f v _ (ulk d (.dK kvs) H0') F (ext_unl e (fun w q => by rw [h0] at q; exact (Option.some.inj q).symm) (fun w q => by rw [h] at q; exact (Option.some.inj q).symm)) (s.monoK (kp_ulk d0) fun p hp w q => by rw [ulk_ne (nd p hp)]; exact q) ⟨fr.1, fun p hp => ⟨lk_none.mp (fr.2 p hp).1, ulk_none.mpr (fr.2 p hp).2⟩⟩
section
variable {X : Cx} {W : WX} {B : Bs}
theorem pe_or2 {e : Expr} {t u : TE} (h : PE X e t) (h' : PE X e u) : PE X e (fun σ H Q => t σ H Q ∨ u σ H Q) := ⟨fun pins s σ H Q I q => by
  rcases q with q | q
  · exact h.run pins s σ H Q I q
  · exact h'.run pins s σ H Q I q⟩
theorem ps_or2 {e : Stmt} {t u : TS} (h : PS X e t) (h' : PS X e u) : PS X e (fun D σ H => t D σ H ∨ u D σ H) := ⟨fun pins s σ H Q I q => by
  rcases q with q | q
  · exact h.run pins s σ H Q I q
  · exact h'.run pins s σ H Q I q⟩
/-- the keys, the values, the entries of what slot i holds -/
def keysD (kds : List (Key × D)) : List FD := kds.map fun kv => (.T, kD kv.1)
def valsD (kds : List (Key × D)) : List FD := kds.map fun kv => sh kv.2
def itemsD (kds : List (Key × D)) : List FD := kds.map fun kv => (if kv.2.atom then .T else .R, .tup [kD kv.1, kv.2])
theorem tree_key {H : Hp} (k : Key) : Tree H (kD k) (kV k) [] := by
  cases k <;> exact ⟨rfl, rfl⟩
theorem rep_key {K : PySem.W.Frag} {H : Hp} (k : Key) : Rep K H (kD k) (kV k) := by
  cases k <;> rfl
theorem RepK.get {K : PySem.W.Frag} {H : Hp} : ∀ {ds : List (Key × D)} {vs : List (Key × V)} {i : Nat} {kv : Key × D}, RepK K H ds vs → ds[i]? = some kv → ∃ v, vs[i]? = some (kv.1, v) ∧ Rep K H kv.2 v
  | [], _, _, _, _, e => by simp at e
  | (k, d) :: ds, _, 0, kv, ⟨v, t, e, s, q⟩, e' => by subst e; simp at e'; subst e'; exact ⟨v, rfl, s⟩
  | (k, d) :: ds, _, i + 1, kv, ⟨v, t, e, s, q⟩, e' => by
    subst e
    obtain ⟨u, h1, h2⟩ := RepK.get (i := i) (kv := kv) q (by simpa using e')
    exact ⟨u, by simpa using h1, h2⟩
theorem walks_keys {K : PySem.W.Frag} {H0 : Hp} {d : Addr} {o : Obj} {kvs : List (Key × V)} {kds : List (Key × D)} (h : H0 d = some (.frz o (.dK kvs))) (r : RepK K H0 kds kvs) : Walks K (Itk d o kvs) H0 (keysD kds) := by
  have hl : (keysD kds).length = kvs.length := by unfold keysD; rw [List.length_map, r.length]
  refine ⟨fun i H hi hs => ⟨hs _ _ h, by rw [← hl]; exact hi⟩, fun i H hi hs => ⟨hs _ _ h, by rw [← hl]; exact hi⟩, fun i x H v H' hx hs ⟨e, k, w, hk, ev⟩ => ?_⟩
  subst e; subst ev
  unfold keysD at hx
  rw [List.getElem?_map] at hx
  obtain ⟨kv, hkv, rfl⟩ := Option.map_eq_some_iff.mp hx
  obtain ⟨u, hu, _⟩ := r.get hkv
  rw [hk] at hu; cases hu
  exact ⟨[], Same.refl _, tree_key _, FrF.nil⟩
theorem walks_vals {K : PySem.W.Frag} {H0 : Hp} {d : Addr} {o : Obj} {kvs : List (Key × V)} {kds : List (Key × D)} (h : H0 d = some (.frz o (.dK kvs))) (r : RepK K H0 kds kvs)
    (hy : ∀ i H x H', (Itd d o kvs).yld i H x H' → H' = H ∧ ∃ k, kvs[i]? = some (k, x)) (hgo : ∀ i H, (Itd d o kvs).go i H ↔ (H d = some (.frz o (.dK kvs)) ∧ i < kvs.length)) (hst : ∀ i H, (Itd d o kvs).stop i H ↔ (H d = some (.frz o (.dK kvs)) ∧ kvs.length ≤ i)) : Walks K (Itd d o kvs) H0 (valsD kds) := by
  have hl : (valsD kds).length = kvs.length := by unfold valsD; rw [List.length_map, r.length]
  refine ⟨fun i H hi hs => (hgo i H).mpr ⟨hs _ _ h, by rw [← hl]; exact hi⟩, fun i H hi hs => (hst i H).mpr ⟨hs _ _ h, by rw [← hl]; exact hi⟩, fun i x H v H' hx hs y => ?_⟩
  obtain ⟨e, k, hk⟩ := hy i H v H' y
  subst e
  unfold valsD at hx
  rw [List.getElem?_map] at hx
  obtain ⟨kv, hkv, rfl⟩ := Option.map_eq_some_iff.mp hx
  obtain ⟨u, hu, ru⟩ := r.get hkv
  rw [hk] at hu; cases hu
  exact ⟨[], Same.refl _, sh_ok ru, FrF.nil⟩
theorem walks_items {K : PySem.W.Frag} {H0 : Hp} {d : Addr} {o : Obj} {kvs : List (Key × V)} {kds : List (Key × D)} (h : H0 d = some (.frz o (.dK kvs))) (r : RepK K H0 kds kvs) : Walks K (Iti d o kvs) H0 (itemsD kds) := by
  have hl : (itemsD kds).length = kvs.length := by unfold itemsD; rw [List.length_map, r.length]
  refine ⟨fun i H hi hs => ⟨hs _ _ h, by rw [← hl]; exact hi⟩, fun i H hi hs => ⟨hs _ _ h, by rw [← hl]; exact hi⟩, fun i x H v H' hx hs ⟨T, k, w, hk, e1, hT, e2⟩ => ?_⟩
  subst e1; subst e2
  unfold itemsD at hx
  rw [List.getElem?_map] at hx
  obtain ⟨kv, hkv, rfl⟩ := Option.map_eq_some_iff.mp hx
  obtain ⟨u, hu, ru⟩ := r.get hkv
  rw [hk] at hu; cases hu
  refine ⟨[T], fun b o q => by rw [upd_ne (ne_of_none q hT)]; exact q, ?_, ⟨by simp, fun p hp => by rw [List.mem_singleton.mp hp]; exact ⟨hT, hs.free hT⟩⟩⟩
  have two : (2 : Nat) ≤ sizeLine := by decide
  cases ha : kv.2.atom with
  | true => exact ⟨T, _, [], rfl, rfl, upd_same, two, _, _, [], [], rfl, rfl, tree_key _, _, _, [], [], rfl, rfl, ru.tree ha, rfl, rfl⟩
  | false => exact ⟨T, _, rfl, rfl, upd_same, _, rfl, two, _, _, rfl, rep_key _, _, _, rfl, ru, rfl⟩
/-- the entries that slot i's dict holds -/
def gDct (i : Nat) (f : List (Key × D) → List FD) : GA := fun ρ => match ρ[i]? with
  | some (some (.dct kds)) => .ok (f kds)
  | _ => .bad
/-- what walks a dict that is locked: from the dict's address on -/
def WkD (K : PySem.W.Frag) (wi : TI) (i : Nat) (f : List (Key × D) → List FD) : Prop := ∀ σ H R d o kvs, σ[i]? = some (some (.ref d)) → H d = some (.frz o (.dK kvs)) → (∀ J, (∀ H0 kds, H0 d = some (.frz o (.dK kvs)) → RepK K H0 kds kvs → Walks K J H0 (f kds)) → R J H) → wi σ H R
theorem wk_keys {K : PySem.W.Frag} {i : Nat} : WkD K (iKeys (tVar i)) i keysD := fun σ H R d o kvs h1 h2 q => ⟨.ref d, h1, d, o, rfl, .inl ⟨kvs, h2, q _ fun H0 kds h r => walks_keys h r⟩⟩
theorem wk_items {K : PySem.W.Frag} {i : Nat} : WkD K (iItems (tVar i)) i itemsD := fun σ H R d o kvs h1 h2 q => ⟨.ref d, h1, d, o, kvs, rfl, h2, q _ fun H0 kds h r => walks_items h r⟩
theorem wk_vals {K : PySem.W.Frag} {i : Nat} : WkD K (iVals (tVar i)) i valsD := fun σ H R d o kvs h1 h2 q => ⟨.ref d, h1, d, o, kvs, rfl, h2, q _ fun H0 kds h r => walks_vals h r (fun i H x H' y => by
  first
    | exact ⟨y.1, let ⟨k, h⟩ := y.2; ⟨k, h⟩⟩
    | exact y) (fun i H => Iff.rfl) (fun i H => Iff.rfl)⟩
/-- [e for k in d if c]: under the lock, or where another walk holds it -/
theorem ev_compD {elt tg iter : Expr} {ifs : List Expr} {scope : Scope} {own : List (Str × Nat)} {pos : Pos} {g : TG} {is : List Nat} {t : D → Option (List D)} {i : Nat} {f : List (Key × D) → List FD} {wi : TI} {c : GT} {ge : GE} {tt : TT} (hc : X.calm = true) (hN : X.N.Nodup) (hi : PI X tg iter wi) (hw : WkD X.K wi i f) (ok : BlkOk X.N X.env.scope scope own)
    (tgt : Tgt X.K g is t) (hio : ∀ i ∈ is, i ∈ own.map (·.2))
    (hg : ∀ (s : Shared) (H : Hp) (C : Addr) (cl : List (Str × Addr)) (fp : List Addr), PG (X.blk s H scope (compEnvC scope cl C X.env) fp) tg g)
    (htt : ∀ σ H Q, tT (Md.of X) W0 c σ H Q → tt σ H Q) (ht : ∀ (s : Shared) (H : Hp) (C : Addr) (cl : List (Str × Addr)) (fp : List Addr), PTs (X.blk s H scope (compEnvC scope cl C X.env) fp) ifs tt)
    (he : ∀ (s : Shared) (H : Hp) (C : Addr) (cl : List (Str × Addr)) (fp : List Addr), PE (X.blk s H scope (compEnvC scope cl C X.env) fp) elt (tE (Md.of X) W0 ge)) (hs : ∀ x, foldedSetIterable iter X.env x = pure x := by intro _; rfl) :
    PE X (.ListComp elt [⟨tg, iter, ifs, 0⟩] scope pos) (tE (Md.of X) W (gComp (own.map (·.2)) is (gDct i f) t c ge)) := by
  have base := pe_lc (pos := pos) hc hN hi ok hg ht he hs
  refine (pe_or2 base (pe_lock base)).imp fun σ H Q ⟨H0, ρ, hs, hr, q⟩ => ?_
  -- the dict of the slot
  have q : Out (Md.of X) W σ H0 H ((gDct i f ρ).bind _) _ := q
  unfold gDct at q
  split at q
  · rename_i kds hk
    obtain ⟨v, hv, d, kvs, rfl, hd, hz, rk⟩ := hr.2 i _ hk
    have q : Out (Md.of X) W σ H0 H (if (f kds).length ≤ sizeLine then _ else _) _ := q
    split at q
    · rename_i hzf
      cases hcr : compL t is c ge (wipeD ρ (own.map (·.2))) (f kds) with
      | bad => rw [hcr] at q; exact q.elim
      | xc n fs => exact absurd hcr compL_nox
      | ok ys =>
        rw [hcr] at q
        have q : Fin X.K H0 H (mkL ys) Q := q
        have go : ∀ (A0 A : Hp) (o : Obj) (Q : VK), Fin X.K A0 A (mkL ys) Q → Same A0 A → RdE X.K σ ρ A0 → RepK X.K A0 kds kvs → A0 d = some (.frz o (.dK kvs)) → tLc wi g tt (tE (Md.of X) W0 ge) (own.map (·.2)) σ A Q := fun A0 A o Q fin hsA rdA rkA hdA => by
          refine hw σ A _ d o kvs hv (hsA _ _ hdA) fun J wk Dd hD => ?_
          exact comp_core (M := Md.of X) (wk A0 kds hdA rkA) tgt hio htt (fun _ _ _ x => x) hzf hcr rdA hsA (Same.refl _) hD (fun H' H0' vs F ex hDv sh fr nF d0 =>
            comp_end fin (Nat.le_trans (compL_le hcr) hzf) ex hDv sh fr nF d0 hD) (fun p h => h)
        rcases hd with hd | ⟨o, hd⟩
        · right
          refine ⟨d, .dK kvs, hs _ _ hd, trivial, fun od => ?_⟩
          rw [← lk_upd (hs _ _ hd)]
          have on : Onl d (.dK kvs) H0 := fun w q => by rw [hd] at q; exact (Option.some.inj q).symm
          exact go (lk d od H0) (lk d od H) od _ (q.lock hd (hs _ _ hd)) (lk_same hs) (hr.monoK (kp_lk on)) (RepK.monoK (kp_lk on) _ _ rk) (by rw [lk_at, hd]; rfl)
        · left
          exact go H0 H o Q q hs hr rk hd
    · exact q.elim
  · exact q.elim
def Fo.nox : Fo → Fo
  | .xc _ _ _ => .bad
  | o => o
def gForD (i : Nat) (vs is : List Nat) (f : List (Key × D) → List FD) (t : D → Option (List D)) (g : GS) : GS := fun ρ => match ρ[i]? with
  | some (some (_, .dct kds)) => if vs.contains i = true then (forL t is g (f kds) (leakF vs 0 ρ)).nox else .bad
  | _ => .bad
def lkB (d : Addr) (o : Obj) (B : Bs) : Bs := B.map fun b => (lk d o b.1, lk d o b.2)
theorem EnvAt.lock {K : PySem.W.Frag} {σ : L2.St} {ρ : DE} {H H0 : Hp} {F : Nat → List Addr} {d : Addr} {o : Obj} {kvs : List (Key × V)} (e : EnvAt K B σ ρ H H0 F) (h0 : H0 d = some (.dK kvs)) : EnvAt K (lkB d o B) σ ρ (lk d o H) (lk d o H0) F := by
  have on : Onl d (.dK kvs) H0 := fun w q => by rw [h0] at q; exact (Option.some.inj q).symm
  have nd : ∀ i, ∀ p ∈ F i, p ≠ d := fun i p hp z => by
    subst z
    have := ((e.fr i).2 _ hp).2
    rw [h0] at this; cases this
  refine ⟨lk_same e.s0, fun b hb => ?_, fun i x hx => ?_, fun i => ⟨(e.fr i).1, fun p hp => ⟨fun b hb => ?_, lk_none.mpr ((e.fr i).2 p hp).2⟩⟩, fun i p hp z => e.th i p hp (lk_none.mp z), e.dj, e.len⟩
  · obtain ⟨c, hc, rfl⟩ := List.mem_map.mp hb
    have x := e.ext c hc
    exact ⟨lk_same x.s0, lk_same x.s1, lk_same x.s, fun p h1 h2 => lk_none.mpr (x.new p (lk_none.mp h1) fun z => h2 (lk_none.mpr z))⟩
  · obtain ⟨v, h1, h2⟩ := e.sl i x hx
    exact ⟨v, h1, h2.monoK (kp_lk on) fun p hp w q => by rw [lk_ne (nd i p hp)]; exact q⟩
  · obtain ⟨c, hc, rfl⟩ := List.mem_map.mp hb
    exact lk_none.mpr (((e.fr i).2 p hp).1 c hc)
theorem EnvAt.unlock {K : PySem.W.Frag} {σ : L2.St} {ρ : DE} {H H0 : Hp} {F : Nat → List Addr} {d : Addr} {o : Obj} {kvs : List (Key × V)} (e : EnvAt K (lkB d o B) σ ρ H H0 F) (h0 : H0 d = some (.frz o (.dK kvs))) (n : ∀ b ∈ B, Onl d (.dK kvs) b.1 ∧ Onl d (.dK kvs) b.2) :
    EnvAt K B σ ρ (upd H d (.dK kvs)) (ulk d (.dK kvs) H0) F := by
  rw [← ulk_upd (e.s0 _ _ h0)]
  have nd : ∀ i, ∀ p ∈ F i, p ≠ d := fun i p hp z => by
    subst z
    have := ((e.fr i).2 _ hp).2
    rw [h0] at this; cases this
  refine ⟨ulk_same e.s0, fun b hb => ?_, fun i x hx => ?_, fun i => ⟨(e.fr i).1, fun p hp => ⟨fun b hb => ?_, ulk_none.mpr ((e.fr i).2 p hp).2⟩⟩, fun i p hp z => e.th i p hp (ulk_none.mp z), e.dj, e.len⟩
  · exact ext_unl (e.ext (lk d o b.1, lk d o b.2) (List.mem_map.mpr ⟨b, hb, rfl⟩)) (n b hb).1 (n b hb).2
  · obtain ⟨v, h1, h2⟩ := e.sl i x hx
    exact ⟨v, h1, h2.monoK (kp_ulk h0) fun p hp w q => by rw [ulk_ne (nd i p hp)]; exact q⟩
  · exact lk_none.mp (((e.fr i).2 p hp).1 (lk d o b.1, lk d o b.2) (List.mem_map.mpr ⟨b, hb, rfl⟩))
theorem ss_forD {tg iter : Expr} {body : List Stmt} {pos : Pos} {i : Nat} {vs is : List Nat} {f : List (Key × D) → List FD} {wi : TI} {g : TG} {t : D → Option (List D)} {gb : GS} (hp : PassesOwn (model X.prog X.w) X.A X.env X.xe) (hc : X.calm = true) (hi : PI X tg iter wi) (hw : WkD X.K wi i f) (hg : PG X tg g) (tgt : Tgt X.K g is t)
    (hb : PSs X body (tS (Md.of X) W gb)) (hs : ∀ x, foldedSetIterable iter X.env x = pure x := by intro _; rfl) : PS X (.For tg iter body [] pos) (tS (Md.of X) W (gForD i vs is f t gb)) := by
  have base := ps_for (pos := pos) hp hc hi hg hb hs
  refine (ps_or2 base (ps_lock base)).imp fun D σ H ⟨B, ρ, ⟨H0, F, e⟩, q⟩ => ?_
  unfold gForD at q
  split at q
  · rename_i fl kds hx
    split at q
    · rename_i hcv
      have iv : i ∈ vs := by simpa using hcv
      have el := e.leak vs (Ext.refl (e.viewS vs))
      obtain ⟨v, hv, sv⟩ := e.sl i _ hx
      have rv := e.repAt sv (.inr iv)
      obtain ⟨d, kvs, rfl, hd, hz, rk⟩ := rv
      generalize hH : addF H0 H (vs.flatMap F) = A0 at el hd rk
      generalize (fun i => if i ∈ vs then [] else F i) = F' at el
      have hF : ∀ o, forL t is gb (f kds) (leakF vs 0 ρ) = o → OutS (Md.of X) W B D o ∧ ∀ n fs r, o ≠ .xc n fs r := fun o ho => by
        rw [ho] at q
        cases o <;> first | exact ⟨q, fun _ _ _ z => by cases z⟩ | exact (show False from q).elim
      rcases hd with hd | ⟨o, hd⟩
      · right
        refine ⟨d, .dK kvs, el.s0 _ _ hd, trivial, fun od => ?_⟩
        rw [← lk_upd (el.s0 _ _ hd)]
        refine hw σ _ _ d od kvs hv (by rw [lk_at, el.s0 _ _ hd]; rfl) fun J wk => ?_
        have e2 := (EnvAt.lock (o := od) el hd).ground
        have ons : ∀ b ∈ B, Onl d (.dK kvs) b.1 ∧ Onl d (.dK kvs) b.2 := fun b hb => ⟨Onl.of (el.ext b hb).s0 hd, Onl.of (el.ext b hb).s (el.s0 _ _ hd)⟩
        have rkl : RepK X.K (lk d od A0) kds kvs := RepK.monoK (kp_lk fun w q => by rw [hd] at q; exact (Option.some.inj q).symm) _ _ rk
        have d0 : (lk d od A0) d = some (.frz od (.dK kvs)) := by rw [lk_at, hd]; rfl
        have sub : ∀ b ∈ lkB d od B, b ∈ (lk d od A0, lk d od A0) :: lkB d od B := fun b hb => List.mem_cons_of_mem _ hb
        refine for_core (M := Md.of X) (W := W) (wk _ kds d0 rkl) tgt (fun _ _ _ x => x) e2 ?_
        have un : ∀ {σ' ρ' H' H0' F''}, EnvAt X.K ((lk d od A0, lk d od A0) :: lkB d od B) σ' ρ' H' H0' F'' → H' d = some (.frz od (.dK kvs)) ∧ EnvAt X.K B σ' ρ' (upd H' d (.dK kvs)) (ulk d (.dK kvs) H0') F'' := fun {σ' ρ' H' H0' F''} e' => by
          have z := (e'.ext _ List.mem_cons_self).s0 _ _ d0
          exact ⟨e'.s0 _ _ z, (e'.sub sub).unlock z ons⟩
        cases ho : forL t is gb (f kds) (leakF vs 0 ρ) with
        | nx ρ2 =>
          obtain ⟨qo, _⟩ := hF _ ho
          exact fun σ4 H4 ⟨H04, F4, e4⟩ => ⟨(un e4).1, qo σ4 _ ⟨_, _, (un e4).2⟩⟩
        | bk ρ2 =>
          obtain ⟨qo, _⟩ := hF _ ho
          exact fun σ4 H4 ⟨H04, F4, e4⟩ => ⟨(un e4).1, qo σ4 _ ⟨_, _, (un e4).2⟩⟩
        | ct ρ2 =>
          obtain ⟨qo, _⟩ := hF _ ho
          exact fun σ4 H4 ⟨H04, F4, e4⟩ => ⟨(un e4).1, qo σ4 _ ⟨_, _, (un e4).2⟩⟩
        | rt x2 =>
          obtain ⟨qo, _⟩ := hF _ ho
          refine fun w H4 H04 F4 s4 x4 sh4 f4 => ?_
          have z := (x4 _ List.mem_cons_self).s0 _ _ d0
          have zH := s4 _ _ z
          refine ⟨zH, ?_⟩
          rw [← ulk_upd zH]
          have nd : ∀ p ∈ F4, p ≠ d := fun p hp h => by
            subst h
            have := (f4.2 _ hp).2
            rw [z] at this; cases this
          refine qo w _ (ulk d (.dK kvs) H04) F4 (ulk_same s4) (fun b hb => ext_unl (x4 (lk d od b.1, lk d od b.2) (sub _ (List.mem_map.mpr ⟨b, hb, rfl⟩))) (ons b hb).1 (ons b hb).2) (sh4.monoK (kp_ulk z) fun p hp u q => by rw [ulk_ne (nd p hp)]; exact q) ⟨f4.1, fun p hp => ⟨fun b hb => ?_, ulk_none.mpr (f4.2 p hp).2⟩⟩
          exact lk_none.mp ((f4.2 p hp).1 (lk d od b.1, lk d od b.2) (sub _ (List.mem_map.mpr ⟨b, hb, rfl⟩)))
        | xc n fs r => exact absurd rfl ((hF _ ho).2 n fs r)
        | bad => exact ((hF _ ho).1 : False)
      · left
        refine hw σ _ _ d o kvs hv (el.s0 _ _ hd) fun J wk => ?_
        refine for_core (M := Md.of X) (W := W) (wk _ kds hd rk) tgt (fun _ _ _ x => x) el ?_
        exact (hF _ rfl).1
    · exact q.elim
  · exact q.elim
end
end VL
end

section
set_option Elab.async false
set_option maxRecDepth 100000
set_option linter.all false
/-! The value layer, 12: defs; more built-ins; raise, try. -/
namespace VL
open PySem PySem.Spec PyProof.Rows L2

/-! ### a def, by its body -/
def enter (n : Nat) (ds : List D) : DE := ds.map (fun d => some (sh d)) ++ List.replicate (n - ds.length) none
def runG (n : Nat) (g : GS) (ds : List D) : Res FD := match g (enter n ds) with
  | .rt x => .ok x
  | .nx _ => .ok (.T, .non)
  | .xc c fs _ => .xc c fs
  | _ => .bad
theorem enter_env {K : PySem.W.Frag} {H0 H : Hp} {N : List Str} {ds : List D} {vs : List V} (hs : Same H0 H) (r : Reps K H0 ds vs) (hl : ds.length ≤ N.length) : EnvAt K [(H0, H)] (L2.start N vs) (enter N.length ds) H H0 (fun _ => []) := by
  refine ⟨hs, fun b hb => ?_, fun i x hx => ?_, fun i => FrB.nil, fun i p hp => absurd hp (by simp), fun i j _ p hp => absurd hp (by simp), ?_⟩
  · rw [List.mem_singleton.mp hb]; exact Ext.refl hs
  · unfold enter at hx
    by_cases hi : i < ds.length
    · rw [List.getElem?_append_left (by simpa using hi), List.getElem?_map] at hx
      obtain ⟨d, hd, e⟩ := Option.map_eq_some_iff.mp hx
      cases e
      obtain ⟨v, hv, rv⟩ := r.get hd
      refine ⟨v, ?_, sh_ok rv⟩
      unfold L2.start
      have hi' : i < vs.length := by rw [← r.length]; exact hi
      rw [List.getElem?_append_left (by simpa using hi'), List.getElem?_map, hv]; rfl
    · rw [List.getElem?_append_right (by simpa using hi), List.getElem?_replicate] at hx
      split at hx <;> cases hx
  · unfold enter L2.start
    simp only [List.length_append, List.length_map, List.length_replicate, r.length]
def WofE (E : XK) : WX := fun c d _ H => E c d H
theorem ok_body {P : Program} {w : World} {K : PySem.W.Frag} {mg : Str → Option Value} {M : Md} {X : Cx} {N : List Str} {n : Nat} {H : Hp} {vs : List V} {Q : VK} {E : XK} {body : List Stmt} {g : GS} (hn : n ≤ N.length) (h : spD M n (runG N.length g) vs H Q E) :
    tS M (WofE E) g { nx := fun _ H' => Q .non H', rt := Q } (L2.start N vs) H := by
  obtain ⟨H0, ds, hs, r, hl, q⟩ := h
  refine ⟨[(H0, H)], enter N.length ds, ⟨H0, _, enter_env hs r (by omega)⟩, ?_⟩
  unfold runG at q
  cases e : g (enter N.length ds) with
  | rt x =>
    rw [e] at q
    exact fun v H' H0' F s x sx f => q v H' H0' F (x _ List.mem_cons_self) sx ⟨f.1, fun p hp => ⟨(f.2 p hp).1 _ List.mem_cons_self, (f.2 p hp).2⟩⟩
  | nx ρ =>
    rw [e] at q
    exact fun σ' H' ⟨H0', F, e'⟩ => q .non H' H0' [] (e'.ext _ List.mem_cons_self) ⟨rfl, rfl⟩ FrF.nil
  | xc c fs ρ =>
    rw [e] at q
    exact fun C d σ' H' H0' F hm e' xf => q C d H' H0' hm (e'.ext _ List.mem_cons_self) xf
  | bk ρ => rw [e] at q; exact (show False from q).elim
  | ct ρ => rw [e] at q; exact (show False from q).elim
  | bad => rw [e] at q; exact q
/-- a def keeps its promise: its body, read -/
theorem ok_def {P : Program} {w : World} {K : PySem.W.Frag} {mg : Str → Option Value} {base : Heap} {x qual : Str} {st : Stmt} {f : Addr} {fd : FuncData} {N ps : List Str} {k : Nat} {g : GS} (F : Fun K x qual st f fd) (S : FnScope N ps (defScope st))
    (hb : ∀ (cdv : Value) (A : Around) (outer : List Env) (s : Shared) (H : Hp) (E : XK), Room k (A.deeper (envOfC qual (defScope st) s.heap.objs.size f cdv)) → PSs (cxOf (L2.CX P w) P w K mg base N qual (defScope st) f cdv A outer s H E) (defBody st) (tS ⟨K, mg⟩ (WofE E) g)) :
    FnOk P w K mg base (L2.CX P w) (k + 1) f fd ps (spD ⟨K, mg⟩ ps.length (runG N.length g)) := by
  have hn : ps.length ≤ N.length := by have := congrArg List.length S.pre; rw [List.length_take] at this; omega
  refine F.okX S (fun vs H Q E h => spD_len h) fun cdv A outer s H vs Q E hr h => ⟨_, hb cdv A outer s H E hr, ok_body (P := P) (w := w) (K := K) (mg := mg) (X := cxOf (L2.CX P w) P w K mg base N qual (defScope st) f cdv A outer s H E) (body := []) hn h⟩
theorem ok_defD {P : Program} {w : World} {K : PySem.W.Frag} {mg : Str → Option Value} {base : Heap} {x qual : Str} {params : Arguments} {body : List Stmt} {scope : Scope} {dvs : List V} {kws : List (Str × V)} {f : Addr} {fd : FuncData} {N ps : List Str} {k : Nat} {g : GS} (F : FunD K x qual params body scope dvs kws f fd) (S : FnScope N ps scope)
    (hb : ∀ (cdv : Value) (A : Around) (outer : List Env) (s : Shared) (H : Hp) (E : XK), Room k (A.deeper (envOfC qual scope s.heap.objs.size f cdv)) → PSs (cxOf (L2.CX P w) P w K mg base N qual scope f cdv A outer s H E) body (tS ⟨K, mg⟩ (WofE E) g)) :
    FnOk P w K mg base (L2.CX P w) (k + 1) f fd ps (spD ⟨K, mg⟩ ps.length (runG N.length g)) := by
  have hn : ps.length ≤ N.length := by have := congrArg List.length S.pre; rw [List.length_take] at this; omega
  refine F.ok S (fun vs H Q E h => spD_len h) fun cdv A outer s H vs Q E hr h => ⟨_, hb cdv A outer s H E hr, ok_body (P := P) (w := w) (K := K) (mg := mg) (X := cxOf (L2.CX P w) P w K mg base N qual scope f cdv A outer s H E) (body := []) hn h⟩
/-- another function that does the same where it is asked -/
theorem FnOk.eq {P : Program} {w : World} {K : PySem.W.Frag} {mg : Str → Option Value} {base : Heap} {M : Md} {k n : Nat} {f : Addr} {fd : FuncData} {ps : List Str} {m m' : List D → Res FD} (F : FnOk P w K mg base (L2.CX P w) k f fd ps (spD M n m)) (h : ∀ ds, m' ds ≠ .bad → m' ds = m ds) : FnOk P w K mg base (L2.CX P w) k f fd ps (spD M n m') :=
  F.imp fun vs H Q E ⟨H0, ds, hs, r, hl, q⟩ => ⟨H0, ds, hs, r, hl, by
    by_cases hb : m' ds = .bad
    · rw [hb] at q; exact q.elim
    · rw [← h ds hb]; exact q⟩

section
variable {X : Cx} {W : WX} {B : Bs}
theorem ev_callD {k n : Nat} {f : Addr} {fd : FuncData} {ps : List Str} {m : List D → Res FD} {x : Str} {p pos : Pos} {e : Expr} {es : List Expr} {g : List (Option D) → Res (List D)} {dds : List D} {dvs : List V} {ds : List Value}
    (F : FnOk X.prog X.w X.K X.mg X.base (CX X.prog X.w) k f fd ps (spD (Md.of X) n m)) (hr : Room k X.A) (hg : Gl X x) (hm : X.mg x = some (.ref f)) (hk : PySem.W.keepIn X.K (.ref f) = true) (hb : Binds X.K fd ps ds) (hd : Vals dvs ds) (hdd : ∀ H, Reps X.K H dds dvs) (tk : Takes X W)
    (hl : (e :: es).length + dds.length = n) (ha : PA X (e :: es) (tA (Md.of X) W g)) (hln : ∀ ρ ds, g ρ = .ok ds → ds.length = (e :: es).length) (hdb : (x == ("__debug__" : Str)) = false := by decide)
    (he : starEach (e :: es) X.env = (false, eval e X.env) :: starEach es X.env := by rfl) (hpl : (backTo pos (starEach es X.env)).any (·.1) = false := by rfl) :
    PE X (.Call (.Name x p) (e :: es) [] pos) (tE (Md.of X) W (gCall g fun ds => m (ds ++ dds))) := (pe_callSD F hr hg hm hk hb hd (passAt tk) ha hdb he hpl).imp fun σ H Q ⟨H0, ρ, hs, hr, q⟩ => by
  refine ⟨H0, ρ, hs, hr, ?_⟩
  have q : Out (Md.of X) W σ H0 H ((g ρ).bind _) _ := q
  cases e : g ρ with
  | bad => rw [e] at q; exact q.elim
  | xc c fs => rw [e] at q; exact q
  | ok ds =>
    rw [e] at q
    refine fun vs H1 H01 ex rs => ?_
    refine ⟨H01, ds ++ dds, ex.s1, rs.append (hdd _), by rw [List.length_append, hln ρ ds e]; exact hl, ?_⟩
    have q : Out (Md.of X) W σ H0 H (m (ds ++ dds)) _ := q
    cases e2 : m (ds ++ dds) with
    | bad => rw [e2] at q; exact q.elim
    | ok r => rw [e2] at q; exact Fin.after ex q
    | xc c fs => rw [e2] at q; exact fun C d H' H0' hmC e' xf => q C d H' H0' hmC (ex.trans e') xf

/-! ### in, not in -/
def D.toV : D → V
  | .non => .non
  | .bl b => .bl b
  | .int i => .int i
  | .str z => .str z
  | _ => .non
theorem rep_atom {K : PySem.W.Frag} {H : Hp} {d : D} {v : V} (h : d.atom = true) (r : Rep K H d v) : v = d.toV := by
  cases d <;> first | (cases r; rfl) | simp [D.atom] at h
theorem reps_atoms {K : PySem.W.Frag} {H : Hp} : ∀ {ds : List D} {vs : List V}, atoms ds = true → Reps K H ds vs → vs = ds.map D.toV
  | [], _, _, r => r
  | d :: ds, _, h, ⟨v, t, e, s, q⟩ => by
    simp only [atoms, List.all_cons, Bool.and_eq_true] at h
    subst e
    rw [rep_atom h.1 s, reps_atoms h.2 q]; rfl
theorem flat_toV {d : D} (h : d.atom = true) : flatV d.toV = true := by
  cases d <;> first | rfl | simp [D.atom] at h
theorem flats_toV : ∀ {ds : List D}, atoms ds = true → (ds.map D.toV).all flatV = true
  | [], _ => rfl
  | d :: ds, h => by
    simp only [atoms, List.all_cons, Bool.and_eq_true] at h
    simp only [List.map_cons, List.all_cons, flat_toV h.1, Bool.true_and]
    exact flats_toV h.2
def inA (d : D) (ds : List D) : Option Bool := if d.atom = true ∧ atoms ds = true then some (ds.any fun y => eqV y.toV d.toV) else none
def inD (d c : D) : Option Bool := match c with
  | .dct kds => (keyOf d).map fun k => (look kds k).isSome
  | .lst ds => inA d ds
  | .tup ds => inA d ds
  | .str z => match d with
    | .str ⟨⟨[c]⟩⟩ => some (decide (c ∈ z.cps.toList))
    | _ => none
  | _ => none
theorem inV_eq {d : D} {ds : List D} : inV d.toV (ds.map D.toV) = ds.any fun y => eqV y.toV d.toV := by
  unfold inV; rw [List.any_map]; rfl
theorem op_inV (hu : X.A.units + 64 < cLine) : OpR X (compareOp .In) (rV X.K (fB inD)) := fun pins s σ H x y v u Q I rx ry ⟨H0, a, b, r, hs, ra, rb, e, f⟩ => by
  obtain ⟨k, e1, rfl⟩ := fB_some e
  unfold inD at e1
  split at e1
  · rename_i kds
    obtain ⟨ky, hk, rfl⟩ := Option.map_eq_some_iff.mp e1
    obtain ⟨p, kvs, rfl, h1, z1, r1⟩ := rb
    have ey := keyOf_rep hk ra
    subst ey
    cases ry
    refine d_in (o := valV kvs ky) (by omega) I (.inl ⟨kvs, ky, same_rd hs h1, rfl, rfl⟩) rx fun s' I' => ⟨.bl _, H, I', rfl, ?_⟩
    have : (valV kvs ky).isSome = (look kds ky).isSome := by
      rcases r1.look ky with ⟨e3, e4⟩ | ⟨d', v', e3, e4, _⟩
      · rw [e3, e4]; rfl
      · rw [e3, e4]; rfl
    rw [this]
    exact Fin.atom f hs ⟨rfl, rfl⟩
  · unfold inA at e1
    split at e1
    · rename_i hc
      cases e1
      obtain ⟨p, vs, rfl, h1, z1, r1⟩ := rb
      rw [rep_atom hc.1 ra] at rx
      rw [reps_atoms hc.2 r1] at h1
      exact op_in_seq pins s σ H _ _ v u Q I rx ry ⟨_, _, rfl, .inl (SqL.of (hs _ _ h1)), flat_toV hc.1, flats_toV hc.2, by rw [if_neg Bool.false_ne_true, inV_eq]; exact Fin.atom f hs ⟨rfl, rfl⟩⟩
    · cases e1
  · unfold inA at e1
    split at e1
    · rename_i hc
      cases e1
      obtain ⟨p, vs, rfl, h1, z1, r1⟩ := rb
      rw [rep_atom hc.1 ra] at rx
      rw [reps_atoms hc.2 r1] at h1
      exact op_in_seq pins s σ H _ _ v u Q I rx ry ⟨_, _, rfl, .inr (same_seqT hs h1), flat_toV hc.1, flats_toV hc.2, by rw [if_neg Bool.false_ne_true, inV_eq]; exact Fin.atom f hs ⟨rfl, rfl⟩⟩
    · cases e1
  · split at e1
    · cases e1; cases ra; cases rb
      exact op_in_sign pins s σ H _ _ v u Q I rx ry ⟨_, _, rfl, rfl, Fin.atom f hs ⟨rfl, rfl⟩⟩
    · cases e1
  · cases e1
theorem op_ninV (hu : X.A.units + 64 < cLine) : OpR X (compareOp .NotIn) (rV X.K (fB fun a b => (inD a b).map (!·))) := fun pins s σ H x y v u Q I rx ry ⟨H0, a, b, r, hs, ra, rb, e, f⟩ => by
  obtain ⟨k, e1, rfl⟩ := fB_some e
  cases e2 : inD a b with
  | none => rw [e2] at e1; cases e1
  | some k0 =>
  rw [e2] at e1; cases e1
  unfold inD at e2
  split at e2
  · rename_i kds
    obtain ⟨ky, hk, rfl⟩ := Option.map_eq_some_iff.mp e2
    obtain ⟨p, kvs, rfl, h1, z1, r1⟩ := rb
    have ey := keyOf_rep hk ra
    subst ey
    cases ry
    refine d_notIn (o := valV kvs ky) (by omega) I (.inl ⟨kvs, ky, same_rd hs h1, rfl, rfl⟩) rx fun s' I' => ⟨.bl _, H, I', rfl, ?_⟩
    have : (valV kvs ky).isSome = (look kds ky).isSome := by
      rcases r1.look ky with ⟨e3, e4⟩ | ⟨d', v', e3, e4, _⟩
      · rw [e3, e4]; rfl
      · rw [e3, e4]; rfl
    rw [this]
    exact Fin.atom f hs ⟨rfl, rfl⟩
  · unfold inA at e2
    split at e2
    · rename_i hc
      cases e2
      obtain ⟨p, vs, rfl, h1, z1, r1⟩ := rb
      rw [rep_atom hc.1 ra] at rx
      rw [reps_atoms hc.2 r1] at h1
      exact op_notIn_seq pins s σ H _ _ v u Q I rx ry ⟨_, _, rfl, .inl (SqL.of (hs _ _ h1)), flat_toV hc.1, flats_toV hc.2, by rw [if_pos rfl, inV_eq]; exact Fin.atom f hs ⟨rfl, rfl⟩⟩
    · cases e2
  · unfold inA at e2
    split at e2
    · rename_i hc
      cases e2
      obtain ⟨p, vs, rfl, h1, z1, r1⟩ := rb
      rw [rep_atom hc.1 ra] at rx
      rw [reps_atoms hc.2 r1] at h1
      exact op_notIn_seq pins s σ H _ _ v u Q I rx ry ⟨_, _, rfl, .inr (same_seqT hs h1), flat_toV hc.1, flats_toV hc.2, by rw [if_pos rfl, inV_eq]; exact Fin.atom f hs ⟨rfl, rfl⟩⟩
    · cases e2
  · split at e2
    · cases e2; cases ra; cases rb
      exact op_notIn_sign pins s σ H _ _ v u Q I rx ry ⟨_, _, rfl, rfl, Fin.atom f hs ⟨rfl, rfl⟩⟩
    · cases e2
  · cases e2

/-! ### slices -/
def cutL {α : Type} (xs : List α) (lo hi : Option Int) : List α := (xs.drop (HT.sIx xs.length 0 lo)).take (HT.sIx xs.length xs.length hi - HT.sIx xs.length 0 lo)
theorem Reps.cut {K : PySem.W.Frag} {H : Hp} {ds : List D} {vs : List V} (r : Reps K H ds vs) (lo hi : Option Int) : Reps K H (cutL ds lo hi) (cutV vs lo hi) := by
  unfold cutL cutV
  rw [r.length]
  exact Reps.take _ (Reps.drop _ r)
theorem cutL_length {α : Type} (xs : List α) (lo hi : Option Int) : (cutL xs lo hi).length ≤ xs.length := by
  unfold cutL
  rw [List.length_take, List.length_drop]; omega
/-- a part of a slice: none, or an int -/
def gPt : Option GE → List (Option D) → Res (Option Int)
  | none, _ => .ok none
  | some g, ρ => (g ρ).bind fun x => match x.2 with
    | .int i => .ok (some i)
    | _ => .bad
def sliceD : D → Option Int → Option Int → Res FD
  | .lst ds, lo, hi => .ok (flL (cutL ds lo hi), .lst (cutL ds lo hi))
  | .str z, lo, hi => if z.length ≤ sizeLine then .ok (.T, .str (cutS z lo hi)) else .bad
  | _, _, _ => .bad
def gSl (g : GE) (a b : Option GE) : GE := fun ρ => (g ρ).bind fun x => (gPt a ρ).bind fun lo => (gPt b ρ).bind fun hi => sliceD x.2 lo hi
/-- a part's reading -/
structure Prt (X : Cx) (W : WX) (e : Option Expr) (g : Option GE) : Prop where
  ok : ∃ t, PO X e t ∧ ∀ σ H (Q : Option Int → Hp → Prop), (∃ H0 ρ, Same H0 H ∧ RdE X.K σ ρ H0 ∧ Out (Md.of X) W σ H0 H (gPt g ρ) fun i => ∀ H' H0', Ext H0 H H0' H' → Q i H') → t σ H Q
theorem prt_none : Prt X W none none := ⟨tNoPart, po_none, fun σ H Q ⟨H0, ρ, hs, hr, q⟩ => q H H0 (Ext.refl hs)⟩
theorem prt_some {e : Expr} {g : GE} (h : PE X e (tE (Md.of X) W g)) : Prt X W (some e) (some g) := ⟨tPart _, po_some h, fun σ H Q ⟨H0, ρ, hs, hr, q⟩ => by
  show tE _ _ g σ H fun x H1 => ∃ i, x = .int i ∧ Q (some i) H1
  refine ⟨H0, ρ, hs, hr, (Out.bind q).imp fun x qx => fun v H1 H01 F e s fr => ?_⟩
  obtain ⟨e1, r1⟩ := e.letgo s fr
  split at qx
  · rename_i i hi
    rw [hi] at r1
    cases r1
    exact ⟨i, rfl, qx _ _ e⟩
  · exact qx.elim⟩
theorem ev_sl {e : Expr} {lo hi : Option Expr} {pos p2 : Pos} {g : GE} {a b : Option GE} (h : PE X e (tE (Md.of X) W g)) (ha : Prt X W lo a) (hb : Prt X W hi b) : PE X (.Subscript e (.Slice lo hi none p2) pos) (tE (Md.of X) W (gSl g a b)) := by
  obtain ⟨tl, hl, ql⟩ := ha.ok
  obtain ⟨th, hh, qh⟩ := hb.ok
  refine (pe_slice (SlR.or sl_list sl_str) h hl hh).imp fun σ H Q ⟨H0, ρ, hs, hr, q⟩ => ?_
  refine ⟨H0, ρ, hs, hr, (Out.bind q).imp fun x qx => fun v H1 H01 F e s fr => ?_⟩
  obtain ⟨e1, r1⟩ := e.letgo s fr
  refine ql _ _ _ ⟨_, ρ, e1.s1, hr.mono e1.s0, Out.after e1 (Out.bind qx) fun i qi => fun H2 H02 e2 => ?_⟩
  refine qh _ _ _ ⟨_, ρ, e2.s1, hr.mono (e1.s0.trans e2.s0), Out.after (e1.trans e2) (Out.bind qi) fun j qj => fun H3 H03 e3 => ?_⟩
  have eA := (e1.trans e2).trans e3
  have r3 := Rep.mono (e2.s0.trans e3.s0) _ _ r1
  unfold sliceD at qj
  split at qj
  · rename_i ds lo hi hd
    rw [hd] at r3
    obtain ⟨p, vs, rfl, h1, z1, r4⟩ := r3
    exact .inl ⟨p, vs, rfl, SqL.of (e3.s1 _ _ h1), fun p hp => Fin.newLst (Fin.after eA qj) e3.s1 (r4.cut _ _) (Nat.le_trans (cutL_length _ _ _) z1) hp⟩
  · rename_i z lo hi hd
    rw [hd] at r3
    cases r3
    split at qj
    · rename_i hz
      exact .inr ⟨_, rfl, hz, Fin.atom (K := X.K) (Fin.after eA qj) e3.s1 ⟨rfl, rfl⟩⟩
    · exact qj.elim
  · exact qj.elim

/-! ### sep.join(xs), xs.index(y) -/
def joinD : D → D → Option FD
  | .str a, .lst ds => (asStrs ds).bind fun ys => if (ys.map fun x => x.length).sum + ys.length * a.length ≤ 16777216 then some (.T, .str (Txt.join a ys)) else none
  | _, _ => none
def gJoin (go ge : GE) : GE := fun ρ => (go ρ).bind fun x => match x.2 with
  | .str a => (ge ρ).bind fun y => ofO (joinD (.str a) y.2)
  | _ => .bad
theorem ev_join {o e : Expr} {apos pos : Pos} {go ge : GE} (ho : PE X o (tE (Md.of X) W go)) (he : PE X e (tE (Md.of X) W ge)) (h1 : starEach [e] X.env = [(false, eval e X.env)] := by rfl) (h2 : attributeBase o "join" X.env (eval o X.env) = eval o X.env := by rfl) (h3 : (apos.endLine == pos.line) = true := by rfl) :
    PE X (.Call (.Attribute o "join" apos) [e] [] pos) (tE (Md.of X) W (gJoin go ge)) := (pe_join ho he h1 h2 h3).imp fun σ H Q ⟨H0, ρ, hs, hr, q⟩ => by
  refine ⟨H0, ρ, hs, hr, (Out.bind q).imp fun x qx => fun v H1 H01 F e s fr => ?_⟩
  obtain ⟨e1, r1⟩ := e.letgo s fr
  split at qx
  · rename_i a hx
    rw [hx] at r1
    cases r1
    refine ⟨⟨a, rfl⟩, _, ρ, e1.s1, hr.mono e1.s0, Out.after e1 (Out.bind qx) fun y qy => fun u H2 H02 G e' s' fr' => ?_⟩
    obtain ⟨e2, r2⟩ := e'.letgo s' fr'
    cases hj : joinD (.str a) y.2 with
    | none => rw [hj] at qy; exact qy.elim
    | some r =>
      rw [hj] at qy
      have qy : Fin X.K H0 H r Q := qy
      cases hy : y.2 with
      | lst ds =>
        rw [hy] at hj r2
        simp only [joinD] at hj
        obtain ⟨ys, hys, hj⟩ := Option.bind_eq_some_iff.mp hj
        split at hj
        · rename_i hz
          cases hj
          obtain ⟨p, vs, rfl, h1, z1, r4⟩ := r2
          rw [asStrs_eq hys] at r4
          rw [r4.strs] at h1
          exact ⟨a, p, ys, rfl, rfl, .inl (SqL.of (e2.s1 _ _ h1)), hz, Fin.atom (K := X.K) (Fin.after (e1.trans e2) qy) e2.s1 ⟨rfl, rfl⟩⟩
        · cases hj
      | _ => rw [hy] at hj; cases hj
  · exact qx.elim
/-- the place of the first that is equal -/
def idxA (ds : List D) (d : D) : Option Nat := ds.findIdx? fun y => eqV y.toV d.toV
def idxD : D → D → Option FD
  | .lst ds, d => if d.atom = true ∧ atoms ds = true then (idxA ds d).map fun j => (.T, .int (j : Int)) else none
  | _, _ => none
def gMt (go ge : GE) (f : D → D → Option FD) : GE := fun ρ => (go ρ).bind fun x => match x.2 with
  | .lst ds => (ge ρ).bind fun y => ofO (f (.lst ds) y.2)
  | _ => .bad
theorem ev_index {o e : Expr} {apos cpos : Pos} {go ge : GE} (ho : PE X o (tE (Md.of X) W go)) (he : PE X e (tE (Md.of X) W ge)) (h1 : attributeBase o "index" X.env (eval o X.env) = eval o X.env := by rfl)
    (h2 : ((((backTo cpos (starEach [e] X.env)).all fun x => !x.1) && (backToKw cpos (keywordEach [] X.env)).all fun x => x.1.isSome) && decide (([e].length + ([] : List Keyword).length + if ([] : List Keyword).isEmpty = true then 0 else 1) < 30)) = true := by rfl)
    (h3 : (apos.endLine == cpos.line) = true := by rfl) (h4 : starEach [e] X.env = (false, eval e X.env) :: starEach [] X.env := by rfl) :
    PE X (.Call (.Attribute o "index" apos) [e] [] cpos) (tE (Md.of X) W (gMt go ge idxD)) := (pe_bm PySem.F.plainAttrs_list PySem.F.slot_list_index PySem.F.type_list_index mt_index ho (pa_cons he pa_nil h4) h1 h2 h3 h4).imp fun σ H Q ⟨H0, ρ, hs, hr, q⟩ => by
  refine ⟨H0, ρ, hs, hr, (Out.bind q).imp fun x qx => fun v H1 H01 F e s fr => ?_⟩
  obtain ⟨e1, r1⟩ := e.letgo s fr
  split at qx
  · rename_i ds hx
    rw [hx] at r1
    obtain ⟨p, vs, rfl, h1, z1, r4⟩ := r1
    refine ⟨.inl ⟨rfl, vs, SqL.of (e1.s1 _ _ h1)⟩, _, ρ, e1.s1, hr.mono e1.s0, Out.after e1 (Out.bind qx) fun y qy => fun u H2 H02 G e' s' fr' => ?_⟩
    obtain ⟨e2, r2⟩ := e'.letgo s' fr'
    simp only [idxD] at qy
    split at qy
    · rename_i hc
      cases hj : idxA ds y.2 with
      | none => rw [hj] at qy; exact qy.elim
      | some j =>
        rw [hj] at qy
        have qy : Fin X.K H0 H (.T, .int (j : Int)) Q := qy
        have ev := rep_atom hc.1 r2
        have evs := reps_atoms hc.2 r4
        obtain ⟨hlt, hj1, hj2⟩ := List.findIdx?_eq_some_iff_getElem.mp hj
        subst ev; subst evs
        refine ⟨p, ds.map D.toV, y.2.toV, j, ds[j].toV, rfl, rfl, SqL.of (e2.s1 _ _ (e2.s0 _ _ h1)), flat_toV hc.1, flats_toV hc.2, by rw [List.getElem?_map, List.getElem?_eq_getElem hlt]; rfl, hj1, fun m z' hm hz => ?_, Fin.atom (K := X.K) (Fin.after (e1.trans e2) qy) e2.s1 ⟨rfl, rfl⟩⟩
        have hml : m < ds.length := by omega
        rw [List.getElem?_map, List.getElem?_eq_getElem hml] at hz
        cases hz
        simpa using hj2 m hm
    · exact qy.elim
  · exact qx.elim

/-! ### dict(pairs), list(d) -/
def asPairs : List D → Option (List (Key × D))
  | [] => some []
  | .tup [k, d] :: r => (keyOf k).bind fun k => (asPairs r).map fun t => (k, d) :: t
  | _ => none
def mergeD (kds more : List (Key × D)) : List (Key × D) := more.foldl (fun acc kv => putD acc kv.1 kv.2) kds
def dictD : List D → Option FD
  | [.lst ds] => (asPairs ds).bind fun kds => some (.R, .dct (mergeD [] kds))
  | _ => none
theorem mergeD_ok {K : PySem.W.Frag} {H : Hp} : ∀ {more : List (Key × D)} {mv : List (Key × V)} {kds : List (Key × D)} {kvs : List (Key × V)}, RepK K H more mv → RepK K H kds kvs → RepK K H (mergeD kds more) (mergeK kvs mv)
  | [], _, _, _, r, q => by cases r; exact q
  | (k, d) :: r, _, _, _, ⟨v, t, e, s, q'⟩, q => by
    subst e
    show RepK K H (mergeD (putD _ k d) r) (mergeK (putK _ k v) t)
    exact mergeD_ok q' (q.put s)
theorem mergeD_nodup : ∀ {more kds : List (Key × D)}, (kds.map (·.1)).Nodup → ((mergeD kds more).map (·.1)).Nodup
  | [], _, h => h
  | (k, d) :: r, kds, h => mergeD_nodup (more := r) (putD_nodup k d h)
theorem mergeD_length : ∀ {more kds : List (Key × D)}, (mergeD kds more).length ≤ kds.length + more.length
  | [], kds => by simp [mergeD]
  | (k, d) :: r, kds => by
    have h1 := mergeD_length (more := r) (kds := putD kds k d)
    have h2 := putD_length kds k d
    show (mergeD (putD kds k d) r).length ≤ _
    simp only [List.length_cons]; omega
theorem asPairs_length : ∀ {ds : List D} {kds : List (Key × D)}, asPairs ds = some kds → kds.length = ds.length
  | [], _, h => by cases h; rfl
  | d :: ds, _, h => by
    unfold asPairs at h
    split at h <;> first | (cases h; done) | skip
    · rename_i heq; cases heq
    · rename_i heq
      cases heq
      obtain ⟨k, hk, h⟩ := Option.bind_eq_some_iff.mp h
      obtain ⟨t, ht, rfl⟩ := Option.map_eq_some_iff.mp h
      simp [asPairs_length ht]
theorem asPairs_rep {K : PySem.W.Frag} {H : Hp} : ∀ {ds : List D} {vs : List V} {kds : List (Key × D)}, asPairs ds = some kds → Reps K H ds vs → ∃ ps kvs, vs = ps.map V.ref ∧ Paired (fun p kv => SqT K H p [kV kv.1, kv.2]) ps kvs ∧ RepK K H kds kvs
  | [], _, _, h, r => by cases h; cases r; exact ⟨[], [], rfl, .nil, rfl⟩
  | d :: ds, _, _, h, ⟨v, t, e, s, q⟩ => by
    subst e
    unfold asPairs at h
    split at h <;> first | (cases h; done) | skip
    · rename_i heq; cases heq
    · rename_i heq
      cases heq
      obtain ⟨k, hk, h⟩ := Option.bind_eq_some_iff.mp h
      obtain ⟨kt, ht, rfl⟩ := Option.map_eq_some_iff.mp h
      obtain ⟨a, vs, rfl, s1, z, w1, t1, e1, r1, w2, t2, e2, r2, e3⟩ := s
      subst e3; subst e2; subst e1
      have := keyOf_rep hk r1
      subst this
      obtain ⟨ps, kvs, rfl, pp, rr⟩ := asPairs_rep ht q
      exact ⟨a :: ps, (k, w2) :: kvs, rfl, .cons s1 pp, w2, kvs, rfl, r2, rr⟩
theorem call_dictV (hc : X.calm = true) : CallR X (.type "dict") (rVs X.K dictD) := fun pins s σ H xs us Q I rx ⟨H0, ds, r, hs, rs, e, f⟩ => by
  unfold dictD at e
  split at e
  · obtain ⟨kds, e1, e⟩ := Option.bind_eq_some_iff.mp e
    cases e
    obtain ⟨v, t, rfl, ⟨a, vs, rfl, h, z, q⟩, rfl⟩ := rs
    obtain ⟨ps, kvs, rfl, pp, rr⟩ := asPairs_rep e1 q
    refine call_dictP hc pins s σ H _ us Q I rx ⟨a, ps, kvs, rfl, SqL.of (hs _ _ h), Paired.mapP pp fun p kv h => same_seqT hs h, fun p hp => ?_⟩
    refine Fin.newR f hs ⟨_, rfl, ⟨?_, mergeD_nodup (by simp)⟩, mergeD_ok rr rfl⟩ hp
    have h1 := mergeD_length (more := kds) (kds := [])
    have h2 := asPairs_length e1
    simp only [List.length_nil] at h1
    omega
  · cases e
theorem trees_keys {H : Hp} : ∀ (kds : List (Key × D)) (kvs : List (Key × V)), kds.map (·.1) = kvs.map (·.1) → Trees H (kds.map fun kv => kD kv.1) (kvs.map fun kv => kV kv.1) []
  | [], [], _ => ⟨rfl, rfl⟩
  | [], _ :: _, h => by simp at h
  | _ :: _, [], h => by simp at h
  | (k, d) :: ds, (j, v) :: vs, h => by
    simp only [List.map_cons, List.cons.injEq] at h
    obtain ⟨h1, h2⟩ := h
    subst h1
    exact ⟨kV k, _, [], [], rfl, rfl, tree_key k, trees_keys ds vs h2⟩
end
end VL
end

section
set_option Elab.async false
set_option maxRecDepth 100000
set_option linter.all false
/-! The value layer, 13: raise, try. -/
namespace VL
open PySem PySem.Spec PyProof.Rows L2
section
variable {X : Cx} {W : WX} {B : Bs}
def gRaise (c : Str) : GS := fun ρ => .xc c [] ρ
theorem ss_raise {c : Str} {C : Addr} {st : Stmt} (hm : X.mg c = some (.ref C)) (h : PS X st (fun _ σ H => W (.ref C) none σ H)) : PS X st (tS (Md.of X) W (gRaise c)) := h.imp fun D σ H ⟨B, ρ, ⟨H0, F, e⟩, q⟩ =>
  q C none σ H H0 F hm e rfl
/-- an exception in hand: its class by name, its fields -/
def tH (M : Md) (c : Str) (fs : List (Str × D)) (cls : Value) (d : Option Addr) (g : GS) : TS := fun D σ H => M.mg c = some cls ∧ ∃ B ρ H0 F, EnvAt M.K B σ ρ H H0 F ∧ XF M.K H0 H d fs ∧ OutS M W0 B D (g ρ)
theorem ps_ex {st : List Stmt} {α : Type} {t : α → TS} (h : ∀ a, PSs X st (t a)) : PSs X st (fun D σ H => ∃ a, t a D σ H) := ⟨fun pins s σ H D I ⟨a, q⟩ => (h a).run pins s σ H D I q⟩
theorem ps_if_ {st : List Stmt} {p : Prop} {t : TS} (h : p → PSs X st t) : PSs X st (fun D σ H => p ∧ t D σ H) := ⟨fun pins s σ H D I ⟨a, q⟩ => (h a).run pins s σ H D I q⟩
/-- which handler, by the exception's name -/
def gTry (i : Nat) (mt : Str → Option Bool) (gb : GS) (h : Str → List (Str × D) → GS) : GS := fun ρ => match gb ρ with
  | .xc c fs ρ' => if i < ρ'.length then match mt c with
    | some true => match h c fs (ρ'.set i none) with
      | .nx ρ2 => .nx (ρ2.set i none)
      | .bk ρ2 => .bk (ρ2.set i none)
      | .ct ρ2 => .ct (ρ2.set i none)
      | .xc _ _ _ => .bad
      | o => o
    | some false => .xc c fs ρ'
    | none => .bad
    else .bad
  | o => o
theorem ss_tryAs {x n : Str} {C : Addr} {i : Nat} {body suite : List Stmt} {b0 : Stmt} {np pos pos' : Pos} {mt : Str → Option Bool} {gb : GS} {hg : Str → List (Str × D) → GS} (hs : X.stack = X.env :: X.outer) (hf : X.env.frame = some X.env.locals) (hN : X.N.Nodup) (hi : X.N[i]? = some n) (hln : X.env.kindOf n = some .local)
    (hc : Names X x (.ref C)) (hmt : ∀ c Cc b, X.mg c = some (.ref Cc) → mt c = some b → PySem.W.exmOne X.K (.ref Cc) (.ref C) = some b) (tk : Takes X W)
    (hb : ∀ (W' : WX) (pn : List (Addr × Obj)) (xe : Value → Shared → Prop), Takes (X.tr pn xe) W' → PassesOwn (model X.prog X.w) X.A X.env xe → PSs (X.tr pn xe) body (tS (Md.of X) W' gb))
    (hsu : ∀ (c : Str) (fs : List (Str × D)) (a : Addr) (oe : Obj) (cls : Value) (d : Option Addr) (pn : List (Addr × Obj)), X.mg c = some cls → Zc cls d oe → (∃ vs, oe.data = .fields vs) → (fs = [] → d = none) → PSs (X.suite a ((a, oe) :: pn)) (b0 :: suite) (fun D σ H => σ[i]? = some (some (.ref a)) ∧ tS (Md.of X) W0 (hg c fs) D σ H)) :
    PS X (.Try body [.ExceptHandler (some (.Name x np)) (some n) (b0 :: suite) pos'] [] [] pos) (tS (Md.of X) W (gTry i mt gb hg)) := by
  refine (ps_try_as (ts := fun a cls d => fun D σ H => ∃ p : Str × List (Str × VL.D), (X.mg p.1 = some cls ∧ (p.2 = [] → d = none)) ∧ σ[i]? = some (some (.ref a)) ∧ tS (Md.of X) W0 (hg p.1 p.2) D σ H) hs hf hN hi hln hc tk hb fun a oe cls d pn hz hv => ps_ex fun p => ps_if_ fun hp => hsu p.1 p.2 a oe cls d pn hp.1 hz hv hp.2).imp fun D σ H ⟨B, ρ, e, q⟩ => ?_
  refine ⟨B, ρ, e, ?_⟩
  unfold gTry at q
  cases hgb : gb ρ with
  | nx r => rw [hgb] at q; exact q
  | rt r => rw [hgb] at q; exact q
  | bk r => rw [hgb] at q; exact q
  | ct r => rw [hgb] at q; exact q
  | bad => rw [hgb] at q; exact q
  | xc c fs ρ' =>
    rw [hgb] at q
    intro Cc d σ' H' H0' F' hm e' xf
    have hfd : fs = [] → d = none := fun h => by subst h; exact xf
    have hil0 : i < ρ'.length := by
      by_cases h : i < ρ'.length
      · exact h
      · have q : OutS (Md.of X) W B D (if i < ρ'.length then _ else .bad) := q
        rw [if_neg h] at q
        exact (show False from q).elim
    have q : OutS (Md.of X) W B D (if i < ρ'.length then _ else .bad) := q
    rw [if_pos hil0] at q
    have hil : i < σ'.length := by rw [← e'.len]; exact hil0
    cases hmc : mt c with
    | none => rw [hmc] at q; exact (show False from q).elim
    | some b =>
      rw [hmc] at q
      refine ⟨b, hmt c Cc b hm hmc, fun hb a ha => ?_, fun hb => ?_⟩
      · subst hb
        -- the handler, its name's slot not read
        have e2 : EnvAt X.K B (σ'.set i (some (.ref a))) (ρ'.set i none) H' H0' F' := by
          refine ⟨e'.s0, e'.ext, fun j y hy => ?_, e'.fr, e'.th, e'.dj, by simp [e'.len]⟩
          by_cases hj : j = i
          · subst hj
            by_cases hl : j < ρ'.length
            · rw [List.getElem?_set_self hl] at hy; cases hy
            · rw [List.getElem?_eq_none (by simpa using hl)] at hy; cases hy
          · rw [List.getElem?_set_ne (Ne.symm hj)] at hy ⊢
            exact e'.sl j y hy
        refine ⟨(c, fs), ⟨hm, hfd⟩, List.getElem?_set_self hil, B, _, ⟨_, _, e2⟩, ?_⟩
        have q : OutS (Md.of X) W B D (match hg c fs (ρ'.set i none) with
          | .nx ρ2 => .nx (ρ2.set i none)
          | .bk ρ2 => .bk (ρ2.set i none)
          | .ct ρ2 => .ct (ρ2.set i none)
          | .xc _ _ _ => .bad
          | o => o) := q
        cases ho : hg c fs (ρ'.set i none) with
        | nx r =>
          rw [ho] at q
          exact fun σ4 H4 ⟨H04, F4, e4⟩ => q _ _ ⟨_, _, e4.unset i⟩
        | bk r =>
          rw [ho] at q
          exact fun σ4 H4 ⟨H04, F4, e4⟩ => q _ _ ⟨_, _, e4.unset i⟩
        | ct r =>
          rw [ho] at q
          exact fun σ4 H4 ⟨H04, F4, e4⟩ => q _ _ ⟨_, _, e4.unset i⟩
        | rt r => rw [ho] at q; exact q
        | xc _ _ _ => rw [ho] at q; exact (show False from q).elim
        | bad => rw [ho] at q; exact q
      · subst hb
        exact q Cc d σ' H' H0' F' hm e' xf
/-- return isinstance(e, C) of the exception in hand -/
theorem ss_retIsE {a D C : Addr} {oe : Obj} {pn : List (Addr × Obj)} {i : Nat} {st : Stmt} {b : Bool} (hk : PySem.W.kitOne X.K (.ref D) (.ref C) = some b)
    (h : PS (X.suite a ((a, oe) :: pn)) st (tRet (tCB (rIsE X.K D a) (tCons (tVar i) (tCons (tC (.ref C)) tNil))))) :
    PS (X.suite a ((a, oe) :: pn)) st (fun D σ H => σ[i]? = some (some (.ref a)) ∧ tS (Md.of X) W0 (fun _ => .rt (.T, .bl b)) D σ H) := h.imp fun D σ H ⟨h1, B, ρ, ⟨H0, F, e⟩, q⟩ =>
  ⟨.ref a, h1, .ref C, .ref C, b, rfl, fun u r => r, hk, q _ _ _ [] e.s0 e.ext ⟨rfl, rfl⟩ FrB.nil⟩
end
end VL
end

section
set_option Elab.async false
set_option maxRecDepth 100000
set_option linter.all false
/-! The value layer, 14: what callers hold of a def; displays of dicts; short words. -/
namespace VL
open PySem PySem.Spec PyProof.Rows L2

/-- a def as its callers see it -/
structure Cal (P : Program) (w : World) (K : PySem.W.Frag) (mg : Str → Option Value) (base : Heap) (k : Nat) (x : Str) (ps : List Str) (m : List D → Res FD) : Prop where
  ex : ∃ (f : Addr) (fd : FuncData), FnOk P w K mg base (L2.CX P w) k f fd ps (spD ⟨K, mg⟩ ps.length m) ∧ mg x = some (.ref f) ∧ PySem.W.keepIn K (.ref f) = true ∧ Binds K fd ps []
theorem Cal.mono {P : Program} {w : World} {K : PySem.W.Frag} {mg : Str → Option Value} {base : Heap} {j k : Nat} {x : Str} {ps : List Str} {m : List D → Res FD} (c : Cal P w K mg base j x ps m) (h : j ≤ k) : Cal P w K mg base k x ps m := by
  obtain ⟨f, fd, a, b⟩ := c.ex
  exact ⟨f, fd, a.mono h, b⟩
theorem Cal.eq {P : Program} {w : World} {K : PySem.W.Frag} {mg : Str → Option Value} {base : Heap} {k : Nat} {x : Str} {ps : List Str} {m m' : List D → Res FD} (c : Cal P w K mg base k x ps m) (h : ∀ ds, m' ds ≠ .bad → m' ds = m ds) : Cal P w K mg base k x ps m' := by
  obtain ⟨f, fd, a, b⟩ := c.ex
  exact ⟨f, fd, VL.FnOk.eq a h, b⟩
/-- a def of the text: where it stands, how it binds -/
structure Dfn (K : PySem.W.Frag) (mg : Str → Option Value) (x : Str) (st : Stmt) (ps : List Str) (f : Addr) (fd : FuncData) : Prop where
  fn : Fun K x x st f fd
  mg : mg x = some (.ref f)
  bd : Binds K fd ps []
theorem Cal.none {P : Program} {w : World} {K : PySem.W.Frag} {mg : Str → Option Value} {base : Heap} {x : Str} {st : Stmt} {ps : List Str} {f : Addr} {fd : FuncData} (d : Dfn K mg x st ps f fd) (k : Nat) : Cal P w K mg base k x ps (fun _ => .bad) :=
  ⟨f, fd, ⟨fun vs H Q E h => spD_len h, fun A outer s H args us vs Q E _ _ _ _ ⟨_, _, _, _, _, q⟩ => q.elim⟩, d.mg, d.fn.kp, d.bd⟩
theorem Cal.of {P : Program} {w : World} {K : PySem.W.Frag} {mg : Str → Option Value} {base : Heap} {x : Str} {st : Stmt} {f : Addr} {fd : FuncData} {N ps : List Str} {k : Nat} {g : GS} (d : Dfn K mg x st ps f fd) (S : FnScope N ps (defScope st))
    (hb : ∀ (cdv : Value) (A : Around) (outer : List Env) (s : Shared) (H : Hp) (E : XK), Room k (A.deeper (envOfC x (defScope st) s.heap.objs.size f cdv)) → PSs (cxOf (L2.CX P w) P w K mg base N x (defScope st) f cdv A outer s H E) (defBody st) (tS ⟨K, mg⟩ (WofE E) g)) :
    Cal P w K mg base (k + 1) x ps (runG N.length g) := ⟨f, fd, ok_def d.fn S hb, d.mg, d.fn.kp, d.bd⟩
/-- .. with defaults -/
structure CalD (P : Program) (w : World) (K : PySem.W.Frag) (mg : Str → Option Value) (base : Heap) (k : Nat) (x : Str) (n : Nat) (dds : List D) (m : List D → Res FD) : Prop where
  ex : ∃ (f : Addr) (fd : FuncData) (ps : List Str) (dvs : List V) (ds : List Value), FnOk P w K mg base (L2.CX P w) k f fd ps (spD ⟨K, mg⟩ n m) ∧ mg x = some (.ref f) ∧ PySem.W.keepIn K (.ref f) = true ∧ Binds K fd ps ds ∧ Vals dvs ds ∧ ∀ H, Reps K H dds dvs
theorem CalD.mono {P : Program} {w : World} {K : PySem.W.Frag} {mg : Str → Option Value} {base : Heap} {j k n : Nat} {x : Str} {dds : List D} {m : List D → Res FD} (c : CalD P w K mg base j x n dds m) (h : j ≤ k) : CalD P w K mg base k x n dds m := by
  obtain ⟨f, fd, ps, dvs, ds, a, b⟩ := c.ex
  exact ⟨f, fd, ps, dvs, ds, a.mono h, b⟩
section
variable {X : Cx} {W : WX} {B : Bs}
theorem ev_fn {k : Nat} {ps : List Str} {m : List D → Res FD} {x : Str} {p pos : Pos} {e : Expr} {es : List Expr} {g : List (Option D) → Res (List D)} (c : Cal X.prog X.w X.K X.mg X.base k x ps m) (hr : Room k X.A) (hg : Gl X x) (tk : Takes X W)
    (hl : (e :: es).length = ps.length) (ha : PA X (e :: es) (tA (Md.of X) W g)) (hln : ∀ ρ ds, g ρ = .ok ds → ds.length = (e :: es).length) (hdb : (x == ("__debug__" : Str)) = false := by decide)
    (he : starEach (e :: es) X.env = (false, eval e X.env) :: starEach es X.env := by rfl) (hpl : (backTo pos (starEach es X.env)).any (·.1) = false := by rfl) :
    PE X (.Call (.Name x p) (e :: es) [] pos) (tE (Md.of X) W (gCall g m)) := by
  obtain ⟨f, fd, F, hm, hk, hb⟩ := c.ex
  exact ev_call F hr hg hm hk hb tk hl ha hln hdb he hpl
theorem ev_fnD {k n : Nat} {m : List D → Res FD} {x : Str} {p pos : Pos} {e : Expr} {es : List Expr} {dds : List D} {g : List (Option D) → Res (List D)} (c : CalD X.prog X.w X.K X.mg X.base k x n dds m) (hr : Room k X.A) (hg : Gl X x) (tk : Takes X W)
    (hl : (e :: es).length + dds.length = n) (ha : PA X (e :: es) (tA (Md.of X) W g)) (hln : ∀ ρ ds, g ρ = .ok ds → ds.length = (e :: es).length) (hdb : (x == ("__debug__" : Str)) = false := by decide)
    (he : starEach (e :: es) X.env = (false, eval e X.env) :: starEach es X.env := by rfl) (hpl : (backTo pos (starEach es X.env)).any (·.1) = false := by rfl) :
    PE X (.Call (.Name x p) (e :: es) [] pos) (tE (Md.of X) W (gCall g fun ds => m (ds ++ dds))) := by
  obtain ⟨f, fd, ps, dvs, ds, F, hm, hk, hb, hd, hdd⟩ := c.ex
  exact ev_callD F hr hg hm hk hb hd hdd tk hl ha hln hdb he hpl
/-- f() -/
theorem ev_fn0 {k : Nat} {m : List D → Res FD} {x : Str} {p pos : Pos} {E : XK} (c : Cal X.prog X.w X.K X.mg X.base k x [] m) (hr : Room k X.A) (hg : Gl X x) (hno : ∀ c fs, m [] ≠ .xc c fs) (hx : Passes (L2.CX X.prog X.w) X E) (hdb : (x == ("__debug__" : Str)) = false := by decide) :
    PE X (.Call (.Name x p) [] [] pos) (tE (Md.of X) W (gCall gNil m)) := by
  obtain ⟨f, fd, F, hm, hk, hb⟩ := c.ex
  refine (pe_call0 F hr hg hm hk hb .nil hx hdb).imp fun σ H Q ⟨H0, ρ, hs, hr, q⟩ => ?_
  refine ⟨H0, [], hs, rfl, rfl, ?_⟩
  have q : Out (Md.of X) W σ H0 H (m []) _ := q
  cases e2 : m [] with
  | bad => rw [e2] at q; exact q.elim
  | ok r => rw [e2] at q; exact q
  | xc c fs => exact absurd e2 (hno c fs)
/-- {} -/
theorem ev_d0 {pos : Pos} : PE X (.Dict [] [] pos) (tE (Md.of X) W (gCon (.dct []))) := pe_dnewK.imp fun σ H Q ⟨H0, ρ, hs, hr, q⟩ p hp =>
  (show Fin X.K H0 H (.T, .dct []) Q from q).newT hs ⟨p, [], [], rfl, rfl, upd_same, ⟨Nat.zero_le _, by simp⟩, rfl, rfl⟩ hp
/-- {k: v}: one entry -/
def gD1 (gk gv : GE) : GE := fun ρ => (gk ρ).bind fun k => (gv ρ).bind fun v => match keyOf k.2 with
  | some ky => .ok (if v.1 = .T then .T else .R, .dct [(ky, v.2)])
  | none => .bad
theorem ev_d1 {ke ve : Expr} {pos : Pos} {gk gv : GE} (hk : PE X ke (tE (Md.of X) W gk)) (hv : PE X ve (tE (Md.of X) W gv)) : PE X (.Dict [some ke] [ve] pos) (tE (Md.of X) W (gD1 gk gv)) :=
  (pe_disp (pps_cons hk hv pps_nil) (by rfl) (by rfl) (fun z => by cases z) (by show 1 ≤ 15; decide)).imp fun σ H Q ⟨H0, ρ, hs, hr, q⟩ p hp => by
  have e0 := Ext.lay0 hs hp (.dK [])
  show tE _ _ gk σ _ fun x H1 => tE _ _ gv σ H1 fun y H2 => _
  refine ⟨H0, ρ, e0.s1, hr, Out.after e0 (Out.bind q) fun k qk => fun kv H1 H01 F e s fr => ?_⟩
  obtain ⟨e1, r1⟩ := e.letgo s fr
  refine ⟨_, ρ, e1.s1, hr.mono e1.s0, Out.after (e0.trans e1) (Out.bind qk) fun v qv => fun vv H2 H02 G e2 s2 fr2 => ?_⟩
  split at qv
  · rename_i ky hky
    have qv : Fin X.K H0 H (if v.1 = .T then .T else .R, .dct [(ky, v.2)]) Q := qv
    have ek := keyOf_rep hky r1
    subst ek
    have eA := (e0.trans e1).trans e2
    have p1 : H1 p = some (.dK []) := e.s _ _ upd_same
    have p2 : H2 p = some (.dK []) := e2.s _ _ p1
    have p0 : H02 p = none := by
      cases z : H02 p with
      | none => rfl
      | some o =>
        have := eA.new p (hs.free hp) (by rw [z]; simp)
        have z2 := e2.s1 _ _ z
        -- it is nobody's but the new dict
        have z3 : (addF H01 H1 F) p = none := by
          rw [addF_out (fun h => by have := (fr.2 p h).1; rw [upd_same] at this; cases this)]
          cases z4 : H01 p with
          | none => rfl
          | some o' => have := e.new p (hs.free hp) (by rw [z4]; simp); rw [upd_same] at this; cases this
        have := e2.new p z3 (by rw [z]; simp)
        rw [p1] at this; cases this
    refine ⟨p2, [(ky, vv)], rfl, by simp, ?_⟩
    show Q (.ref p) (upd H2 p (.dK [(ky, vv)]))
    have pG : p ∉ G := fun h => by have := (fr2.2 p h).1; rw [p1] at this; cases this
    have eB : ∀ {A0 : Hp}, Ext H0 H A0 H2 → A0 p = none → Ext H0 H A0 (upd H2 p (.dK [(ky, vv)])) := fun {A0} x z => ⟨x.s0, fun b o h => by rw [upd_ne (fun y => by subst y; rw [z] at h; cases h)]; exact x.s1 b o h, fun b o h => by rw [upd_ne (ne_of_none h hp)]; exact x.s b o h, x.new⟩
    have one : (1 : Nat) ≤ sizeLine := by decide
    by_cases hT : v.1 = .T
    · rw [if_pos hT] at qv
      obtain ⟨vf, vd⟩ := v
      obtain rfl : vf = .T := hT
      have t2 : Tree (upd H2 p (.dK [(ky, vv)])) vd vv G := Tree.agree _ _ _ (fun b hb o h => by rw [upd_ne (fun y => pG (by rw [← y]; exact hb))]; exact h) s2
      refine qv _ _ H02 (p :: G) (eB eA p0) ⟨p, _, G, rfl, rfl, upd_same, ⟨one, by simp⟩, vv, [], G, [], rfl, by simp, t2, rfl, rfl⟩ ⟨List.nodup_cons.mpr ⟨pG, fr2.1⟩, fun b hb => ?_⟩
      rcases List.mem_cons.mp hb with rfl | hb
      · exact ⟨hp, p0⟩
      · exact ⟨(e0.trans e1).s.free (fr2.2 b hb).1, (fr2.2 b hb).2⟩
    · rw [if_neg hT] at qv
      obtain ⟨e3, r3⟩ := e2.letgo s2 fr2
      have p3 : (addF H02 H2 G) p = none := by rw [addF_out pG]; exact p0
      refine qv _ _ _ [p] (eB ((e0.trans e1).trans e3) p3) ⟨p, _, rfl, rfl, upd_same, _, rfl, ⟨one, by simp⟩, vv, [], rfl, r3, rfl⟩ ⟨by simp, fun b hb => ?_⟩
      rw [List.mem_singleton.mp hb]
      exact ⟨hp, p3⟩
  · exact qv.elim
/-- isinstance(x, (S, T)) -/
def gIsi2 (S T : String) (g : GE) : GE := fun ρ => (g ρ).bind fun x => match x.2 with
  | .ins _ _ _ => .bad
  | d => .ok (.T, .bl (isT S d || isT T d))
theorem isi2_some {S T : String} {d : D} {M : Md} {W : WX} {σ : L2.St} {H0 H : Hp} {P : FD → Prop} (o : Out M W σ H0 H (match d with | .ins _ _ _ => .bad | d => .ok (.T, .bl (isT S d || isT T d))) P) : isO d = false ∧ P (.T, .bl (isT S d || isT T d)) := by
  cases d <;> first | exact ⟨rfl, o⟩ | exact o.elim
end
end VL
end

section
set_option Elab.async false
set_option maxRecDepth 100000
set_option linter.all false
/-! The value layer, 15: what is never reached; isinstance of two. -/
namespace VL
open PySem PySem.Spec PyProof.Rows L2
section
variable {X : Cx} {W : WX} {B : Bs}
def gNever : GS := fun _ => .bad
theorem ss_never {st : Stmt} : PS X st (tS (Md.of X) W gNever) := (ps_never (X := X) (st := st)).imp fun D σ H ⟨B, ρ, e, q⟩ => q
theorem kitAny2 {K : PySem.W.Frag} {a S T : String} {b c : Bool} (h1 : kitB a S = some b) (h2 : kitB a T = some c) : PySem.W.kitAny K (.type a) [.type S, .type T] = some (b || c) := by
  simp only [PySem.W.kitAny, kit_ty h1, kit_ty h2]
  cases b <;> cases c <;> rfl
theorem ev_isi2 {p p1 p2 tp pos : Pos} {kk : Nat} {e : Expr} {y z : Str} {S T : String} {g : GE} (hg : Gl X "isinstance") (hm : X.mg "isinstance" = none) (hgS : Gl X y) (hmS : X.mg y = none) (hvS : bootBuiltins y = some (.type S)) (hgT : Gl X z) (hmT : X.mg z = none) (hvT : bootBuiltins z = some (.type T))
    (k1 : kits S = true) (k2 : kits T = true) (he : PE X e (tE (Md.of X) W g))
    (hs : starEach [e, .Tuple [.Name y p1, .Name z p2] kk tp] X.env = (false, eval e X.env) :: starEach [.Tuple [.Name y p1, .Name z p2] kk tp] X.env := by rfl) (hnS : y ≠ "__name__" := by decide) (hdS : (y == ("__debug__" : Str)) = false := by decide) (hnT : z ≠ "__name__" := by decide) (hdT : (z == ("__debug__" : Str)) = false := by decide) :
    PE X (.Call (.Name "isinstance" p) [e, .Tuple [.Name y p1, .Name z p2] kk tp] [] pos) (tE (Md.of X) W (gIsi2 S T g)) :=
  (pe_callB call_isiT hg hm (by decide +kernel) (pa_cons he (pa_cons (pe_tup (pa_cons (pe_bltn (v := .ty S) hgS hmS hvS rfl hnS hdS) (pa_cons (pe_bltn (v := .ty T) hgT hmT hvT rfl hnT hdT) pa_nil))) pa_nil) hs) (by decide) (by decide) hs).imp fun σ H Q q => by
    show tE _ _ g σ H fun x H1 => 2 ≤ sizeLine ∧ ∀ p, H1 p = none → rIsiT X.K [x, .ref p] (upd H1 p (.tup [.ty S, .ty T])) Q
    refine one (f := fun d => match d with | .ins _ _ _ => .bad | d => .ok (.T, .bl (isT S d || isT T d))) q fun x H1 H01 a hs ra q => ⟨by decide, fun p hp => ?_⟩
    have q := isi2_some q
    have e := Ext.lay0 hs hp (.tup [.ty S, .ty T])
    refine ⟨x, p, [.ty S, .ty T], _, [.type S, .type T], _, rfl, upd_same, .cons (.ty S) (.cons (.ty T) .nil), rep_ty q.1 (Rep.mono e.s1 _ _ ra), kitAny2 (kits_at k1 a) (kits_at k2 a), ?_⟩
    exact Fin.atom (K := X.K) (Fin.after e q.2) e.s1 ⟨rfl, rfl⟩
/-- an exception class of the text, without an __init__ -/
structure Exc0 (K : PySem.W.Frag) (mg : Str → Option Value) (x : Str) (C : Addr) (bm : List Value) : Prop where
  g : mg x = some (.ref C)
  x : PySem.W.excIn K C bm "ValueError.__new__" = true
  k : PySem.W.keepIn K (.ref C) = true
  b : PySem.W.subIn K (.ref C) (.type "BaseException") = some true
  t : PySem.W.typeIn K (.ref C) = some (.type "type")
end
end VL
end

section
set_option Elab.async false
set_option maxRecDepth 100000
set_option linter.all false
/-! The value layer, 16: trees that a def changes in place. -/
namespace VL
open PySem PySem.Spec PyProof.Rows L2

theorem Trees.at {H : Hp} : ∀ {ds : List D} {vs : List V} {F : List Addr} {i : Nat} {d : D}, Trees H ds vs F → ds[i]? = some d → ∃ v A G C, vs[i]? = some v ∧ F = A ++ (G ++ C) ∧ Tree H d v G ∧
    ∀ (H' : Hp) (d' : D) (G' : List Addr), (∀ p, p ∈ A ∨ p ∈ C → ∀ o, H p = some o → H' p = some o) → Tree H' d' v G' → Trees H' (ds.set i d') vs (A ++ (G' ++ C))
  | [], _, _, _, _, _, e => by simp at e
  | x :: ds, _, _, 0, d, ⟨v, t, G1, G2, e1, e2, s, q⟩, e => by
    subst e1 e2
    simp at e; subst e
    exact ⟨v, [], G1, G2, rfl, rfl, s, fun H' d' G' h t' => ⟨v, _, G', G2, rfl, rfl, t', Trees.agree _ _ _ (fun p hp => h p (.inr hp)) q⟩⟩
  | x :: ds, _, _, i + 1, d, ⟨v, t, G1, G2, e1, e2, s, q⟩, e => by
    subst e1 e2
    obtain ⟨w, A, G, C, h1, rfl, h3, h4⟩ := Trees.at (i := i) (d := d) q (by simpa using e)
    refine ⟨w, G1 ++ A, G, C, by simpa using h1, by simp, h3, fun H' d' G' h t' => ?_⟩
    refine ⟨v, t, G1, A ++ (G' ++ C), rfl, by simp, Tree.agree _ _ _ (fun p hp => h p (.inl (List.mem_append_left _ hp))) s, ?_⟩
    exact h4 H' d' G' (fun p hp => h p (hp.imp (List.mem_append_right _) id)) t'
theorem TreeK.at {H : Hp} {k : Key} {d : D} : ∀ {ds : List (Key × D)} {vs : List (Key × V)} {F : List Addr}, TreeK H ds vs F → (ds.map (·.1)).Nodup → look ds k = some d → ∃ v A G C, valV vs k = some v ∧ F = A ++ (G ++ C) ∧ Tree H d v G ∧
    ∀ (H' : Hp) (d' : D) (G' : List Addr), (∀ p, p ∈ A ∨ p ∈ C → ∀ o, H p = some o → H' p = some o) → Tree H' d' v G' → TreeK H' (putD ds k d') vs (A ++ (G' ++ C))
  | [], _, _, _, _, e => by simp [look] at e
  | (j, x) :: ds, _, _, ⟨v, t, G1, G2, e1, e2, s, q⟩, nd, e => by
    subst e1 e2
    simp only [List.map_cons, List.nodup_cons] at nd
    by_cases hj : j = k
    · subst hj
      have ex : x = d := by
        have : look ((j, x) :: ds) j = some x := by simp [look, List.find?_cons]
        rw [this] at e; exact Option.some.inj e
      subst ex
      refine ⟨v, [], G1, G2, by simp [valV, List.find?_cons], rfl, s, fun H' d' G' h t' => ?_⟩
      have e3 : putD ((j, x) :: ds) j d' = (j, d') :: ds := by
        unfold putD
        rw [if_pos (by simp), List.map_cons, if_pos rfl, repl_none nd.1]
      rw [e3]
      exact ⟨v, _, G', G2, rfl, rfl, t', TreeK.agree _ _ _ (fun p hp => h p (.inr hp)) q⟩
    · have e4 : look ((j, x) :: ds) k = look ds k := by simp [look, List.find?_cons, hj]
      rw [e4] at e
      obtain ⟨w, A, G, C, h1, rfl, h3, h4⟩ := TreeK.at q nd.2 e
      refine ⟨w, G1 ++ A, G, C, by rw [valV_neg hj]; exact h1, by simp, h3, fun H' d' G' h t' => ?_⟩
      have inn : (ds.any fun kv => decide (kv.1 = k)) = true := by
        cases hf : ds.find? fun kv => decide (kv.1 = k) with
        | none => simp [look, hf] at e
        | some p => exact List.any_eq_true.mpr ⟨p, List.mem_of_find?_eq_some hf, List.find?_some (p := fun kv : Key × D => decide (kv.1 = k)) hf⟩
      have e5 : putD ((j, x) :: ds) k d' = (j, x) :: putD ds k d' := by
        unfold putD
        rw [inn, if_pos rfl, if_pos (by rw [List.any_cons, inn, Bool.or_true]), List.map_cons, if_neg hj]
      rw [e5]
      refine ⟨v, t, G1, A ++ (G' ++ C), rfl, by simp, Tree.agree _ _ _ (fun p hp => h p (.inl (List.mem_append_left _ hp))) s, ?_⟩
      exact h4 H' d' G' (fun p hp => h p (hp.imp (List.mem_append_right _) id)) t'
theorem nodup_mid {A G C G' : List Addr} (nf : (A ++ (G ++ C)).Nodup) (ng : G'.Nodup) (h : ∀ p ∈ G', p ∈ G ∨ (p ∉ A ∧ p ∉ C)) : (A ++ (G' ++ C)).Nodup := by
  obtain ⟨n1, n2, n3⟩ := List.nodup_append.mp nf
  obtain ⟨m1, m2, m3⟩ := List.nodup_append.mp n2
  refine List.nodup_append.mpr ⟨n1, List.nodup_append.mpr ⟨ng, m2, fun x hx y hy e => ?_⟩, fun x hx y hy e => ?_⟩
  · subst e
    rcases h x hx with h | h
    · exact m3 x h x hy rfl
    · exact h.2 hy
  · subst e
    rcases List.mem_append.mp hy with hy | hy
    · rcases h x hy with h | h
      · exact n3 x hx x (List.mem_append_left _ h) rfl
      · exact h.1 hx
    · exact n3 x hx x (List.mem_append_right _ hy) rfl
/-- what stands outside F stays -/
def Off (F : List Addr) (H H' : Hp) : Prop := ∀ p o, p ∉ F → H p = some o → H' p = some o
/-- F' is of F, or new -/
def Grown (F : List Addr) (H : Hp) (F' : List Addr) : Prop := ∀ p ∈ F', p ∈ F ∨ H p = none
/-- a def that changes the tree it gets, and tells an int -/
def spIO (m : D → Int → Option (D × Int)) : Sp := fun vs H Q _ => ∃ d v n F d' n', vs = [v, .int n] ∧ Tree H d v F ∧ F.Nodup ∧ m d n = some (d', n') ∧
  ∀ H' F', Tree H' d' v F' → F'.Nodup → Grown F H F' → Off F H H' → Q (.int n') H'
theorem spIO_len {m : D → Int → Option (D × Int)} {vs : List V} {H : Hp} {Q : VK} {E : XK} (h : spIO m vs H Q E) : vs.length = 2 := by
  obtain ⟨_, _, _, _, _, _, e, _⟩ := h
  rw [e]; rfl
structure CalIO (P : Program) (w : World) (K : PySem.W.Frag) (mg : Str → Option Value) (base : Heap) (k : Nat) (x : Str) (ps : List Str) (m : D → Int → Option (D × Int)) : Prop where
  ex : ∃ (f : Addr) (fd : FuncData), FnOk P w K mg base (L2.CX P w) k f fd ps (spIO m) ∧ mg x = some (.ref f) ∧ PySem.W.keepIn K (.ref f) = true ∧ Binds K fd ps []
/-- a slot's tree is changed by a call -/
theorem EnvAt.io {K : PySem.W.Frag} {B : Bs} {σ : L2.St} {ρ : DE} {H H0 H' : Hp} {F : Nat → List Addr} (e : EnvAt K B σ ρ H H0 F) {i : Nat} {d d' : D} {v : V} {G : List Addr} (hρ : ρ[i]? = some (some (.T, d))) (hσ : σ[i]? = some (some v)) (t : Tree H' d' v G) (nd : G.Nodup) (g : Grown (F i) H G) (o : Off (F i) H H') :
    EnvAt K B σ (ρ.set i (some (.T, d'))) H' H0 (fun j => if j = i then G else F j) := by
  have hil : i < ρ.length := by
    by_cases hl : i < ρ.length
    · exact hl
    · rw [List.getElem?_eq_none (by simpa using hl)] at hρ; cases hρ
  have s0 : Same H0 H' := fun p u q => o p u (fun hp => by rw [((e.fr i).2 p hp).2] at q; cases q) (e.s0 p u q)
  have mem : ∀ p ∈ G, (∀ b ∈ B, b.2 p = none) ∧ H0 p = none ∧ ∀ j, j ≠ i → p ∉ F j := fun p hp => by
    rcases g p hp with h | h
    · exact ⟨((e.fr i).2 p h).1, ((e.fr i).2 p h).2, fun j hj hpj => e.dj i j (Ne.symm hj) p h hpj⟩
    · exact ⟨e.free h, e.s0.free h, fun j hj hpj => e.th j p hpj h⟩
  refine ⟨s0, fun b hb => ⟨(e.ext b hb).s0, s0, fun p u q => o p u (fun hp => by rw [((e.fr i).2 p hp).1 b hb] at q; cases q) ((e.ext b hb).s p u q), (e.ext b hb).new⟩, fun j y hy => ?_, fun j => ?_, fun j p hp => ?_, fun j l hjl p hp => ?_, by simp [e.len]⟩
  · by_cases hj : j = i
    · subst hj
      rw [List.getElem?_set_self hil] at hy; cases hy
      exact ⟨v, hσ, by simp only [if_pos]; exact t⟩
    · rw [List.getElem?_set_ne (Ne.symm hj)] at hy
      obtain ⟨w, h1, h2⟩ := e.sl j y hy
      refine ⟨w, h1, ?_⟩
      simp only [if_neg hj]
      exact h2.mono (Same.refl _) fun p hp u q => o p u (fun h => e.dj j i hj p hp h) q
  · by_cases hj : j = i
    · simp only [if_pos hj]; exact ⟨nd, fun p hp => ⟨(mem p hp).1, (mem p hp).2.1⟩⟩
    · simp only [if_neg hj]; exact e.fr j
  · by_cases hj : j = i
    · simp only [if_pos hj] at hp; exact Tree.there _ _ _ t p hp
    · simp only [if_neg hj] at hp
      intro z
      cases q : H p with
      | none => exact e.th j p hp q
      | some u => have := o p u (fun h => e.dj j i hj p hp h) q; rw [z] at this; cases this
  · by_cases hj : j = i
    · simp only [if_pos hj] at hp
      by_cases hl : l = i
      · exact absurd (hj.trans hl.symm) hjl
      · simp only [if_neg hl]; exact (mem p hp).2.2 l hl
    · simp only [if_neg hj] at hp
      by_cases hl : l = i
      · simp only [if_pos hl]; exact fun h => (mem p h).2.2 j hj hp
      · simp only [if_neg hl]; exact e.dj j l hjl p hp
section
variable {X : Cx} {W : WX}
/-- if f(x, 0) != f(y, 0) or not t: .. where f changes what it gets -/
def gIfIO (i j : Nat) (m : D → Int → Option (D × Int)) (vs : List Nat) (c : GT) (g k : GS) : GS := fun ρ => if i = j then .bad else match ρ[i]?, ρ[j]? with
  | some (some (.T, a)), some (some (.T, b)) => match m a 0, m b 0 with
    | some (a', n), some (b', n') =>
      let ρ' := (ρ.set i (some (.T, a'))).set j (some (.T, b'))
      if n = n' then viaE vs (c (viewF vs 0 ρ')) ρ' fun t => if t = true then k ρ' else g ρ' else g ρ'
    | _, _ => .bad
  | _, _ => .bad
theorem ss_ifIO {x : Str} {ps : List Str} {k0 : Nat} {i j : Nat} {m : D → Int → Option (D × Int)} {vs : List Nat} {e1 e2 e3 : Expr} {a b : List Stmt} {p1 p2 p3 p4 pos pc pb pn : Pos} {j1 j2 : Nat} {q1 q2 : Pos} {c : GT} {g k : GS} (C : CalIO X.prog X.w X.K X.mg X.base k0 x ps m) (hr : Room k0 X.A) (hg : Gl X x) (tk : Takes X W)
    (h1 : PE X e1 (tVar i)) (h2 : PE X e2 (tVar j)) (h3 : PT X e3 (tT (Md.of X) W c)) (ha : PSs X a (tS (Md.of X) W g)) (hb : PSs X b (tS (Md.of X) W k)) (hdb : (x == ("__debug__" : Str)) = false := by decide)
    (s1 : starEach [e1, .Constant (.int 0) j1 q1] X.env = (false, eval e1 X.env) :: starEach [.Constant (.int 0) j1 q1] X.env := by rfl) (s2 : starEach [e2, .Constant (.int 0) j2 q2] X.env = (false, eval e2 X.env) :: starEach [.Constant (.int 0) j2 q2] X.env := by rfl) :
    PS X (.If (.BoolOp .Or [.Compare (.Call (.Name x p1) [e1, .Constant (.int 0) j1 q1] [] p2) [.NotEq] [.Call (.Name x p3) [e2, .Constant (.int 0) j2 q2] [] p4] pc, .UnaryOp .Not e3 pn] pb) a b pos) (tS (Md.of X) W (gIfIO i j m vs c g k)) := by
  obtain ⟨f, fd, F, hm, hk, hbd⟩ := C.ex
  have c1 := pe_callS (p := p1) (pos := p2) F hr hg hm hk hbd (passAt tk) (pa_cons h1 (pa_cons (pe_int (i := 0) (j := j1) (pos := q1)) pa_nil (by rfl)) s1) hdb s1 (by rfl)
  have c2 := pe_callS (p := p3) (pos := p4) F hr hg hm hk hbd (passAt tk) (pa_cons h2 (pa_cons (pe_int (i := 0) (j := j2) (pos := q2)) pa_nil (by rfl)) s2) hdb s2 (by rfl)
  refine (ps_if (PW.pt (pw_or (pt_cmpR op_ne c1 c2 (nomark _)) (pw_or1 (pt_not h3)))) ha hb).imp fun D σ H ⟨B, ρ, ⟨H0, F0, e⟩, q⟩ => ?_
  unfold gIfIO at q
  split at q
  · exact q.elim
  · rename_i hij
    split at q
    · rename_i A Bd hx hy
      split at q
      · rename_i A' n B' n' hmA hmB
        obtain ⟨v, hv, tv⟩ := e.sl i _ hx
        obtain ⟨u, hu, tu⟩ := e.sl j _ hy
        -- the first call
        refine ⟨v, hv, A, v, 0, F0 i, A', n, rfl, tv, (e.fr i).1, hmA, fun H1 G1 t1 n1 g1 o1 => ?_⟩
        have e1 := e.io hx hv t1 n1 g1 o1
        have hy1 : (ρ.set i (some (.T, A')))[j]? = some (some (.T, Bd)) := by rw [List.getElem?_set_ne hij]; exact hy
        obtain ⟨u', hu', tu'⟩ := e1.sl j _ hy1
        rw [hu] at hu'; cases hu'
        have hji : ¬ j = i := fun z => hij z.symm
        simp only [if_neg hji] at tu'
        refine ⟨u, hu, Bd, u, 0, F0 j, B', n', rfl, tu', (e.fr j).1, hmB, fun H2 G2 t2 n2 g2 o2 => ?_⟩
        have e2 := e1.io hy1 hu t2 n2 (by simp only [if_neg hji]; exact g2) (by simp only [if_neg hji]; exact o2)
        refine ⟨rfl, _, rfl, ?_⟩
        by_cases hn : n = n'
        · subst hn
          have q : OutS (Md.of X) W B D (if n = n then _ else _) := q
          rw [if_pos rfl] at q
          rw [if_neg (by simp)]
          refine ⟨_, _, e2.viewS vs, e2.view vs, via (K := X.K) e2 q fun t _ qt => fun H3 H03 ex => ?_⟩
          cases t with
          | true => exact ⟨B, _, ⟨_, _, e2.keep ex.s⟩, qt⟩
          | false => exact ⟨B, _, ⟨_, _, e2.keep ex.s⟩, qt⟩
        · have q : OutS (Md.of X) W B D (if n = n' then _ else _) := q
          rw [if_neg hn] at q
          have : (!decide (V.int n = V.int n')) = true := by simp [hn]
          rw [this]
          have fin : tS (Md.of X) W g D σ H2 := ⟨B, _, ⟨_, _, e2⟩, q⟩
          simpa using fin
      · exact q.elim
    · exact q.elim
end
end VL
end

section
set_option Elab.async false
set_option maxRecDepth 100000
set_option linter.all false
/-! The value layer, 17: dict(pairs) of fresh pairs. -/
namespace VL
open PySem PySem.Spec PyProof.Rows L2
theorem keyOf_tree {H : Hp} {d : D} {k : Key} {w : V} {G : List Addr} (hk : keyOf d = some k) (t : Tree H d w G) : w = kV k ∧ G = [] := by
  cases d <;> simp only [keyOf] at hk <;> first | (cases hk; done) | skip
  · cases hk; exact t
  · cases hk; exact t
theorem trees_pairs {K : PySem.W.Frag} {H : Hp} : ∀ {ds : List D} {vs : List V} {F : List Addr} {kds : List (Key × D)}, asPairs ds = some kds → Trees H ds vs F → F.Nodup →
    ∃ ps kvs F', vs = ps.map V.ref ∧ Paired (fun p kv => SqT K H p [kV kv.1, kv.2]) ps kvs ∧ TreeK H kds kvs F' ∧ F'.Nodup ∧ ∀ p ∈ F', p ∈ F
  | [], _, _, _, h, r, _ => by cases h; obtain ⟨rfl, rfl⟩ := r; exact ⟨[], [], [], rfl, .nil, ⟨rfl, rfl⟩, List.nodup_nil, fun p hp => hp⟩
  | d :: ds, _, _, _, h, ⟨v, t, G1, G2, e, e2, s, q⟩, nf => by
    subst e e2
    unfold asPairs at h
    split at h <;> first | (cases h; done) | skip
    · rename_i heq; cases heq
    · rename_i heq
      cases heq
      obtain ⟨k, hk, h⟩ := Option.bind_eq_some_iff.mp h
      obtain ⟨kt, ht, rfl⟩ := Option.map_eq_some_iff.mp h
      obtain ⟨n1, n2, n3⟩ := List.nodup_append.mp nf
      obtain ⟨a, vs, Ga, rfl, rfl, ha, _, w1, t1, Gk, Gr, rfl, rfl, r1, w2, t2, Gd, Ge, rfl, rfl, r2, rfl, rfl⟩ := s
      obtain ⟨ps, kvs, F', rfl, pp, rr, nf', sub⟩ := trees_pairs (K := K) ht q n2
      obtain ⟨rfl, rfl⟩ := keyOf_tree hk r1
      simp only [List.nil_append, List.append_nil] at n1 n3 ⊢
      obtain ⟨m1, m2⟩ := List.nodup_cons.mp n1
      refine ⟨a :: ps, (k, w2) :: kvs, Gd ++ F', rfl, .cons (SqT.of ha) pp, ⟨w2, kvs, Gd, F', rfl, rfl, r2, rr⟩, List.nodup_append.mpr ⟨m2, nf', fun x hx y hy => n3 x (List.mem_cons_of_mem _ hx) y (sub y hy)⟩, fun p hp => ?_⟩
      rcases List.mem_append.mp hp with hp | hp
      · exact List.mem_append_left _ (List.mem_cons_of_mem _ hp)
      · exact List.mem_append_right _ (sub p hp)
theorem mergeD_tree {H : Hp} : ∀ {more : List (Key × D)} {mv : List (Key × V)} {kds : List (Key × D)} {kvs : List (Key × V)} {F G : List Addr}, TreeK H more mv G → TreeK H kds kvs F → (kds.map (·.1)).Nodup → (F ++ G).Nodup →
    ∃ F', TreeK H (mergeD kds more) (mergeK kvs mv) F' ∧ F'.Nodup ∧ ∀ p ∈ F', p ∈ F ∨ p ∈ G
  | [], _, _, _, F, _, r, q, _, nf => by obtain ⟨rfl, rfl⟩ := r; exact ⟨F, q, by simpa using nf, fun p hp => .inl hp⟩
  | (k, d) :: r, _, _, _, F, _, ⟨v, t, G1, G2, e, e2, s, q'⟩, q, nd, nf => by
    subst e e2
    rw [← List.append_assoc] at nf
    obtain ⟨n1, n2, n3⟩ := List.nodup_append.mp nf
    obtain ⟨F1, h1, h2, h3⟩ := q.put s nd n1
    obtain ⟨F2, h4, h5, h6⟩ := mergeD_tree (more := r) q' h1 (putD_nodup k d nd) (List.nodup_append.mpr ⟨h2, n2, fun x hx y hy => n3 x (List.mem_append.mpr (h3 x hx)) y hy⟩)
    refine ⟨F2, h4, h5, fun p hp => ?_⟩
    rcases h6 p hp with h | h
    · exact (h3 p h).imp id (List.mem_append_left _)
    · exact .inr (List.mem_append_right _ h)
def gDictT (g : GE) : GE := fun ρ => (g ρ).bind fun x => match x with
  | (fl, .lst ds) => match asPairs ds with
    | some kds => .ok (if fl = .T then .T else .R, .dct (mergeD [] kds))
    | none => .bad
  | _ => .bad
section
variable {X : Cx} {W : WX}
theorem ev_dictT {x : Str} {p pos : Pos} {e : Expr} {g : GE} (hc : X.calm = true) (hg : Gl X x) (hm : X.mg x = none) (hv : bootBuiltins x = some (.type "dict")) (he0 : PE X e (tE (Md.of X) W g))
    (hn : x ≠ "__name__" := by decide) (hdb : (x == ("__debug__" : Str)) = false := by decide)
    (he : starEach (e :: []) X.env = (false, eval e X.env) :: starEach [] X.env := by rfl) (hpl : (backTo pos (starEach [] X.env)).any (·.1) = false := by rfl) :
    PE X (.Call (.Name x p) [e] [] pos) (tE (Md.of X) W (gDictT g)) := (pe_callTy (call_dictP hc) hg hm hv (pa_cons he0 pa_nil he) hn hdb he hpl).imp fun σ H Q ⟨H0, ρ, hs, hr, q⟩ => by
  refine ⟨H0, ρ, hs, hr, (Out.bind q).imp fun x qx => fun v H1 H01 F e s fr => ?_⟩
  obtain ⟨fl, d⟩ := x
  cases d with
  | lst ds =>
    simp only at qx
    split at qx
    · rename_i kds hk
      have qx : Fin X.K H0 H (if fl = .T then .T else .R, .dct (mergeD [] kds)) Q := qx
      have h1 := mergeD_length (more := kds) (kds := [])
      have h2 := asPairs_length hk
      simp only [List.length_nil] at h1
      by_cases hT : fl = .T
      · subst hT
        rw [if_pos rfl] at qx
        obtain ⟨a, vs, G, rfl, rfl, ha, hz, tr⟩ := s
        obtain ⟨nf, ff⟩ := fr
        obtain ⟨na, nG⟩ := List.nodup_cons.mp nf
        obtain ⟨ps, kvs, F', rfl, pp, rr, nf', sub⟩ := trees_pairs (K := X.K) hk tr nG
        refine ⟨a, ps, kvs, rfl, SqL.of ha, pp, fun p hp => ?_⟩
        obtain ⟨F2, t2, n2, s2⟩ := mergeD_tree rr (kds := []) (kvs := []) (F := []) ⟨rfl, rfl⟩ (by simp) (by simpa using nf')
        have s2' : ∀ q ∈ F2, q ∈ F' := fun q hq => (s2 q hq).elim (fun h => absurd h (by simp)) id
        have pn : p ∉ F2 := fun h => TreeK.there _ _ _ rr p (s2' p h) hp
        have e2 := Ext.lay0 e.s1 hp (.dK (mergeK [] kvs))
        refine qx (.ref p) _ H01 (p :: F2) (e.trans e2) ⟨p, _, F2, rfl, rfl, upd_same, ⟨by omega, mergeD_nodup (by simp)⟩, TreeK.agree _ _ _ (fun q hq o h => ?_) t2⟩ ⟨List.nodup_cons.mpr ⟨pn, n2⟩, fun q hq => ?_⟩
        · rw [upd_ne (fun z => pn (by rw [← z]; exact hq))]; exact h
        · rcases List.mem_cons.mp hq with rfl | hq
          · exact ⟨e.s.free hp, e.s1.free hp⟩
          · exact ff q (List.mem_cons_of_mem _ (sub q (s2' q hq)))
      · rw [if_neg hT] at qx
        obtain ⟨e1, r1⟩ := e.letgo s fr
        obtain ⟨a, vs, rfl, h, z, q⟩ := r1
        obtain ⟨ps, kvs, rfl, pp, rr⟩ := asPairs_rep hk q
        refine ⟨a, ps, kvs, rfl, SqL.of (e1.s1 _ _ h), Paired.mapP pp fun p kv h => same_seqT e1.s1 h, fun p hp => ?_⟩
        exact Fin.newR (Fin.after e1 qx) e1.s1 ⟨_, rfl, ⟨by omega, mergeD_nodup (by simp)⟩, mergeD_ok rr rfl⟩ hp
    · exact qx.elim
  | _ => exact qx.elim
end
end VL
end

section
set_option Elab.async false
set_option maxRecDepth 100000
set_option linter.all false
/-! The value layer, 18: the order of tuples of any form. -/
namespace VL
open PySem PySem.Spec PyProof.Rows L2
/-- what is asked of the items up to the first pair that differs -/
inductive LexAt (A : Around) (s : Shared) : List Value → List Value → Bool → Prop
  | nil {ys : List Value} : LexAt A s [] ys (decide (0 < ys.length))
  | nil2 {x : Value} {xs : List Value} : LexAt A s (x :: xs) [] false
  | eq {x y : Value} {xs ys : List Value} {b : Bool} : SeqAt.EqAt A s x y true → LexAt A s xs ys b → LexAt A s (x :: xs) (y :: ys) b
  | ne {x y : Value} {xs ys : List Value} {b : Bool} : SeqAt.EqAt A s x y false → Ob.RcOp .Lt A s x y b → LexAt A s (x :: xs) (y :: ys) b
theorem tuple_ltL (l b : Addr) (items items2 : Array Value) (n n2 : Nat) (dd dd2 : Option Addr) (sl sl2 : Array (Option Value)) (res : Bool) :
    Meets (Builtin.«tuple.__lt__» ⟨[.ref l, .ref b], []⟩) fun A R s => s.heap.get? l = some { cls := .type "tuple", dict := dd, data := .seq items n, slots := sl } ∧ s.heap.get? b = some { cls := .type "tuple", dict := dd2, data := .seq items2 n2, slots := sl2 } ∧ LexAt A.in1 s items.toList items2.toList res ∧ R (.ok (.ret (.bool res))) s := by
  refine Meets.of_wp fun prog w A R s h => ?_
  obtain ⟨hp, g, dr, tk, os⟩ := s
  obtain ⟨h1, h2, hl, hR⟩ := h
  refine wpAny_bind (wpAny_of_eq (a := (.ref l, [.ref b])) rfl ?_)
  refine wpAny_bind (wpAny_bind (wpAny_bind (wpAny_loadPart' h2 (wpAny_pure ?_))))
  refine wpAny_of_eq AutoSeq1.sub_tuple_tuple ?_
  refine wpAny_ite_false rfl ?_
  refine wpAny_bind (wpAny_bind (wpAny_bind (wpAny_load' h1 ?_)))
  refine wpAny_pure (wpAny_pure ?_)
  refine wpAny_bind (wpAny_bind (wpAny_bind (wpAny_load' h2 ?_)))
  refine wpAny_pure (wpAny_pure ?_)
  refine wpAny_bind (wpAny_forIn_list _ (fun rest (b : Option PySem.Fin × Unit) s' => s' = ⟨hp, g, dr, tk, os⟩ ∧ b = (none, ()) ∧ ∃ xs ys k, rest = List.zip xs ys ∧ LexAt A.in1 ⟨hp, g, dr, tk, os⟩ xs ys res ∧ xs.length + k = items.size ∧ ys.length + k = items2.size) _ ?_ ?_ _ _ ⟨rfl, rfl, items.toList, items2.toList, 0, rfl, hl, by simp, by simp⟩)
  · rintro ⟨x, y⟩ rest b s' ⟨rfl, rfl, xs, ys, k, e, hx, hs1, hs2⟩
    cases hx with
    | nil => cases e
    | nil2 => cases e
    | eq he hx =>
      cases e
      refine wpAny_bind (he prog w _ _ ?_)
      refine wpAny_ite_false rfl (wpAny_pure ?_)
      refine ⟨rfl, rfl, _, _, k + 1, rfl, hx, ?_, ?_⟩
      · simp only [List.length_cons] at hs1; omega
      · simp only [List.length_cons] at hs2; omega
    | ne he hr =>
      cases e
      refine wpAny_bind (he prog w _ _ ?_)
      refine wpAny_ite_true rfl (wpAny_bind (wpAny_rule (wpAny_bind (hr prog w _ _ ?_))))
      refine wpAny_bind (wpAny_pure (wpAny_pure ?_))
      exact wpAny_pure ⟨_, rfl, hR⟩
  · rintro b s' ⟨rfl, rfl, xs, ys, k, e, hx, hs1, hs2⟩
    refine wpAny_pure ⟨_, rfl, ?_⟩
    have : decide (items.size < items2.size) = res := by
      cases hx with
      | nil => simp only [List.length_nil] at hs1; congr 1; exact propext (by omega)
      | nil2 => simp only [List.length_cons, List.length_nil] at hs1 hs2; exact decide_eq_false (by omega)
      | eq _ _ => cases e
      | ne _ _ => cases e
    show R (.ok (.ret (.bool (decide (items.size < items2.size))))) _
    rw [this]
    exact hR
theorem tuples_ltL {A : Around} {s : Shared} {l b : Addr} {items items2 : List Value} {res : Bool} (h1 : s.heap.IsTuple l items.toArray) (h2 : s.heap.IsTuple b items2.toArray) (hu : A.units < cLine) (hl : LexAt A.in1 s items items2 res) : Ob.RcOp .Lt A s (.ref l) (.ref b) res := by
  obtain ⟨⟨c1, d1, t1, sl1⟩, e1, c1', n1, t1'⟩ := h1
  obtain ⟨⟨c2, d2, t2, sl2⟩, e2, c2', n2, t2'⟩ := h2
  cases c1'; cases c2'; cases t1'; cases t2'
  intro prog w E Q hQ
  exact richCompare_meets_room ⟨_, e1, rfl⟩ ⟨_, e2, rfl⟩ F.slot_tuple_lt F.entry_tuple_lt (F.args_tuple_lt_2 _ _) (tuple_ltL l b items.toArray items2.toArray n1 n2 d1 d2 sl1 sl2 res) ⟨e1, e2, hl, (fun z => by cases z), hQ⟩ hu
/-- tuples item by item -/
def lexO (e l : D → D → Option Bool) : List D → List D → Option Bool
  | [], ys => some (decide (0 < ys.length))
  | _ :: _, [] => some false
  | x :: xs, y :: ys => (e x y).bind fun b => if b = true then lexO e l xs ys else l x y
def ltN : Nat → D → D → Option Bool
  | n + 1, .tup xs, .tup ys => lexO (eqN n) (ltN n) xs ys
  | _, .int i, .int j => some (decide (i < j))
  | _, .str a, .str b => some (decide (a.cps.toList < b.cps.toList))
  | _, _, _ => none
theorem lexO_at {X : Cx} {H : Hp} {s : Shared} {A : Around} {e l : D → D → Option Bool} (he : ∀ d e' x y v u b, e d e' = some b → Rep X.K H d x → RelV x v → Rep X.K H e' y → RelV y u → SeqAt.EqAt A s v u b)
    (hl : ∀ d e' x y v u b, l d e' = some b → Rep X.K H d x → RelV x v → Rep X.K H e' y → RelV y u → Ob.RcOp .Lt A s v u b) :
    ∀ {ds es : List D} {xs ys : List V} {vs us : List Value} {b : Bool}, lexO e l ds es = some b → Reps X.K H ds xs → Vals xs vs → Reps X.K H es ys → Vals ys us → LexAt A s vs us b
  | [], es, _, _, _, us, b, h, r, rv, q, ru => by
    cases r; cases rv
    simp only [lexO, Option.some.injEq] at h
    subst h
    rw [q.length, ru.length]
    exact .nil
  | _ :: _, [], _, _, _, _, b, h, ⟨x, t, e1, r1, r2⟩, rv, q, ru => by
    subst e1
    cases q; cases ru
    cases rv with
    | cons _ _ =>
    simp only [lexO, Option.some.injEq] at h
    subst h
    exact .nil2
  | d :: ds, e' :: es, _, _, _, _, b, h, ⟨x, t, e1, r1, r2⟩, rv, ⟨y, t', e2, q1, q2⟩, ru => by
    subst e1 e2
    cases rv with
    | cons rv1 rv2 =>
    cases ru with
    | cons ru1 ru2 =>
    unfold lexO at h
    obtain ⟨c, hc, h⟩ := Option.bind_eq_some_iff.mp h
    cases c with
    | true =>
      rw [if_pos rfl] at h
      exact .eq (he _ _ _ _ _ _ _ hc r1 rv1 q1 ru1) (lexO_at he hl h r2 rv2 q2 ru2)
    | false =>
      rw [if_neg Bool.false_ne_true] at h
      exact .ne (he _ _ _ _ _ _ _ hc r1 rv1 q1 ru1) (hl _ _ _ _ _ _ _ h r1 rv1 q1 ru1)
theorem rc_lt_str {A : Around} {s : Shared} (a b : Str) (t u : Tok) : Ob.RcOp .Lt A s (.str a t) (.str b u) (decide (a.cps.toList < b.cps.toList)) := fun prog w E Q q => PyProof.Rows.lt_str q
theorem ltN_at {X : Cx} {pins : List (Addr × Obj)} {σ : L2.St} {H : Hp} {s : Shared} (I : Inv X pins σ H s) : ∀ (n : Nat) (A : Around) (d e : D) (x y : V) (v u : Value) (b : Bool), A.units + n < cLine → ltN n d e = some b → Rep X.K H d x → RelV x v → Rep X.K H e y → RelV y u → Ob.RcOp .Lt A s v u b
  | n, A, d, e, x, y, v, u, b, hu, h, r, rv, q, ru => by
    have base : ∀ (d e : D), (match d, e with | .int i, .int j => some (decide (i < j)) | .str a, .str b => some (decide (a.cps.toList < b.cps.toList)) | _, _ => none) = some b → Rep X.K H d x → Rep X.K H e y → Ob.RcOp .Lt A s v u b := fun d e h r q => by
      split at h <;> cases h
      · cases r; cases q
        obtain ⟨t, rfl⟩ := rv
        obtain ⟨t', rfl⟩ := ru
        exact Ob.RcOp.lt_int _ _ _ _
      · cases r; cases q
        obtain ⟨t, rfl⟩ := rv
        obtain ⟨t', rfl⟩ := ru
        exact rc_lt_str _ _ _ _
    cases n with
    | zero => exact base d e (by cases d <;> cases e <;> exact h) r q
    | succ n =>
      cases d with
      | tup xs =>
        cases e with
        | tup ys =>
          obtain ⟨a, vs, e1, h1, z, r1⟩ := r
          obtain ⟨a', ws, e2, h2, z', q1⟩ := q
          subst e1 e2
          cases rv
          cases ru
          obtain ⟨its, rl, il⟩ := Inv.isTup I h1
          obtain ⟨its2, rl2, il2⟩ := Inv.isTup I h2
          exact tuples_ltL il il2 (by omega) (lexO_at (X := X) (H := H) (fun d e x y v u b h1 h2 h3 h4 h5 => (eqN_at I n A.in1 d e x y v u b (by show A.units + 1 + n < _; omega) h1 h2 h3 h4 h5).e) (fun d e x y v u b h1 h2 h3 h4 h5 => ltN_at I n A.in1 d e x y v u b (by show A.units + 1 + n < _; omega) h1 h2 h3 h4 h5) h r1 rl q1 rl2)
        | _ => exact base (.tup xs) _ h r q
      | _ => exact base _ _ (by cases e <;> exact h) r q
/-- < of ints, texts, truths, tuples -/
def ltD2 (a b : D) : Option Bool := match a, b with
  | .tup xs, .tup ys => ltN 32 (.tup xs) (.tup ys)
  | a, b => ltD a b
theorem op_ltV2 {X : Cx} (hu : X.A.units + 64 < cLine) : OpR X (compareOp .Lt) (rV X.K (fB ltD2)) := fun pins s σ H x y v u Q I rx ry ⟨H0, a, b, r, hs, ra, rb, e, f⟩ => by
  have base : fB ltD a b = some r → wpAny (model X.prog X.w) X.A (compareOp .Lt v u) (EP X pins σ Q) X.xe s := fun e => op_ltV pins s σ H x y v u Q I rx ry ⟨H0, a, b, r, hs, ra, rb, e, f⟩
  cases a with
  | tup xs =>
    cases b with
    | tup ys =>
      obtain ⟨k, e1, rfl⟩ := fB_some e
      exact ltN_at I 32 X.A (.tup xs) (.tup ys) x y v u k (by omega) e1 (Rep.mono hs _ _ ra) rx (Rep.mono hs _ _ rb) ry _ _ _ _ ⟨.bl k, H, I, rfl, Fin.atom f hs ⟨rfl, rfl⟩⟩
    | _ => exact base e
  | _ => exact base (by cases b <;> exact e)
end VL
end

section
set_option Elab.async false
set_option maxRecDepth 100000
set_option linter.all false
/-! The value layer, 19: sorted of rows that are tuples. -/
namespace VL
open PySem PySem.Spec PyProof.Rows L2
theorem lexO_same {X : Cx} {pins : List (Addr × Obj)} {σ : L2.St} {H : Hp} {s : Shared} (I : Inv X pins σ H s) {n : Nat} {l : D → D → Option Bool} : ∀ {ds es : List D} {xs : List V} {b : Bool}, lexO (eqN n) l ds es = some b → Reps X.K H ds xs → Reps X.K H es xs → b = false
  | [], es, xs, b, h, r, q => by
    cases r
    have : es = [] := by cases es with | nil => rfl | cons _ _ => obtain ⟨_, _, e, _⟩ := q; cases e
    subst this
    simp [lexO] at h; exact h
  | d :: ds, [], _, b, h, r, q => by simp [lexO] at h; exact h
  | d :: ds, e :: es, _, b, h, ⟨v, t, e1, r1, r2⟩, ⟨u, t', e2, q1, q2⟩ => by
    subst e1
    cases e2
    unfold lexO at h
    obtain ⟨c, hc, h⟩ := Option.bind_eq_some_iff.mp h
    have := eqN_same I n d e v c hc r1 q1
    subst this
    rw [if_pos rfl] at h
    exact lexO_same I h r2 q2
theorem ltN_same {X : Cx} {pins : List (Addr × Obj)} {σ : L2.St} {H : Hp} {s : Shared} (I : Inv X pins σ H s) {n : Nat} {xs ys : List D} {v : V} {b : Bool} (h : ltN (n + 1) (.tup xs) (.tup ys) = some b) (r : Rep X.K H (.tup xs) v) (q : Rep X.K H (.tup ys) v) : b = false := by
  obtain ⟨a, vs, rfl, h1, z, r1⟩ := r
  obtain ⟨a', ws, e', h2, z', q1⟩ := q
  cases e'
  have := I.tuple_inj h1 h2
  subst this
  exact lexO_same I h r1 q1
/-- rows that can be sorted: tuples that begin with tuples, each strictly before the other or behind it -/
def ltB (a b : D) : Bool := (ltN 32 a b).getD false
structure OkOrd (xs : List D) : Prop where
  tp : ∀ x ∈ xs, ∃ ds ts, x = .tup (.tup ds :: ts)
  one : xs.Pairwise fun x y => ltB x y = true ∨ ltB y x = true
  df : ∀ x ∈ xs, ∀ y ∈ xs, ∃ b, ltN 32 x y = some b
  as : ∀ x ∈ xs, ∀ y ∈ xs, ltB x y = true → ltB y x = false
  tr : ∀ x ∈ xs, ∀ y ∈ xs, ∀ z ∈ xs, ltB y x = false → ltB z y = false → ltB z x = false
def sortT (xs : List D) : List D := xs.mergeSort fun a b => !ltB b a
/-- two lists, item by item -/
def Rel2 {α β : Type} (R : α → β → Prop) : List α → List β → Prop
  | [], [] => True
  | a :: as, b :: bs => R a b ∧ Rel2 R as bs
  | _, _ => False
theorem rel_perm {α β : Type} {R : α → β → Prop} {vs out : List β} (p : out.Perm vs) : ∀ {xs : List α}, Rel2 R xs vs → ∃ xs', xs'.Perm xs ∧ Rel2 R xs' out := by
  induction p with
  | nil => exact fun {xs} h => ⟨xs, .refl _, h⟩
  | cons x p ih =>
    intro xs h
    cases xs with
    | nil => exact h.elim
    | cons a as =>
      obtain ⟨xs', h1, h2⟩ := ih h.2
      exact ⟨a :: xs', .cons a h1, h.1, h2⟩
  | swap x y l =>
    intro xs h
    match xs, h with
    | a :: b :: as, h => exact ⟨b :: a :: as, .swap _ _ _, h.2.1, h.1, h.2.2⟩
  | trans p q ih1 ih2 =>
    intro xs h
    obtain ⟨xs', h1, h2⟩ := ih2 h
    obtain ⟨xs2, h3, h4⟩ := ih1 h2
    exact ⟨xs2, h3.trans h1, h4⟩
theorem rel_get {α β : Type} {R : α → β → Prop} : ∀ {xs : List α} {vs : List β} {i : Nat} {v : β}, Rel2 R xs vs → vs[i]? = some v → ∃ x, xs[i]? = some x ∧ R x v
  | [], [], _, _, _, h => by simp at h
  | a :: as, b :: bs, 0, v, r, h => by simp at h; subst h; exact ⟨a, rfl, r.1⟩
  | a :: as, b :: bs, i + 1, v, r, h => by
    obtain ⟨x, h1, h2⟩ := rel_get (i := i) r.2 (by simpa using h)
    exact ⟨x, by simpa using h1, h2⟩
  | [], _ :: _, _, _, r, _ => r.elim
  | _ :: _, [], _, _, r, _ => r.elim
theorem rel_mem {α β : Type} {R : α → β → Prop} : ∀ {xs : List α} {vs : List β} {v : β}, Rel2 R xs vs → v ∈ vs → ∃ x ∈ xs, R x v
  | [], [], _, _, h => by simp at h
  | a :: as, b :: bs, v, r, h => by
    rcases List.mem_cons.mp h with rfl | h
    · exact ⟨a, List.mem_cons_self, r.1⟩
    · obtain ⟨x, h1, h2⟩ := rel_mem r.2 h
      exact ⟨x, List.mem_cons_of_mem _ h1, h2⟩
  | [], _ :: _, _, r, _ => r.elim
  | _ :: _, [], _, r, _ => r.elim
theorem rel_len {α β : Type} {R : α → β → Prop} : ∀ {xs : List α} {vs : List β}, Rel2 R xs vs → xs.length = vs.length
  | [], [], _ => rfl
  | a :: as, b :: bs, r => by simp [rel_len r.2]
  | [], _ :: _, r => r.elim
  | _ :: _, [], r => r.elim
/-- the value u is the data d -/
def IsD (X : Cx) (H : Hp) (d : D) (u : Value) : Prop := ∃ v, Rep X.K H d v ∧ RelV v u
theorem rel_of {X : Cx} {H : Hp} : ∀ {ds : List D} {xs : List V} {vs : List Value}, Reps X.K H ds xs → Vals xs vs → Rel2 (IsD X H) ds vs
  | [], _, _, r, v => by cases r; cases v; trivial
  | d :: ds, _, _, ⟨x, t, e, r1, r2⟩, v => by
    subst e
    cases v with
    | cons a b => exact ⟨⟨x, r1, a⟩, rel_of r2 b⟩
theorem rel_back {X : Cx} {H : Hp} : ∀ {ds : List D} {vs : List Value}, Rel2 (IsD X H) ds vs → ∃ xs, Reps X.K H ds xs ∧ Vals xs vs
  | [], [], _ => ⟨[], rfl, .nil⟩
  | d :: ds, u :: us, ⟨⟨v, r1, r2⟩, r⟩ => by
    obtain ⟨xs, h1, h2⟩ := rel_back r
    exact ⟨v :: xs, ⟨v, xs, rfl, r1, h1⟩, .cons r2 h2⟩
  | [], _ :: _, r => r.elim
  | _ :: _, [], r => r.elim
/-- the same value: the same one of the rows -/
theorem isD_uniq {X : Cx} {pins : List (Addr × Obj)} {σ : L2.St} {H : Hp} {s : Shared} (I : Inv X pins σ H s) {xs : List D} (O : OkOrd xs) {i j : Nat} {d e : D} {u : Value} (hi : xs[i]? = some d) (hj : xs[j]? = some e) (r : IsD X H d u) (q : IsD X H e u) : i = j := by
  have key : ∀ {i j : Nat} {d e : D}, i < j → xs[i]? = some d → xs[j]? = some e → IsD X H d u → IsD X H e u → False := fun {i j d e} hij hi hj r q => by
    obtain ⟨li, ei⟩ := List.getElem?_eq_some_iff.mp hi
    obtain ⟨lj, ej⟩ := List.getElem?_eq_some_iff.mp hj
    have hp := List.pairwise_iff_getElem.mp O.one i j li lj hij
    rw [ei, ej] at hp
    have md : d ∈ xs := by rw [← ei]; exact List.getElem_mem li
    have me : e ∈ xs := by rw [← ej]; exact List.getElem_mem lj
    obtain ⟨a1, t1, rfl⟩ := O.tp d md
    obtain ⟨a2, t2, rfl⟩ := O.tp e me
    obtain ⟨v, r1, r2⟩ := r
    obtain ⟨w, q1, q2⟩ := q
    have hvw : v = w := by
      obtain ⟨p, vs, rfl, _⟩ := r1
      obtain ⟨p', vs', rfl, _⟩ := q1
      have r2 : u = .ref p := r2
      have q2 : u = .ref p' := q2
      rw [r2] at q2; cases q2; rfl
    subst hvw
    rcases hp with h | h
    · obtain ⟨b, hb⟩ := O.df _ md _ me
      unfold ltB at h; rw [hb] at h
      have := ltN_same I hb r1 q1
      subst this; cases h
    · obtain ⟨b, hb⟩ := O.df _ me _ md
      unfold ltB at h; rw [hb] at h
      have := ltN_same I hb q1 r1
      subst this; cases h
  rcases Nat.lt_trichotomy i j with h | h | h
  · exact (key h hi hj r q).elim
  · exact h
  · exact (key h hj hi q r).elim
end VL
end

section
set_option Elab.async false
set_option maxRecDepth 100000
set_option linter.all false
/-! The value layer, 20: sorted of such rows, the machine. -/
namespace VL
open PySem PySem.Spec PyProof.Rows L2
theorem kat_of {prog : Program} {w : World} {A : Around} {s : Shared} {Q : Bool → Shared → Prop} {n1 n2 : Nat} : ∀ {xs ys : List Value} {r : Bool} {i : Nat}, LexAt A s xs ys r → (∀ k, xs.length + k = n1 → ys.length + k = n2 → True) → (∃ k, xs.length + k = n1 ∧ ys.length + k = n2) → Q r s →
    PySem.W.KatLex prog w A false (decide (n1 < n2)) Q (xs.zip ys) i s
  | _, _, _, _, .nil (ys := ys), _, ⟨k, h1, h2⟩, q => by
    refine PySem.W.kat_nil ?_
    have : decide (n1 < n2) = decide (0 < ys.length) := by
      simp only [List.length_nil] at h1
      congr 1; exact propext (by omega)
    rw [this]; exact q
  | _, _, _, _, .nil2 (x := x) (xs := xs), _, ⟨k, h1, h2⟩, q => by
    refine PySem.W.kat_nil ?_
    have : decide (n1 < n2) = false := by
      simp only [List.length_nil, List.length_cons] at h1 h2
      exact decide_eq_false (by omega)
    rw [this]; exact q
  | _, _, _, _, .eq he h, hk, ⟨k, h1, h2⟩, q =>
    PySem.W.kat_cons (he prog w _ _ (PySem.W.kat_yes (kat_of h (fun _ _ _ => trivial) ⟨k + 1, by simp only [List.length_cons] at h1; omega, by simp only [List.length_cons] at h2; omega⟩ q)))
  | _, _, _, _, .ne he hr, hk, _, q =>
    PySem.W.kat_cons (he prog w _ _ (PySem.W.kat_no (PySem.W.kat_one _ _ (hr prog w _ _ q))))
theorem typeOf_tup {M : Model} {h : Heap} {b : Addr} {its : List Value} (t : h.IsTuple b its.toArray) : PySem.W.Looks M h (typeOf (.ref b)) (.type "tuple") := by
  obtain ⟨o, e, c, n, d⟩ := t
  intro A Q E s k q
  obtain ⟨hp, g, dr, tk, os⟩ := s
  have := k _ _ e
  refine wpAny_bind (wpAny_loadPart' this (wpAny_pure ?_))
  rw [c]; exact q
section
variable {X : Cx} {pins : List (Addr × Obj)} {σ : L2.St} {H : Hp}
open Classical in
/-- which row the value is -/
noncomputable def keyV (xs : List D) (vs : List Value) (u : Value) : Option D := if h : ∃ i : Nat, vs[i]? = some u then xs[Classical.choose h]? else none
noncomputable def ltV (xs : List D) (vs : List Value) (u w : Value) : Bool := match keyV xs vs u, keyV xs vs w with
  | some a, some b => ltB a b
  | some _, none => true
  | none, _ => false
theorem keyV_at {s : Shared} (I : Inv X pins σ H s) {xs : List D} {vs : List Value} (O : OkOrd xs) (r : Rel2 (IsD X H) xs vs) {i : Nat} {u : Value} (h : vs[i]? = some u) : keyV xs vs u = xs[i]? := by
  have hx : ∃ i : Nat, vs[i]? = some u := ⟨i, h⟩
  unfold keyV
  rw [dif_pos hx]
  have hc := Classical.choose_spec hx
  obtain ⟨d, h1, h2⟩ := rel_get r h
  obtain ⟨e, h3, h4⟩ := rel_get r hc
  rw [isD_uniq I O h1 h3 h2 h4]
theorem keyV_mem {s : Shared} (I : Inv X pins σ H s) {xs : List D} {vs : List Value} (O : OkOrd xs) (r : Rel2 (IsD X H) xs vs) {u : Value} {d : D} (h : keyV xs vs u = some d) : d ∈ xs := by
  unfold keyV at h
  split at h
  · exact List.mem_of_getElem? h
  · cases h
theorem swoV {s : Shared} (I : Inv X pins σ H s) {xs : List D} {vs : List Value} (O : OkOrd xs) (r : Rel2 (IsD X H) xs vs) : SrtO.Swo (ltV xs vs) := by
  refine ⟨fun x y h => ?_, fun x y z h1 h2 => ?_⟩
  · unfold ltV at h ⊢
    cases hx : keyV xs vs x with
    | none => rw [hx] at h; cases h
    | some a =>
      rw [hx] at h
      cases hy : keyV xs vs y with
      | none => rfl
      | some b =>
        rw [hy] at h
        exact O.as _ (keyV_mem I O r hx) _ (keyV_mem I O r hy) h
  · unfold ltV at h1 h2 ⊢
    cases hz : keyV xs vs z with
    | none => rfl
    | some c =>
      rw [hz] at h2
      cases hy : keyV xs vs y with
      | none => rw [hy] at h2; cases h2
      | some b =>
        rw [hy] at h1 h2
        cases hx : keyV xs vs x with
        | none => rw [hx] at h1; cases h1
        | some a =>
          rw [hx] at h1
          exact O.tr _ (keyV_mem I O r hx) _ (keyV_mem I O r hy) _ (keyV_mem I O r hz) h1 h2
theorem ltV_at {s : Shared} (I : Inv X pins σ H s) {xs : List D} {vs : List Value} (O : OkOrd xs) (r : Rel2 (IsD X H) xs vs) {i j : Nat} {u w : Value} {d e : D} (hi : vs[i]? = some u) (hj : vs[j]? = some w) (h1 : xs[i]? = some d) (h2 : xs[j]? = some e) : ltV xs vs u w = ltB d e := by
  unfold ltV
  rw [keyV_at I O r hi, keyV_at I O r hj, h1, h2]
theorem katTups {h : Heap} {s : Shared} (I : Inv X pins σ H s) (k : ∀ b o, s.heap.get? b = some o → h.get? b = some o) {M : Model} : ∀ {xs : List D} {vs : List Value}, (∀ x ∈ xs, ∃ ds ts, x = .tup (.tup ds :: ts)) → Rel2 (IsD X H) xs vs →
    ∃ fs, PySem.W.KatTups h vs fs ∧ fs.length = vs.length ∧ ∀ f ∈ fs, PySem.W.Looks M h (typeOf f) (.type "tuple")
  | [], [], _, _ => ⟨[], trivial, rfl, by simp⟩
  | x :: xs, u :: us, hx, ⟨⟨v, r1, r2⟩, r⟩ => by
    obtain ⟨fs, h1, h2, h3⟩ := katTups (M := M) I k (fun y hy => hx y (List.mem_cons_of_mem _ hy)) r
    obtain ⟨ds, ts, rfl⟩ := hx x List.mem_cons_self
    obtain ⟨a, vs', rfl, hs, z, q⟩ := r1
    have r2 : u = .ref a := r2
    subst r2
    obtain ⟨v1, t, e1, q1, q2⟩ := q
    subst e1
    obtain ⟨its, rl, il⟩ := Inv.isTup I hs
    obtain ⟨p, vs2, rfl, hs2, _⟩ := q1
    cases rl with
    | cons rv rr =>
    rename_i f fr
    have rv : f = .ref p := rv
    subst rv
    obtain ⟨its2, rl2, il2⟩ := Inv.isTup I hs2
    refine ⟨.ref p :: fs, ⟨?_, h1⟩, by simp [h2], fun g hg => ?_⟩
    · obtain ⟨o, e, c, n, d⟩ := il
      exact ⟨a, o, _, n, rfl, k _ _ e, c, d, by simp⟩
    · rcases List.mem_cons.mp hg with rfl | hg
      · obtain ⟨o, e, c, n, d⟩ := il2
        exact typeOf_tup (its := its2) ⟨o, k _ _ e, c, n, d⟩
      · exact h3 g hg
  | [], _ :: _, _, r => r.elim
  | _ :: _, [], _, r => r.elim
theorem sortable {prog : Program} {w : World} {A : Around} {s : Shared} (I : Inv X pins σ H s) (hu : A.units + 40 < cLine) {xs : List D} {vs : List Value} (O : OkOrd xs) (r : Rel2 (IsD X H) xs vs) (hl : 2 ≤ vs.length) {h1 : Heap} {a : Addr} (k : ∀ b o, s.heap.get? b = some o → b ≠ a ∧ h1.get? b = some o) :
    SrtO.SortableO prog w A ⟨h1, s.gens, s.drawn, s.toks, s.os⟩ a vs (ltV xs vs) := by
  intro h' kk
  have k' : ∀ b o, s.heap.get? b = some o → h'.get? b = some o := fun b o e => kk b o (k b o e).1 (k b o e).2
  refine ⟨tuples' false, fun Q E q => ?_, fun p q hp hq => ?_⟩
  · obtain ⟨fs, f1, f2, f3⟩ := katTups (h := h') (M := model prog w) I k' O.tp r
    exact PySem.W.kat_kind (T := .type "tuple") f1 (by omega) f3 rfl q
  · have I' := I.kept (h' := h') (t' := s.toks) k'
    obtain ⟨i, hi⟩ := List.mem_iff_getElem?.mp hp
    obtain ⟨j, hj⟩ := List.mem_iff_getElem?.mp hq
    obtain ⟨d, hd, v, r1, r2⟩ := rel_get r hi
    obtain ⟨e, he, v', q1, q2⟩ := rel_get r hj
    have hlt := ltV_at I O r hi hj hd he
    have md : d ∈ xs := List.mem_of_getElem? hd
    have me : e ∈ xs := List.mem_of_getElem? he
    obtain ⟨b, hb⟩ := O.df _ md _ me
    obtain ⟨a1, t1, rfl⟩ := O.tp d md
    obtain ⟨a2, t2, rfl⟩ := O.tp e me
    obtain ⟨x, xs', rfl, hsx, zx, qx⟩ := r1
    obtain ⟨y, ys', rfl, hsy, zy, qy⟩ := q1
    have r2 : p.1 = .ref x := r2
    have q2 : q.1 = .ref y := q2
    obtain ⟨its, rl, o1, e1, c1, n1, d1⟩ := Inv.isTup I' hsx
    obtain ⟨its2, rl2, o2, e2, c2, n2, d2⟩ := Inv.isTup I' hsy
    have hlx := lexO_at (X := X) (H := H) (s := ⟨h', s.gens, s.drawn, s.toks, s.os⟩) (A := A) (e := eqN 31) (l := ltN 31) (fun d e x y v u b h1 h2 h3 h4 h5 => (eqN_at I' 31 A d e x y v u b (by omega) h1 h2 h3 h4 h5).e) (fun d e x y v u b h1 h2 h3 h4 h5 => ltN_at I' 31 A d e x y v u b (by omega) h1 h2 h3 h4 h5) hb qx rl qy rl2
    have hlt2 : SrtO.lt2 (ltV xs vs) p q = b := by
      show ltV xs vs p.1 q.1 = b
      rw [hlt]; unfold ltB; rw [hb]; rfl
    rw [r2, q2]
    refine PySem.W.kat_lt e1 d1 e2 d2 ?_
    exact kat_of (n1 := its.toArray.size) (n2 := its2.toArray.size) hlx (fun _ _ _ => trivial) ⟨0, by simp, by simp⟩ ⟨rfl, hlt2.symm⟩
theorem one_mem {xs : List D} (O : OkOrd xs) {a b : D} (ha : a ∈ xs) (hb : b ∈ xs) (h : a ≠ b) : ltB a b = true ∨ ltB b a = true := by
  obtain ⟨i, li, rfl⟩ := List.getElem_of_mem ha
  obtain ⟨j, lj, rfl⟩ := List.getElem_of_mem hb
  rcases Nat.lt_trichotomy i j with h1 | h1 | h1
  · exact List.pairwise_iff_getElem.mp O.one i j li lj h1
  · subst h1; exact absurd rfl h
  · exact (List.pairwise_iff_getElem.mp O.one j i lj li h1).symm
theorem srt_uniq {xs : List D} (O : OkOrd xs) : ∀ {ys zs : List D}, ys.Perm zs → (∀ y ∈ ys, y ∈ xs) → (ys.Pairwise fun x y => ltB y x = false) → (zs.Pairwise fun x y => ltB y x = false) → ys = zs
  | [], zs, p, _, _, _ => by rw [List.nil_perm.mp p]
  | y :: ys, [], p, _, _, _ => by have := p.length_eq; simp at this
  | y :: ys, z :: zs, p, m, h1, h2 => by
    rw [List.pairwise_cons] at h1 h2
    have hz : z ∈ y :: ys := p.mem_iff.mpr List.mem_cons_self
    have hy : y ∈ z :: zs := p.mem_iff.mp List.mem_cons_self
    have e : y = z := by
      apply Classical.byContradiction
      intro ne
      have a1 : ltB z y = false := by
        rcases List.mem_cons.mp hz with h | h
        · exact absurd h.symm ne
        · exact h1.1 _ h
      have a2 : ltB y z = false := by
        rcases List.mem_cons.mp hy with h | h
        · exact absurd h ne
        · exact h2.1 _ h
      rcases one_mem O (m y List.mem_cons_self) (m z hz) ne with h | h
      · rw [a2] at h; cases h
      · rw [a1] at h; cases h
    subst e
    rw [srt_uniq O ((List.perm_cons y).mp p) (fun x hx => m x (List.mem_cons_of_mem _ hx)) h1.2 h2.2]
/-- in order -/
def InOrd (xs ys : List D) : Prop := ys.Perm xs ∧ ys.Pairwise fun x y => ltB y x = false
open Classical in
noncomputable def sortR (xs : List D) : Option (List D) := if h : OkOrd xs ∧ ∃ ys, InOrd xs ys then some (Classical.choose h.2) else none
theorem sortR_eq {xs ys : List D} (O : OkOrd xs) (h : InOrd xs ys) : sortR xs = some ys := by
  unfold sortR
  rw [dif_pos ⟨O, ys, h⟩]
  have hc := Classical.choose_spec (p := fun ys => InOrd xs ys) ⟨ys, h⟩
  exact congrArg some (srt_uniq O (hc.1.trans h.1.symm) (fun y hy => hc.1.mem_iff.mp hy) hc.2 h.2)
theorem sortR_ok {xs ys : List D} (h : sortR xs = some ys) : OkOrd xs ∧ InOrd xs ys := by
  unfold sortR at h
  split at h
  · rename_i hh
    cases h
    exact ⟨hh.1, Classical.choose_spec (p := fun ys => InOrd xs ys) hh.2⟩
  · cases h
theorem rel_pw {X : Cx} {H : Hp} {s : Shared} {xs : List D} {vs : List Value} (I : Inv X pins σ H s) (O : OkOrd xs) (r : Rel2 (IsD X H) xs vs) : ∀ {ys : List D} {out : List Value}, Rel2 (IsD X H) ys out → (∀ y ∈ ys, y ∈ xs) → (∀ u ∈ out, u ∈ vs) → SrtO.Srtd (ltV xs vs) out → ys.Pairwise fun x y => ltB y x = false := by
  have at_ : ∀ {d : D} {u : Value}, d ∈ xs → u ∈ vs → IsD X H d u → ∃ i : Nat, vs[i]? = some u ∧ xs[i]? = some d := fun {d u} hd hu hr => by
    obtain ⟨i, hi⟩ := List.mem_iff_getElem?.mp hu
    obtain ⟨j, hj⟩ := List.mem_iff_getElem?.mp hd
    obtain ⟨e, he, q⟩ := rel_get r hi
    have := isD_uniq I O hj he hr q
    subst this
    exact ⟨j, hi, hj⟩
  intro ys
  induction ys with
  | nil => intro out _ _ _ _; exact .nil
  | cons y ys ih =>
    intro out h m1 m2 srt
    cases out with
    | nil => exact h.elim
    | cons u us =>
      rw [SrtO.Srtd, List.pairwise_cons] at srt
      refine List.pairwise_cons.mpr ⟨fun z hz => ?_, ih h.2 (fun x hx => m1 x (List.mem_cons_of_mem _ hx)) (fun x hx => m2 x (List.mem_cons_of_mem _ hx)) srt.2⟩
      obtain ⟨j, lj, ej⟩ := List.getElem_of_mem hz
      have hul : j < us.length := by rw [← rel_len h.2]; exact lj
      obtain ⟨d, hd, q⟩ := rel_get h.2 (List.getElem?_eq_getElem hul)
      have hd' : d = z := by rw [List.getElem?_eq_getElem lj, ej] at hd; exact (Option.some.inj hd).symm
      subst hd'
      obtain ⟨i1, a1, a2⟩ := at_ (m1 y List.mem_cons_self) (m2 u List.mem_cons_self) h.1
      obtain ⟨i2, b1, b2⟩ := at_ (m1 d (List.mem_cons_of_mem _ hz)) (m2 _ (List.mem_cons_of_mem _ (List.getElem_mem hul))) q
      rw [← ltV_at I O r b1 a1 b2 a2]
      exact srt.1 _ (List.getElem_mem hul)
end
end VL
end

section
set_option Elab.async false
set_option maxRecDepth 100000
set_option linter.all false
/-! The value layer, 21: the rule. -/
namespace VL
open PySem PySem.Spec PyProof.Rows L2
theorem Rel2.imp {α β : Type} {R S : α → β → Prop} (h : ∀ a b, R a b → S a b) : ∀ {xs : List α} {vs : List β}, Rel2 R xs vs → Rel2 S xs vs
  | [], [], _ => trivial
  | _ :: _, _ :: _, r => ⟨h _ _ r.1, Rel2.imp h r.2⟩
  | [], _ :: _, r => r.elim
  | _ :: _, [], r => r.elim
noncomputable def sortD2 (ds : List D) : Option FD := match sortD ds with
  | some r => some r
  | none => match ds with
    | [.lst xs] => (sortR xs).map fun ys => (.R, .lst ys)
    | _ => none
section
variable {X : Cx}
theorem call_sortV2 (hc : X.calm = true) (hu : X.A.units + 64 < cLine) : CallR X (.builtin "sorted") (rVs X.K sortD2) := fun pins s σ H xs us Q I rx ⟨H0, ds, r, hs, rs, e, f⟩ => by
  unfold sortD2 at e
  split at e
  · rename_i r' e1
    cases e
    exact call_sortV hc pins s σ H xs us Q I rx ⟨H0, ds, r, hs, rs, e1, f⟩
  · split at e
    · rename_i zs _
      obtain ⟨ys, hy, er⟩ := Option.map_eq_some_iff.mp e
      subst er
      obtain ⟨O, ord⟩ := sortR_ok hy
      obtain ⟨v, t, rfl, ⟨a, vs, rfl, h, z, q⟩, rfl⟩ := rs
      obtain ⟨its, rl, pl, hl⟩ := I.list (SqL.of (hs _ _ h))
      have eu := Vals.ref1 rx
      subst eu
      have r0 : Rel2 (IsD X H0) zs its := rel_of q rl
      have up : ∀ d u, IsD X H0 d u → IsD X H d u := fun d u ⟨v, h1, h2⟩ => ⟨v, Rep.mono hs _ _ h1, h2⟩
      have r1 := r0.imp up
      have L : vs.length = its.length := rl.length
      refine SrtO.sorted_ord (swoV I O r1) pl.isList (by omega) (fun h2 h1 a' _ k => ?_) fun out srt stb => ?_
      · exact sortable I (by show X.A.units + 1 + 1 + 40 < cLine; omega) O r1 h2 k
      · obtain ⟨ys', p, r2⟩ := rel_perm stb.perm r0
        have m1 : ∀ y ∈ ys', y ∈ zs := fun y hy => p.mem_iff.mp hy
        have pw := rel_pw I O r1 (r2.imp up) m1 (fun u hu => stb.perm.mem_iff.mp hu) srt
        have ey : ys' = ys := srt_uniq O (p.trans ord.1.symm) m1 pw ord.2
        subst ey
        obtain ⟨ws, w1, w2⟩ := rel_back r2
        obtain ⟨en, he⟩ := sortedAll_at s.heap its out.toArray
        have hp : H (s.heap.objs.size + 1) = none := I.hok.fresh (Nat.le_succ _)
        have lz : ws.length ≤ sizeLine := by
          rw [← w1.length]
          have := p.length_eq
          omega
        refine ⟨.ref (s.heap.objs.size + 1), upd H (s.heap.objs.size + 1) (.lst ws), I.laid (fun b u hb => sortedAll_old hb) (Nat.le_succ _) ?_, rfl, ?_⟩
        · exact ⟨lz, out, en, w2, he⟩
        · exact f _ _ H0 [s.heap.objs.size + 1] (Ext.lay0 hs hp _) ⟨_, _, rfl, rfl, upd_same, ws, rfl, by rw [w1.length]; exact lz, w1⟩ ⟨by simp, fun b hb => by rw [List.mem_singleton.mp hb]; exact ⟨hp, hs.free hp⟩⟩
    · cases e
end
end VL
end

section
set_option Elab.async false
set_option maxRecDepth 100000
set_option linter.all false
/-! The value layer, 22: instances: fields read and written. -/
namespace VL
open PySem PySem.Spec PyProof.Rows L2
theorem nm_eq {k : Key} {f : Str} (h : isNm k = true) : nmOf k = f ↔ k = .inr f := by
  cases k with
  | inl i => cases h
  | inr s => exact ⟨fun e => by rw [← e]; rfl, fun e => by cases e; rfl⟩
theorem flds_look {f : Str} : ∀ {vs : List (Key × V)}, (vs.all fun kv => isNm kv.1) = true → List.lookup f (flds vs) = valV vs (.inr f)
  | [], _ => rfl
  | (k, v) :: vs, h => by
    simp only [List.all_cons, Bool.and_eq_true] at h
    have ih := flds_look (f := f) h.2
    unfold flds at ih ⊢
    rw [List.map_cons, List.lookup_cons]
    by_cases hk : k = .inr f
    · subst hk
      simp [nmOf, valV, List.find?_cons]
    · have : (f == nmOf k) = false := by
        have := mt (nm_eq h.1).mp hk
        simpa using fun e => this e.symm
      rw [this, valV_neg hk]
      exact ih
theorem flds_put {f : Str} {y : V} : ∀ {vs : List (Key × V)}, (vs.all fun kv => isNm kv.1) = true → (vs.map (·.1)).Nodup → putF f y (flds vs) = flds (putK vs (.inr f) y)
  | [], _, _ => rfl
  | (k, v) :: vs, h, nd => by
    simp only [List.all_cons, Bool.and_eq_true] at h
    simp only [List.map_cons, List.nodup_cons] at nd
    have ih := flds_put (f := f) (y := y) h.2 nd.2
    have e0 : putF f y (flds ((k, v) :: vs)) = if nmOf k = f then (nmOf k, y) :: flds vs else (nmOf k, v) :: putF f y (flds vs) := rfl
    rw [e0]
    by_cases hk : k = .inr f
    · subst hk
      rw [if_pos (show nmOf (.inr f) = f from rfl)]
      have : putK ((.inr f, v) :: vs) (.inr f) y = (.inr f, y) :: vs := by
        unfold putK
        rw [if_pos (by simp), List.map_cons, if_pos rfl, repl_none nd.1]
      rw [this]; rfl
    · rw [if_neg (mt (nm_eq h.1).mp hk), ih]
      have : putK ((k, v) :: vs) (.inr f) y = (k, v) :: putK vs (.inr f) y := by
        unfold putK
        by_cases ha : (vs.any fun kv => decide (kv.1 = .inr f)) = true
        · rw [if_pos (by rw [List.any_cons, ha, Bool.or_true]), if_pos ha, List.map_cons, if_neg hk]
        · rw [if_neg (by rw [List.any_cons]; simpa [hk] using ha), if_neg ha]; rfl
      rw [this]; rfl
theorem fok_keys {α β : Type} {ds : List (Key × α)} {vs : List (Key × β)} (h : ds.map (·.1) = vs.map (·.1)) (k : fok ds) : fok vs := by
  refine ⟨by rw [← h]; exact k.1, ?_⟩
  have e1 : (vs.all fun kv => isNm kv.1) = (vs.map (·.1)).all isNm := by rw [List.all_map]; rfl
  have e2 : (ds.all fun kv => isNm kv.1) = (ds.map (·.1)).all isNm := by rw [List.all_map]; rfl
  rw [e1, ← h, ← e2]; exact k.2
theorem fok_put {ds : List (Key × D)} (k : fok ds) (f : Str) (d : D) : fok (putD ds (.inr f) d) := by
  refine ⟨putD_nodup _ _ k.1, ?_⟩
  have e1 : ((putD ds (.inr f) d).all fun kv => isNm kv.1) = ((putD ds (.inr f) d).map (·.1)).all isNm := by rw [List.all_map]; rfl
  have e2 : (ds.all fun kv => isNm kv.1) = (ds.map (·.1)).all isNm := by rw [List.all_map]; rfl
  rw [e1, putD_keys]
  have := k.2
  rw [e2] at this
  split
  · exact this
  · rw [List.all_append, this]; rfl
section
variable {X : Cx} {W : WX}
/-- e.f -/
def fldD (C : Addr) (f : Str) (d : D) : Res FD := match d with
  | .ins _ C' fs => if C' = C then match look fs (.inr f) with
    | some d => .ok (sh d)
    | none => .bad
    else .bad
  | _ => .bad
def gFld (C : Addr) (f : Str) (g : GE) : GE := fun ρ => (g ρ).bind fun x => fldD C f x.2
theorem ev_fld {C : Addr} {f : Str} {e : Expr} {g : GE} {pos : Pos} (hC : Cls X.K C) (hf : NoAttr X.K C f) (h : PE X e (tE (Md.of X) W g)) (hb : attributeBase e f X.env (eval e X.env) = eval e X.env := by rfl) : PE X (.Attribute e f pos) (tE (Md.of X) W (gFld C f g)) :=
  (pe_fld h hb).imp fun σ H Q q => by
    show tE _ _ g σ H fun x H1 => ∃ a C dx fs v, x = .ref a ∧ H1 a = some (.ins C dx fs) ∧ Cls X.K C ∧ NoAttr X.K C f ∧ List.lookup f fs = some v ∧ Q v H1
    refine one (f := fldD C f) q fun x H1 H01 a hs ra qa => ?_
    unfold fldD at qa
    split at qa
    · rename_i o' C' fs
      split at qa
      · rename_i hc
        subst hc
        obtain ⟨p, dx, kvs, rfl, hp, ok, r⟩ := ra
        rcases r.look (.inr f) with ⟨h1, _⟩ | ⟨d, v, h1, h2, h3⟩
        · rw [h1] at qa; exact qa.elim
        · rw [h1] at qa
          refine ⟨p, C', dx, flds kvs, v, rfl, hs _ _ hp, hC, hf, ?_, Fin.here qa hs h3⟩
          rw [flds_look (fok_keys r.keys ok.1).2]; exact h2
      · exact qa.elim
    · exact qa.elim
/-- self.f = e -/
def gSetF (C : Addr) (i : Nat) (f : Str) (vs : List Nat) (g : GE) : GS := fun ρ => match ρ[i]? with
  | some (some (.T, .ins o C' fs)) => if C' = C then viaE vs (g (viewF vs 0 ρ)) ρ fun y => if y.1 = .T ∧ fs.length < 1000 then .nx (ρ.set i (some (.T, .ins o C (putD fs (.inr f) y.2)))) else .bad else .bad
  | _ => .bad
theorem ss_setF {C : Addr} {i : Nat} {f : Str} {vs : List Nat} {st : Stmt} {g : GE} (hC : Cls X.K C) (hf : NoAttr X.K C f) (hp : PS X st (sFld X.K (tVar i) (tE (Md.of X) W g) f)) : PS X st (tS (Md.of X) W (gSetF C i f vs g)) := hp.imp fun D σ H ⟨B, ρ, ⟨H0, F, e⟩, q⟩ => by
  unfold gSetF at q
  split at q
  · rename_i o' C' fs hx
    split at q
    · rename_i hc
      subst hc
      obtain ⟨v, h1, h2⟩ := e.sl i _ hx
      refine ⟨_, _, e.viewS vs, e.view vs, via (K := X.K) e q fun y _ qy => fun w H' H0' G ex s fr => ?_⟩
      split at qy
      · rename_i hy
        obtain ⟨hT, hl⟩ := hy
        obtain ⟨yf, yd⟩ := y
        obtain rfl : yf = .T := hT
        obtain ⟨a, dx, kvs, G2, rfl, hF, ha, ok, t⟩ := h2
        have ha' := ex.s _ _ ha
        have okV := fok_keys t.keys ok.1
        refine ⟨_, h1, a, C', dx, flds kvs, rfl, ha', hC, hf, ?_, ?_⟩
        · unfold flds; rw [List.length_map]
          have := congrArg List.length t.keys
          simp only [List.length_map] at this
          omega
        rw [flds_put okV.2 okV.1]
        have k := e.keep ex.s
        have fi := e.fr i
        rw [hF] at fi
        obtain ⟨nd, fz⟩ := fi
        obtain ⟨n1, n2⟩ := List.nodup_cons.mp nd
        have aG : a ∉ G := fun h => by rw [(fr.2 a h).1] at ha; cases ha
        have gs : ∀ p ∈ G2, ∀ o, H p = some o → (upd H' a (.ins C' dx (flds (putK kvs (.inr f) w)))) p = some o := fun p hp o q => by
          rw [upd_ne (fun z => n1 (by rw [← z]; exact hp))]; exact ex.s p o q
        have gs' : ∀ p ∈ G, ∀ o, H' p = some o → (upd H' a (.ins C' dx (flds (putK kvs (.inr f) w)))) p = some o := fun p hp o q => by
          rw [upd_ne (fun z => aG (by rw [← z]; exact hp))]; exact q
        have t1 := TreeK.agree _ _ _ gs t
        have t2 := Tree.agree _ _ _ gs' (show Tree H' yd w G from s)
        have dsj : (G2 ++ G).Nodup := List.nodup_append.mpr ⟨n2, fr.1, fun x hx y hy exy => by
          subst exy
          exact e.th i x (by rw [hF]; exact List.mem_cons_of_mem _ hx) (fr.2 x hy).1⟩
        obtain ⟨F', t3, nd3, m3⟩ := TreeK.put (k := .inr f) t1 t2 ok.1.1 dsj
        refine qy _ _ ⟨_, _, k.mut (i := i) (a := a) (G := a :: F') (x := (.T, .ins o' C' (putD fs (.inr f) yd))) h1 (by rw [hF]; exact List.mem_cons_self) ⟨a, dx, _, F', rfl, rfl, upd_same, ⟨fok_put ok.1 _ _, ok.2⟩, t3⟩ ⟨?_, fun p hp => ?_⟩ fun j hj p hp => ?_⟩
        · refine List.nodup_cons.mpr ⟨fun h => ?_, nd3⟩
          rcases m3 a h with h | h
          · exact n1 h
          · exact aG h
        · rcases List.mem_cons.mp hp with rfl | hp
          · exact fz p List.mem_cons_self
          · rcases m3 p hp with hp | hp
            · exact fz p (List.mem_cons_of_mem _ hp)
            · exact ⟨e.free (fr.2 p hp).1, e.s0.free (fr.2 p hp).1⟩
        · rcases List.mem_cons.mp hp with rfl | hp
          · exact e.dj i j (Ne.symm hj) p (by rw [hF]; exact List.mem_cons_self)
          · rcases m3 p hp with hp | hp
            · exact e.dj i j (Ne.symm hj) p (by rw [hF]; exact List.mem_cons_of_mem _ hp)
            · exact fun h => e.th j p h (fr.2 p hp).1
      · exact qy.elim
    · exact q.elim
  · exact q.elim
end
end VL
end

section
set_option Elab.async false
set_option maxRecDepth 100000
set_option linter.all false
/-! The value layer, 23: what stands in a field is changed in place. -/
namespace VL
open PySem PySem.Spec PyProof.Rows L2
theorem EnvAt.fld {K : PySem.W.Frag} {B : Bs} {σ : L2.St} {ρ : DE} {H H0 : Hp} {F : Nat → List Addr} (e : EnvAt K B σ ρ H H0 F) {i : Nat} {o' : Option Addr} {C : Addr} {fs : List (Key × D)} {f : Str} {d : D} (hx : ρ[i]? = some (some (.T, .ins o' C fs))) (hl : look fs (.inr f) = some d) :
    ∃ a dx kvs v G, σ[i]? = some (some (.ref a)) ∧ H a = some (.ins C dx (flds kvs)) ∧ List.lookup f (flds kvs) = some v ∧ Tree H d v G ∧ G.Nodup ∧ (∀ p ∈ G, p ∈ F i ∧ p ≠ a) ∧
      ∀ H' d' G', Tree H' d' v G' → G'.Nodup → Grown G H G' → Off G H H' → EnvOk K B σ (ρ.set i (some (.T, .ins o' C (putD fs (.inr f) d')))) H' := by
  obtain ⟨w, h1, h2⟩ := e.sl i _ hx
  obtain ⟨a, dx, kvs, G2, rfl, hF, ha, ok, t⟩ := h2
  obtain ⟨v, A, G, Cc, hv, hG, tr, back⟩ := TreeK.at t ok.1.1 hl
  have fi := e.fr i
  rw [hF] at fi
  obtain ⟨nd, fz⟩ := fi
  obtain ⟨n1, n2⟩ := List.nodup_cons.mp nd
  subst hG
  have n2' := n2
  obtain ⟨m1, m2, m3⟩ := List.nodup_append.mp n2
  obtain ⟨m4, m5, m6⟩ := List.nodup_append.mp m2
  refine ⟨a, dx, kvs, v, G, h1, ha, by rw [flds_look (fok_keys t.keys ok.1).2]; exact hv, tr, m4, fun p hp => ⟨by rw [hF]; exact List.mem_cons_of_mem _ (List.mem_append_right _ (List.mem_append_left _ hp)), fun z => n1 (by rw [← z]; exact List.mem_append_right _ (List.mem_append_left _ hp))⟩, fun H' d' G' t' nd' gr off => ?_⟩
  have aG : a ∉ G := fun h => n1 (List.mem_append_right _ (List.mem_append_left _ h))
  have offG : ∀ p, p ∈ A ∨ p ∈ Cc → p ∉ G := fun p hp h => by
    rcases hp with hp | hp
    · exact m3 p hp p (List.mem_append_left _ h) rfl
    · exact m6 p h p hp rfl
  have here : ∀ p ∈ A ++ (G ++ Cc), H p ≠ none := fun p hp => TreeK.there _ _ _ t p hp
  have gout : ∀ p ∈ G', p ∈ G ∨ (p ∉ A ∧ p ∉ Cc) := fun p hp => by
    rcases gr p hp with h | h
    · exact .inl h
    · exact .inr ⟨fun z => here p (List.mem_append_left _ z) h, fun z => here p (List.mem_append_right _ (List.mem_append_right _ z)) h⟩
  have t2 := back H' d' G' (fun p hp o q => off p o (offG p hp) q) t'
  have nm : (A ++ (G' ++ Cc)).Nodup := nodup_mid n2' nd' gout
  refine ⟨H0, _, e.io hx h1 (G := a :: (A ++ (G' ++ Cc))) ⟨a, dx, kvs, _, rfl, rfl, off a _ aG ha, ⟨fok_put ok.1 _ _, ok.2⟩, t2⟩ (List.nodup_cons.mpr ⟨fun h => ?_, nm⟩) (fun p hp => ?_) (fun p o hp q => off p o (fun h => hp (by rw [hF]; exact List.mem_cons_of_mem _ (List.mem_append_right _ (List.mem_append_left _ h)))) q)⟩
  · rcases List.mem_append.mp h with h | h
    · exact n1 (List.mem_append_left _ h)
    · rcases List.mem_append.mp h with h | h
      · rcases gr a h with h | h
        · exact aG h
        · rw [ha] at h; cases h
      · exact n1 (List.mem_append_right _ (List.mem_append_right _ h))
  · rw [hF]
    rcases List.mem_cons.mp hp with rfl | hp
    · exact .inl List.mem_cons_self
    · rcases List.mem_append.mp hp with hp | hp
      · exact .inl (List.mem_cons_of_mem _ (List.mem_append_left _ hp))
      · rcases List.mem_append.mp hp with hp | hp
        · rcases gr p hp with h | h
          · exact .inl (List.mem_cons_of_mem _ (List.mem_append_right _ (List.mem_append_left _ h)))
          · exact .inr h
        · exact .inl (List.mem_cons_of_mem _ (List.mem_append_right _ (List.mem_append_right _ hp)))
section
variable {X : Cx} {W : WX}
/-- the slot i holds an instance of C with d at f -/
def fldAt (C : Addr) (i : Nat) (f : Str) (ρ : DE) : Option (Option Addr × List (Key × D) × D) := match ρ[i]? with
  | some (some (.T, .ins o C' fs)) => if C' = C then (look fs (.inr f)).map fun d => (o, fs, d) else none
  | _ => none
theorem fldAt_some {C : Addr} {i : Nat} {f : Str} {ρ : DE} {o : Option Addr} {fs : List (Key × D)} {d : D} (h : fldAt C i f ρ = some (o, fs, d)) : ρ[i]? = some (some (.T, .ins o C fs)) ∧ look fs (.inr f) = some d := by
  unfold fldAt at h
  split at h
  · rename_i o' C' fs' hx
    split at h
    · rename_i hc
      subst hc
      obtain ⟨d', h1, h2⟩ := Option.map_eq_some_iff.mp h
      cases h2
      exact ⟨hx, h1⟩
    · cases h
  · cases h
/-- self.f.append(e) -/
def gAppF (C : Addr) (i : Nat) (f : Str) (vs : List Nat) (g : GE) : GS := fun ρ => match fldAt C i f ρ with
  | some (o, fs, .lst ds) => viaE vs (g (viewF vs 0 ρ)) ρ fun y => if y.1 = .T ∧ ds.length < sizeLine then .nx (ρ.set i (some (.T, .ins o C (putD fs (.inr f) (.lst (ds ++ [y.2])))))) else .bad
  | _ => .bad
theorem ss_appF {C : Addr} {i : Nat} {f : Str} {vs : List Nat} {st : Stmt} {g : GE} (hC : Cls X.K C) (hf : NoAttr X.K C f) (hp : PS X st (tDrop (tBM X.K "list" rAppend (tFld X.K (tVar i) f) (tCons (tE (Md.of X) W g) tNil)))) : PS X st (tS (Md.of X) W (gAppF C i f vs g)) := hp.imp fun D σ H ⟨B, ρ, ⟨H0, F, e⟩, q⟩ => by
  unfold gAppF at q
  split at q
  · rename_i o' fs ds hfa
    obtain ⟨hx, hl⟩ := fldAt_some hfa
    obtain ⟨a, dx, kvs, v, G, h1, ha, hv, t, nd, sub, _⟩ := e.fld hx hl
    obtain ⟨p, ws, G2, rfl, rfl, hp, hz, tr⟩ := t
    refine ⟨_, h1, a, C, dx, flds kvs, _, rfl, ha, hC, hf, hv, .inl ⟨rfl, ws, SqL.of hp⟩, _, _, e.viewS vs, e.view vs, via (K := X.K) e q fun y _ qy => fun w H' H0' Gy ex s fr => ?_⟩
    split at qy
    · rename_i hy
      obtain ⟨hT, hlen⟩ := hy
      obtain ⟨yf, yd⟩ := y
      obtain rfl : yf = .T := hT
      have e' := e.keep ex.s
      obtain ⟨a2, dx2, kvs2, v2, G3, k1, k2, k3, k4, k5, k6, k7⟩ := e'.fld hx hl
      rw [h1] at k1; cases k1
      rw [ex.s _ _ ha] at k2
      have := HO.ins.inj (Option.some.inj k2)
      obtain ⟨_, rfl, hfl⟩ := this
      rw [← hfl, hv] at k3; cases k3
      obtain ⟨p2, ws2, G4, e1, rfl, hp2, hz2, tr2⟩ := k4
      cases e1
      rw [ex.s _ _ hp] at hp2; cases hp2
      refine ⟨p, ws, w, rfl, rfl, ex.s _ _ hp, by rw [← tr2.length]; exact hlen, ?_⟩
      obtain ⟨n1, n2⟩ := List.nodup_cons.mp k5
      have pG : p ∉ Gy := fun h => by rw [(fr.2 p h).1] at hp; cases hp
      have t1 : Trees (upd H' p (.lst (ws ++ [w]))) ds ws G4 := Trees.agree _ _ _ (fun b hb o q => by rw [upd_ne (fun z => n1 (by rw [← z]; exact hb))]; exact q) tr2
      have t2 : Tree (upd H' p (.lst (ws ++ [w]))) yd w Gy := Tree.agree _ _ _ (fun b hb o q => by rw [upd_ne (fun z => pG (by rw [← z]; exact hb))]; exact q) (show Tree H' yd w Gy from s)
      have e2 := e'.keep (Same.refl H')
      -- what is new stands nowhere else
      have fresh : ∀ b ∈ Gy, b ∉ p :: G4 := fun b hb h => by
        have hb' := (k6 b h).1
        exact e.th i b hb' (fr.2 b hb).1
      refine qy _ _ ?_
      -- from the heap ahead of the expression: the new cells are new
      obtain ⟨a5, dx5, kvs5, v5, G5, z1, z2, z3, z4, z5, z6, z7⟩ := e.fld hx hl
      rw [h1] at z1; cases z1
      rw [ha] at z2
      obtain ⟨_, rfl, hfl5⟩ := HO.ins.inj (Option.some.inj z2)
      rw [← hfl5, hv] at z3; cases z3
      obtain ⟨p6, ws6, G6, e6, rfl, hp6, hz6, tr6⟩ := z4
      cases e6
      rw [hp] at hp6; cases hp6
      obtain ⟨n6, n7⟩ := List.nodup_cons.mp z5
      have t6 : Trees (upd H' p (.lst (ws ++ [w]))) ds ws G6 := Trees.agree _ _ _ (fun b hb o q => by rw [upd_ne (fun z => n6 (by rw [← z]; exact hb))]; exact ex.s _ _ q) tr6
      have fresh6 : ∀ b ∈ Gy, b ∉ p :: G6 := fun b hb h => e.th i b (z6 b h).1 (fr.2 b hb).1
      refine z7 (upd H' p (.lst (ws ++ [w]))) (.lst (ds ++ [yd])) (p :: (G6 ++ Gy)) ⟨p, _, _, rfl, rfl, upd_same, by rw [List.length_append]; exact hlen, t6.snoc t2⟩ ?_ (fun b hb => ?_) (fun b o hb q => ?_)
      · refine List.nodup_cons.mpr ⟨fun h => ?_, List.nodup_append.mpr ⟨n7, fr.1, fun x hx y hy exy => ?_⟩⟩
        · rcases List.mem_append.mp h with h | h
          · exact n6 h
          · exact pG h
        · subst exy
          exact fresh6 x hy (List.mem_cons_of_mem _ hx)
      · rcases List.mem_cons.mp hb with rfl | hb
        · exact .inl List.mem_cons_self
        · rcases List.mem_append.mp hb with hb | hb
          · exact .inl (List.mem_cons_of_mem _ hb)
          · exact .inr (fr.2 b hb).1
      · rw [upd_ne (fun z => hb (by rw [z]; exact List.mem_cons_self))]
        exact ex.s _ _ q
    · exact qy.elim
  · exact q.elim
end
end VL
end

section
set_option Elab.async false
set_option maxRecDepth 100000
set_option linter.all false
/-! The value layer, 24: entries of a dict in a field. -/
namespace VL
open PySem PySem.Spec PyProof.Rows L2
theorem TreeK.drop {H : Hp} (k : Key) : ∀ {ds : List (Key × D)} {vs : List (Key × V)} {F : List Addr}, TreeK H ds vs F → F.Nodup → ∃ F', TreeK H (dropD ds k) (dropK vs k) F' ∧ F'.Nodup ∧ ∀ p ∈ F', p ∈ F
  | [], _, _, r, _ => by obtain ⟨rfl, rfl⟩ := r; exact ⟨[], ⟨rfl, rfl⟩, List.nodup_nil, by simp⟩
  | (j, d') :: ds, _, _, ⟨w, t, G1, G2, e, f, s', q⟩, nd => by
    subst e; subst f
    obtain ⟨n1, n2, n3⟩ := List.nodup_append.mp nd
    obtain ⟨F', h1, h2, h3⟩ := TreeK.drop k q n2
    unfold dropD dropK at h1 ⊢
    by_cases h : j = k
    · refine ⟨F', ?_, h2, fun p hp => List.mem_append_right _ (h3 p hp)⟩
      simp only [List.filter_cons, h, ne_eq, not_true_eq_false, decide_false, Bool.false_eq_true, if_false]
      exact h1
    · refine ⟨G1 ++ F', ?_, List.nodup_append.mpr ⟨n1, h2, fun x hx y hy => n3 x hx y (h3 y hy)⟩, fun p hp => ?_⟩
      · simp only [List.filter_cons, ne_eq, h, not_false_eq_true, decide_true, if_true]
        exact ⟨w, _, G1, F', rfl, rfl, s', h1⟩
      · rcases List.mem_append.mp hp with hp | hp
        · exact List.mem_append_left _ hp
        · exact List.mem_append_right _ (h3 p hp)
theorem dropD_nodup {ds : List (Key × D)} (k : Key) (h : (ds.map (·.1)).Nodup) : ((dropD ds k).map (·.1)).Nodup := by
  unfold dropD
  exact (List.filter_sublist.map _).nodup h
theorem dropD_length (ds : List (Key × D)) (k : Key) : (dropD ds k).length ≤ ds.length := List.length_filter_le _ _
theorem dropK_none {vs : List (Key × V)} {k : Key} (h : valV vs k = none) : dropK vs k = vs := by
  unfold dropK
  refine List.filter_eq_self.mpr fun kv hkv => decide_eq_true fun e => ?_
  unfold valV at h
  rw [Option.map_eq_none_iff, List.find?_eq_none] at h
  exact h kv hkv (decide_eq_true e)
section
variable {X : Cx} {W : WX}
/-- self.f[k] = e -/
def gSetIF (C : Addr) (i : Nat) (f : Str) (vs : List Nat) (gk ge : GE) : GS := fun ρ => match fldAt C i f ρ with
  | some (o, fs, .dct kds) => viaE vs (ge (viewF vs 0 ρ)) ρ fun y => viaE vs (gk (viewF vs 0 ρ)) ρ fun k => match keyOf k.2 with
    | some ky => if y.1 = .T ∧ kds.length < sizeLine then .nx (ρ.set i (some (.T, .ins o C (putD fs (.inr f) (.dct (putD kds ky y.2)))))) else .bad
    | none => .bad
  | _ => .bad
theorem ss_setIF {C : Addr} {i : Nat} {f : Str} {vs : List Nat} {st : Stmt} {gk ge : GE} (hC : Cls X.K C) (hf : NoAttr X.K C f) (hp : PS X st (tAsg (tE (Md.of X) W ge) (gSub (tFld X.K (tVar i) f) (tE (Md.of X) W gk) rSetV))) : PS X st (tS (Md.of X) W (gSetIF C i f vs gk ge)) := hp.imp fun D σ H ⟨B, ρ, ⟨H0, F, e⟩, q⟩ => by
  unfold gSetIF at q
  split at q
  · rename_i o' fs kds hfa
    obtain ⟨hx, hl⟩ := fldAt_some hfa
    obtain ⟨a, dx, kvs, v, G, h1, ha, hv, t, nd, sub, back⟩ := e.fld hx hl
    obtain ⟨p, ws, G2, rfl, rfl, hp, hz, tr⟩ := t
    refine ⟨_, _, e.viewS vs, e.view vs, via (K := X.K) e q fun y _ qy => fun w H' H0' Gy ex s fr => ?_⟩
    show ∃ v, σ[i]? = some (some v) ∧ _
    refine ⟨_, h1, a, C, dx, flds kvs, _, rfl, ex.s _ _ ha, hC, hf, hv, ?_⟩
    refine ⟨H0', _, ex.s1, (e.view vs).mono ex.s0, Out.after ex (via (K := X.K) e qy fun k _ qk => ?_) fun _ z => z⟩
    refine fun kv H2 H02 G3 ex2 s2 f2 => ?_
    have exx := ex.trans ex2
    have sy := s.ext ex2
    split at qk
    · rename_i ky hky
      split at qk
      · rename_i hy
        obtain ⟨hT, hlen⟩ := hy
        obtain ⟨yf, yd⟩ := y
        obtain rfl : yf = .T := hT
        have hk : Rep X.K H2 k.2 kv := by
          have := (ex2.letgo s2 f2)
          exact Rep.mono this.1.s1 _ _ this.2
        have ek := keyOf_rep hky hk
        subst ek
        have lk : kds.length = ws.length := RepK.length (TreeK.rep (K := X.K) _ _ _ (fun p _ o q => q) tr)
        refine .inr ⟨p, _, rfl, .inl ⟨ws, ky, exx.s _ _ hp, rfl, by rw [← lk]; exact hlen, rfl⟩, ?_⟩
        obtain ⟨n1, n2⟩ := List.nodup_cons.mp nd
        have pG : p ∉ Gy := fun h => by rw [(fr.2 p h).1] at hp; cases hp
        have t1 : TreeK (upd H2 p (.dK (putK ws ky w))) kds ws G2 := TreeK.agree _ _ _ (fun b hb o q => by rw [upd_ne (fun z => n1 (by rw [← z]; exact hb))]; exact exx.s _ _ q) tr
        have t2 : Tree (upd H2 p (.dK (putK ws ky w))) yd w Gy := Tree.agree _ _ _ (fun b hb o q => by rw [upd_ne (fun z => pG (by rw [← z]; exact hb))]; exact q) (show Tree H2 yd w Gy from sy)
        have fresh : ∀ b ∈ Gy, b ∉ p :: G2 := fun b hb h => e.th i b (sub b h).1 (fr.2 b hb).1
        obtain ⟨F', tp, ndp, subp⟩ := t1.put (k := ky) t2 hz.2 (List.nodup_append.mpr ⟨n2, fr.1, fun x hx y hy exy => by
          subst exy
          exact fresh x hy (List.mem_cons_of_mem _ hx)⟩)
        refine qk _ _ (back _ (.dct (putD kds ky yd)) (p :: F') ⟨p, _, F', rfl, rfl, upd_same, ⟨Nat.le_trans (putD_length _ _ _) hlen, putD_nodup _ _ hz.2⟩, tp⟩ ?_ (fun b hb => ?_) (fun b o hb q => ?_))
        · refine List.nodup_cons.mpr ⟨fun h => ?_, ndp⟩
          rcases subp _ h with h | h
          · exact n1 h
          · exact pG h
        · rcases List.mem_cons.mp hb with rfl | hb
          · exact .inl List.mem_cons_self
          · rcases subp b hb with hb | hb
            · exact .inl (List.mem_cons_of_mem _ hb)
            · exact .inr (fr.2 b hb).1
        · rw [upd_ne (fun z => hb (by rw [z]; exact List.mem_cons_self))]
          exact exx.s _ _ q
      · exact qk.elim
    · exact qk.elim
  · exact q.elim
/-- self.f.pop(k, None), told by nobody -/
def gPopF (C : Addr) (i : Nat) (f : Str) (vs : List Nat) (gk : GE) : GS := fun ρ => match fldAt C i f ρ with
  | some (o, fs, .dct kds) => viaE vs (gk (viewF vs 0 ρ)) ρ fun k => match keyOf k.2 with
    | some ky => .nx (ρ.set i (some (.T, .ins o C (putD fs (.inr f) (.dct (dropD kds ky))))))
    | none => .bad
  | _ => .bad
theorem ss_popF {C : Addr} {i : Nat} {f : Str} {vs : List Nat} {st : Stmt} {gk : GE} (hC : Cls X.K C) (hf : NoAttr X.K C f) (hp : PS X st (tDrop (tDPop2 (tFld X.K (tVar i) f) (tE (Md.of X) W gk) (tC .non)))) : PS X st (tS (Md.of X) W (gPopF C i f vs gk)) := hp.imp fun D σ H ⟨B, ρ, ⟨H0, F, e⟩, q⟩ => by
  unfold gPopF at q
  split at q
  · rename_i o' fs kds hfa
    obtain ⟨hx, hl⟩ := fldAt_some hfa
    obtain ⟨a, dx, kvs, v, G, h1, ha, hv, t, nd, sub, back⟩ := e.fld hx hl
    obtain ⟨p, ws, G2, rfl, rfl, hp, hz, tr⟩ := t
    refine ⟨_, h1, a, C, dx, flds kvs, _, rfl, ha, hC, hf, hv, p, rfl, .inl ⟨ws, .inl hp⟩, ?_⟩
    refine ⟨_, _, e.viewS vs, e.view vs, via (K := X.K) e q fun k _ qk => fun kv H2 H02 G3 ex s2 f2 => ?_⟩
    split at qk
    · rename_i ky hky
      have hk : Rep X.K H2 k.2 kv := by
        have := (ex.letgo s2 f2)
        exact Rep.mono this.1.s1 _ _ this.2
      have ek := keyOf_rep hky hk
      subst ek
      obtain ⟨n1, n2⟩ := List.nodup_cons.mp nd
      obtain ⟨F', td, ndd, subd⟩ := TreeK.drop ky tr n2
      have fin : ∀ H3, (∀ b o, b ≠ p → H2 b = some o → H3 b = some o) → H3 p = some (.dK (dropK ws ky)) → D.nx σ H3 := fun H3 s3 e3 => by
        have t3 : TreeK H3 (dropD kds ky) (dropK ws ky) F' := TreeK.agree _ _ _ (fun b hb o q => s3 b o (fun z => n1 (by rw [← z]; exact subd b hb)) (ex.s _ _ q)) td
        refine qk _ _ (back _ (.dct (dropD kds ky)) (p :: F') ⟨p, _, F', rfl, rfl, e3, ⟨Nat.le_trans (dropD_length _ _) hz.1, dropD_nodup _ hz.2⟩, t3⟩ (List.nodup_cons.mpr ⟨fun h => n1 (subd _ h), ndd⟩) (fun b hb => ?_) (fun b o hb q => ?_))
        · rcases List.mem_cons.mp hb with rfl | hb
          · exact .inl List.mem_cons_self
          · exact .inl (List.mem_cons_of_mem _ (subd b hb))
        · exact s3 b o (fun z => hb (by rw [z]; exact List.mem_cons_self)) (ex.s _ _ q)
      show ∃ kvs k, H2 p = some (.dK kvs) ∧ _
      refine ⟨ws, ky, ex.s _ _ hp, rfl, fun u hu => ?_, fun hn => ?_⟩
      · exact fin _ (fun b o hb q => by rw [upd_ne hb]; exact q) upd_same
      · exact fin _ (fun b o hb q => q) (by rw [dropK_none hn]; exact ex.s _ _ hp)
    · exact qk.elim
  · exact q.elim
end
end VL
end

section
set_option Elab.async false
set_option maxRecDepth 100000
set_option linter.all false
/-! The value layer, 25: methods. -/
namespace VL
open PySem PySem.Spec PyProof.Rows L2
/-- the body leaves the fields fs', wherever the instance stands -/
def MOk (n : Nat) (g : GS) (C : Addr) (fs : List (Key × D)) (ds : List D) (fs' : List (Key × D)) : Prop :=
  ∀ a, ∃ ρ, g (some (.T, .ins (some a) C fs) :: enter (n - 1) ds) = .nx ρ ∧ ρ[0]? = some (some (.T, .ins (some a) C fs'))
abbrev MR := List (Key × D) → List D → List (Key × D) → Prop
def spM (M : Md) (C : Addr) (n : Nat) (R : MR) : Sp := fun vs H Q _ => ∃ fs a F H0 ds ws fs', vs = .ref a :: ws ∧ Tree H (.ins (some a) C fs) (.ref a) F ∧ F.Nodup ∧ Same H0 H ∧ (∀ p ∈ F, H0 p = none) ∧ Reps M.K H0 ds ws ∧ ds.length = n ∧ R fs ds fs' ∧
  ∀ H' F', Tree H' (.ins (some a) C fs') (.ref a) F' → F'.Nodup → Grown F H F' → Off F H H' → Q .non H'
theorem spM_len {M : Md} {C : Addr} {n : Nat} {R : MR} {vs : List V} {H : Hp} {Q : VK} {E : XK} (h : spM M C n R vs H Q E) : vs.length = n + 1 := by
  obtain ⟨fs, a, F, H0, ds, ws, fs', rfl, _, _, _, _, r, hl, _⟩ := h
  rw [List.length_cons, ← r.length, hl]
def cutF (F : List Addr) (H : Hp) : Hp := fun p => if p ∈ F then none else H p
theorem ok_bodyM {M : Md} {N : List Str} {C : Addr} {n : Nat} {H : Hp} {vs : List V} {Q : VK} {E : XK} {g : GS} (hn : n + 1 ≤ N.length) (h : spM M C n (MOk N.length g C) vs H Q E) :
    tS M (WofE E) g { nx := fun _ H' => Q .non H', rt := Q } (L2.start N vs) H := by
  obtain ⟨fs, a, F, H0, ds, ws, fs', rfl, t, nd, hs, f0, r, hl, hR, q⟩ := h
  obtain ⟨ρ1, e1, e2⟩ := hR a
  have sc : Same (cutF F H) H := fun b o h => by
    unfold cutF at h
    split at h
    · cases h
    · exact h
  have s0c : Same H0 (cutF F H) := fun b o h => by
    unfold cutF
    rw [if_neg (fun z => by rw [f0 b z] at h; cases h)]
    exact hs b o h
  have env : EnvAt M.K [(H0, cutF F H)] (L2.start N (.ref a :: ws)) (some (.T, .ins (some a) C fs) :: enter (N.length - 1) ds) H H0 (fun j => if j = 0 then F else []) := by
    refine ⟨hs, fun b hb => ?_, fun i x hx => ?_, fun i => ?_, fun i p hp => ?_, fun i j hij p hp => ?_, ?_⟩
    · rw [List.mem_singleton.mp hb]
      exact ⟨Same.refl _, hs, sc, fun p h1 h2 => absurd h1 h2⟩
    · cases i with
      | zero =>
        simp at hx; subst hx
        exact ⟨.ref a, rfl, t⟩
      | succ i =>
        simp only [List.getElem?_cons_succ] at hx
        unfold enter at hx
        by_cases hi : i < ds.length
        · rw [List.getElem?_append_left (by simpa using hi), List.getElem?_map] at hx
          obtain ⟨d, hd, ex⟩ := Option.map_eq_some_iff.mp hx
          cases ex
          obtain ⟨v, hv, rv⟩ := r.get hd
          refine ⟨v, ?_, ?_⟩
          · unfold L2.start
            have hi' : i < ws.length := by rw [← r.length]; exact hi
            rw [List.map_cons, List.cons_append, List.getElem?_cons_succ, List.getElem?_append_left (by simpa using hi'), List.getElem?_map, hv]; rfl
          · rw [if_neg (Nat.succ_ne_zero i)]; exact sh_ok rv
        · rw [List.getElem?_append_right (by simpa using hi), List.getElem?_replicate] at hx
          split at hx <;> cases hx
    · by_cases hi : i = 0
      · simp only [if_pos hi]
        refine ⟨nd, fun p hp => ⟨fun b hb => ?_, f0 p hp⟩⟩
        rw [List.mem_singleton.mp hb]
        show cutF F H p = none
        unfold cutF; rw [if_pos hp]
      · simp only [if_neg hi]; exact FrB.nil
    · by_cases hi : i = 0
      · simp only [if_pos hi] at hp; exact Tree.there _ _ _ t p hp
      · simp only [if_neg hi] at hp; exact absurd hp (by simp)
    · by_cases hi : i = 0
      · have hj : ¬ j = 0 := fun z => hij (hi.trans z.symm)
        simp only [if_neg hj]; simp
      · simp only [if_neg hi] at hp; exact absurd hp (by simp)
    · unfold enter L2.start
      simp only [List.length_append, List.length_map, List.length_replicate, List.length_cons, ← r.length]
      omega
  refine ⟨_, _, ⟨H0, _, env⟩, ?_⟩
  rw [e1]
  intro σ' H' ⟨H0', F', e'⟩
  obtain ⟨v, _, tv⟩ := e'.sl 0 _ e2
  have tv' : Tree H' (.ins (some a) C fs') v (F' 0) := tv
  obtain ⟨a', dx, kvs, G, rfl, hF, ha, ok, tk⟩ := tv'
  have ea := ok.2 a rfl
  subst ea
  have fr := e'.fr 0
  have ex := e'.ext _ List.mem_cons_self
  refine q H' (F' 0) tv fr.1 (fun p hp => ?_) fun p o hp hq => ?_
  · have := (fr.2 p hp).1 _ List.mem_cons_self
    have : cutF F H p = none := this
    unfold cutF at this
    split at this
    · rename_i h; exact .inl h
    · exact .inr this
  · exact ex.s p o (by show cutF F H p = some o; unfold cutF; rw [if_neg hp]; exact hq)
theorem ok_defM {P : Program} {w : World} {K : PySem.W.Frag} {mg : Str → Option Value} {base : Heap} {x qual : Str} {st : Stmt} {C f : Addr} {fd : FuncData} {N ps : List Str} {k n : Nat} {g : GS} (F : Fun K x qual st f fd) (S : FnScope N ps (defScope st)) (hp : ps.length = n + 1)
    (hb : ∀ (cdv : Value) (A : Around) (outer : List Env) (s : Shared) (H : Hp) (E : XK), Room k (A.deeper (envOfC qual (defScope st) s.heap.objs.size f cdv)) → PSs (cxOf (L2.CX P w) P w K mg base N qual (defScope st) f cdv A outer s H E) (defBody st) (tS ⟨K, mg⟩ (WofE E) g)) :
    FnOk P w K mg base (L2.CX P w) (k + 1) f fd ps (spM ⟨K, mg⟩ C n (MOk N.length g C)) := by
  have hn : ps.length ≤ N.length := by have := congrArg List.length S.pre; rw [List.length_take] at this; omega
  exact F.okX S (fun vs H Q E h => (spM_len h).trans hp.symm) fun cdv A outer s H vs Q E hr h => ⟨_, hb cdv A outer s H E hr, ok_bodyM (by omega) h⟩
structure CalM (P : Program) (w : World) (K : PySem.W.Frag) (mg : Str → Option Value) (base : Heap) (C : Addr) (k : Nat) (x : Str) (ps : List Str) (n : Nat) (R : MR) : Prop where
  ex : ∃ (f : Addr) (fd : FuncData), FnOk P w K mg base (L2.CX P w) k f fd ps (spM ⟨K, mg⟩ C n R) ∧ Meth K C x f ∧ Binds K fd ps []
open Classical in
noncomputable def mOf (R : MR) (fs : List (Key × D)) (ds : List D) : Option (List (Key × D)) := if h : ∃ fs', R fs ds fs' then some (Classical.choose h) else none
theorem mOf_ok {R : MR} {fs fs' : List (Key × D)} {ds : List D} (h : mOf R fs ds = some fs') : R fs ds fs' := by
  unfold mOf at h
  split at h
  · rename_i hh
    cases h
    exact Classical.choose_spec hh
  · cases h
theorem mOf_eq {n : Nat} {g : GS} {C : Addr} {fs fs' : List (Key × D)} {ds : List D} (h : MOk n g C fs ds fs') : mOf (MOk n g C) fs ds = some fs' := by
  have hx : ∃ fs', MOk n g C fs ds fs' := ⟨fs', h⟩
  unfold mOf
  rw [dif_pos hx]
  obtain ⟨ρ, h1, h2⟩ := h 0
  obtain ⟨ρ', h3, h4⟩ := Classical.choose_spec hx 0
  rw [h1] at h3; cases h3
  rw [h2] at h4
  have := Option.some.inj (Option.some.inj h4)
  have := (Prod.mk.inj this).2
  exact congrArg some (D.ins.inj this).2.2.symm
theorem tree_place {H : Hp} {o o' : Option Addr} {C : Addr} {fs : List (Key × D)} {a : Addr} {F : List Addr} (t : Tree H (.ins o C fs) (.ref a) F) (h : ∀ b, o' = some b → a = b) : Tree H (.ins o' C fs) (.ref a) F := by
  obtain ⟨a', dx, kvs, G, e, hF, ha, ok, tk⟩ := t
  cases e
  exact ⟨a, dx, kvs, G, rfl, hF, ha, ⟨ok.1, h⟩, tk⟩
section
variable {X : Cx} {W : WX}
/-- o.m(..), o a slot's own instance -/
noncomputable def gMethS (C : Addr) (i : Nat) (mn : Str) (R : MR) (vs : List Nat) (ga : List (Option D) → Res (List D)) : GS := fun ρ => match ρ[i]? with
  | some (some (.T, .ins o C' fs)) => if C' = C ∧ look fs (.inr mn) = none ∧ vs.contains i = false then viaE vs (ga (viewF vs 0 ρ)) ρ fun ds => match mOf R fs ds with
    | some fs' => .nx ((leakF vs 0 ρ).set i (some (.T, .ins o C fs')))
    | none => .bad
    else .bad
  | _ => .bad
theorem leakF_out {vs : List Nat} {x : FD} : ∀ {ρ : DE} {k : Nat} {i : Nat}, ρ[i]? = some (some x) → vs.contains (k + i) = false → (leakF vs k ρ)[i]? = some (some x)
  | [], _, _, h, _ => by simp at h
  | o :: r, k, 0, h, hc => by
    simp at h; subst h
    obtain ⟨f, d⟩ := x
    have hc' : k ∉ vs := by simpa using hc
    simp [leakF, hc']
  | o :: r, k, i + 1, h, hc => by
    have := leakF_out (ρ := r) (k := k + 1) (i := i) (by simpa using h) (by rw [show k + 1 + i = k + (i + 1) by omega]; exact hc)
    cases o with
    | none => simpa [leakF] using this
    | some p => obtain ⟨a, b⟩ := p; simpa [leakF] using this
theorem ss_methS {C : Addr} {i : Nat} {mn : Str} {R : MR} {vs : List Nat} {n : Nat} {st : Stmt} {ga : List (Option D) → Res (List D)} (hln : ∀ ρ ds, ga ρ = .ok ds → ds.length = n) (hp : PS X st (tDrop (tMeth C mn (spM (Md.of X) C n R) [] E0 (tVar i) (tA (Md.of X) W ga)))) : PS X st (tS (Md.of X) W (gMethS C i mn R vs ga)) := hp.imp fun D σ H ⟨B, ρ, ⟨H0, F, e⟩, q⟩ => by
  unfold gMethS at q
  split at q
  · rename_i o C' fs hx
    split at q
    · rename_i hc
      obtain ⟨rfl, hlk, hvs⟩ := hc
      obtain ⟨v, h1, h2⟩ := e.sl i _ hx
      have h2' : Tree H (.ins o C' fs) v (F i) := h2
      obtain ⟨a, dx, kvs, G, rfl, hF, ha, ok, tk⟩ := h2'
      have lk : List.lookup mn (flds kvs) = none := by
        rw [flds_look (fok_keys tk.keys ok.1).2]
        rcases RepK.look (K := X.K) (.inr mn) (TreeK.rep (H0 := H) _ _ _ (fun p _ o q => q) tk) with ⟨_, h⟩ | ⟨d, v, h, _⟩
        · exact h
        · rw [hlk] at h; cases h
      refine ⟨_, h1, a, dx, flds kvs, rfl, ha, lk, _, _, e.viewS vs, e.view vs, via (K := X.K) e q fun ds hds qd => fun ws H2 H02 ex rs => ?_⟩
      show spM (Md.of X) C' n R (.ref a :: (ws ++ [])) H2 _ _
      rw [List.append_nil]
      have e2 := e.leak vs ex
      have hi : i ∉ vs := by simpa using hvs
      have fi := e2.fr i
      simp only [if_neg hi] at fi
      split at qd
      · rename_i fs' hm
        have t2 : Tree H2 (.ins o C' fs) (.ref a) (F i) := Tree.agree _ _ _ (fun p _ o q => ex.s p o q) h2
        refine ⟨fs, a, F i, H02, ds, ws, fs', rfl, tree_place t2 (fun b hb => Option.some.inj hb), fi.1, e2.s0, fun p hp => (fi.2 p hp).2, rs, hln _ _ hds, mOf_ok hm, fun H' F' t' nd' gr off => ?_⟩
        have t3 := tree_place (o' := o) t' ok.2
        exact qd _ _ ⟨_, _, e2.io (leakF_out (i := i) hx (by rw [Nat.zero_add]; exact hvs)) h1 t3 nd' (by simp only [if_neg hi]; exact gr) (by simp only [if_neg hi]; exact off)⟩
      · exact qd.elim
    · exact q.elim
  · exact q.elim
/-- C(..) -/
noncomputable def gMake (C : Addr) (R : MR) (ga : List (Option D) → Res (List D)) : GE := fun ρ => (ga ρ).bind fun ds => match mOf R [] ds with
  | some fs' => .ok (.T, .ins none C fs')
  | none => .bad
theorem ev_make {C : Addr} {R : MR} {n : Nat} {e : Expr} {ga : List (Option D) → Res (List D)} (hln : ∀ ρ ds, ga ρ = .ok ds → ds.length = n) (hp : PE X e (tMake C (spM (Md.of X) C n R) [] E0 (tA (Md.of X) W ga))) : PE X e (tE (Md.of X) W (gMake C R ga)) := hp.imp fun σ H Q ⟨H0, ρ, hs, hr, q⟩ => by
  refine ⟨H0, ρ, hs, hr, ?_⟩
  have q : Out (Md.of X) W σ H0 H ((ga ρ).bind _) _ := q
  cases e1 : ga ρ with
  | bad => rw [e1] at q; exact q.elim
  | xc c fs => rw [e1] at q; exact q
  | ok ds =>
    rw [e1] at q
    intro ws H1 H01 ex rs x dx hx hdx hne
    have q : Out (Md.of X) W σ H0 H (match mOf R [] ds with | some fs' => (Res.ok ((Fl.T, D.ins none C fs') : FD)) | none => .bad) _ := q
    cases e2 : mOf R [] ds with
    | none => rw [e2] at q; exact q.elim
    | some fs' =>
      rw [e2] at q
      have q : Fin X.K H0 H (.T, .ins none C fs') Q := q
      show spM (Md.of X) C n R (.ref x :: (ws ++ [])) (upd (upd H1 dx (.own x)) x (.ins C dx [])) _ _
      rw [List.append_nil]
      have s1 : Same H1 (upd (upd H1 dx (.own x)) x (.ins C dx [])) := fun b o h => by
        rw [upd_ne (ne_of_none h hx), upd_ne (ne_of_none h hdx)]; exact h
      refine ⟨[], x, [x], H01, ds, ws, fs', rfl, ⟨x, dx, [], [], rfl, rfl, upd_same, ⟨⟨by simp, rfl⟩, fun b hb => Option.some.inj hb⟩, rfl, rfl⟩, by simp, ex.s1.trans s1, fun p hp => ?_, rs, hln _ _ e1, mOf_ok e2, fun H' F' t' nd' gr off => ⟨rfl, ?_⟩⟩
      · rw [List.mem_singleton.mp hp]; exact ex.s1.free hx
      · have s2 : Same H1 H' := fun b o h => off b o (fun z => by rw [List.mem_singleton.mp z] at h; rw [hx] at h; cases h) (s1 b o h)
        have e3 : Ext H0 H H01 H' := ⟨ex.s0, ex.s1.trans s2, ex.s.trans s2, ex.new⟩
        refine q _ _ _ F' e3 (tree_place (o' := none) t' (fun b hb => by cases hb)) ⟨nd', fun p hp => ?_⟩
        have hp1 : H1 p = none := by
          rcases gr p hp with h | h
          · rw [List.mem_singleton.mp h]; exact hx
          · by_cases hd : p = x
            · rw [hd]; exact hx
            · rw [upd_ne hd] at h
              by_cases hd2 : p = dx
              · rw [hd2]; exact hdx
              · rw [upd_ne hd2] at h; exact h
        exact ⟨ex.s.free hp1, ex.s1.free hp1⟩
/-- o.m(..) told: the instance is read -/
def noX (r : Res FD) : Res FD := match r with
  | .xc _ _ => .bad
  | r => r
def gMethV (C : Addr) (mn : Str) (g : GE) (ga : List (Option D) → Res (List D)) (m : List D → Res FD) : GE := fun ρ => (g ρ).bind fun x => match x.2 with
  | .ins o C' fs => if C' = C ∧ look fs (.inr mn) = none then (ga ρ).bind fun ds => noX (m (.ins o C' fs :: ds)) else .bad
  | _ => .bad
theorem ev_methV {C : Addr} {mn : Str} {n : Nat} {e : Expr} {g : GE} {ga : List (Option D) → Res (List D)} {m : List D → Res FD} {dds : List D} {dvs : List V} (hdd : ∀ H, Reps X.K H dds dvs) (hln : ∀ ρ ds, ga ρ = .ok ds → ds.length + dds.length + 1 = n)
    (hp : PE X e (tMeth C mn (spD (Md.of X) n m) dvs E0 (tE (Md.of X) W g) (tA (Md.of X) W ga))) : PE X e (tE (Md.of X) W (gMethV C mn g ga fun ds => m (ds ++ dds))) := hp.imp fun σ H Q ⟨H0, ρ, hs, hr, q⟩ => by
  refine ⟨H0, ρ, hs, hr, (Out.bind q).imp fun x qx => fun v H1 H01 F e s fr => ?_⟩
  obtain ⟨e1, r1⟩ := e.letgo s fr
  split at qx
  · rename_i o C' fs hx
    rw [hx] at r1
    split at qx
    · rename_i hc
      obtain ⟨rfl, hlk⟩ := hc
      have rr := r1
      obtain ⟨a, dx, kvs, rfl, ha, ok, rk⟩ := r1
      have lk : List.lookup mn (flds kvs) = none := by
        rw [flds_look (fok_keys rk.keys ok.1).2]
        rcases rk.look (.inr mn) with ⟨_, h⟩ | ⟨d, v, h, _⟩
        · exact h
        · rw [hlk] at h; cases h
      refine ⟨a, dx, flds kvs, rfl, e1.s1 _ _ ha, lk, _, ρ, e1.s1, hr.mono e1.s0, ?_⟩
      have qx : Out (Md.of X) W σ H0 H ((ga ρ).bind fun ds => noX (m (.ins o C' fs :: (ds ++ dds)))) _ := qx
      cases e3 : ga ρ with
      | bad => rw [e3] at qx; exact qx.elim
      | xc c fs' => rw [e3] at qx; exact fun C d H' H0' hm ex xf => qx C d H' H0' hm (e1.trans ex) xf
      | ok ds =>
        rw [e3] at qx
        intro ws H2 H02 e2 rs
        refine ⟨H02, .ins o C' fs :: (ds ++ dds), e2.s1, ⟨.ref a, _, rfl, Rep.mono e2.s0 _ _ rr, rs.append (hdd _)⟩, ?_, ?_⟩
        · have := hln _ _ e3
          simp only [List.length_cons, List.length_append]; omega
        · have qs : Out (Md.of X) W σ _ _ (noX (m (.ins o C' fs :: (ds ++ dds)))) _ := qx
          unfold noX at qs
          split at qs
          · exact qs.elim
          · rename_i hn
            cases e4 : m (.ins o C' fs :: (ds ++ dds)) with
            | bad => rw [e4] at qs; exact qs.elim
            | xc c fs' => exact absurd e4 (hn c fs')
            | ok r => rw [e4] at qs; exact Fin.after (e1.trans e2) qs
    · exact qx.elim
  · exact qx.elim
end
end VL
end

section
set_option Elab.async false
set_option maxRecDepth 100000
set_option linter.all false
/-! The value layer, 26: the entries of a dict in a field; insert; while. -/
namespace VL
open PySem PySem.Spec PyProof.Rows L2
def fldK (C : Addr) (f : Str) (d : D) : Option (List (Key × D)) := match d with
  | .ins _ C' fs => if C' = C then match look fs (.inr f) with
    | some (.dct kds) => some kds
    | _ => none
    else none
  | _ => none
def gDctF (C : Addr) (i : Nat) (f : Str) (fi : List (Key × D) → List FD) : GA := fun ρ => match ρ[i]? with
  | some (some d) => match fldK C f d with
    | some kds => .ok (fi kds)
    | none => .bad
  | _ => .bad
def WkF (K : PySem.W.Frag) (wi : TI) (C : Addr) (i : Nat) (f : Str) (fi : List (Key × D) → List FD) : Prop := ∀ σ H R a dx fl d o kvs, σ[i]? = some (some (.ref a)) → H a = some (.ins C dx fl) → List.lookup f fl = some (.ref d) → H d = some (.frz o (.dK kvs)) → (∀ J, (∀ H0 kds, H0 d = some (.frz o (.dK kvs)) → RepK K H0 kds kvs → Walks K J H0 (fi kds)) → R J H) → wi σ H R
theorem wkf_items {K : PySem.W.Frag} {C : Addr} {i : Nat} {f : Str} (hC : Cls K C) (hf : NoAttr K C f) : WkF K (iItems (tFld K (tVar i) f)) C i f itemsD := fun σ H R a dx fl d o kvs h1 ha hl h2 q => ⟨_, h1, a, C, dx, fl, _, rfl, ha, hC, hf, hl, d, o, kvs, rfl, h2, q _ fun H0 kds h r => walks_items h r⟩
section
variable {X : Cx} {W : WX}
theorem ev_compDF {elt tg iter : Expr} {ifs : List Expr} {scope : Scope} {own : List (Str × Nat)} {pos : Pos} {g : TG} {is : List Nat} {t : D → Option (List D)} {C : Addr} {i : Nat} {fn : Str} {f : List (Key × D) → List FD} {wi : TI} {c : GT} {ge : GE} {tt : TT} (hc : X.calm = true) (hN : X.N.Nodup) (hi : PI X tg iter wi) (hw : WkF X.K wi C i fn f) (ok : BlkOk X.N X.env.scope scope own)
    (tgt : Tgt X.K g is t) (hio : ∀ i ∈ is, i ∈ own.map (·.2))
    (hg : ∀ (s : Shared) (H : Hp) (C : Addr) (cl : List (Str × Addr)) (fp : List Addr), PG (X.blk s H scope (compEnvC scope cl C X.env) fp) tg g)
    (htt : ∀ σ H Q, tT (Md.of X) W0 c σ H Q → tt σ H Q) (ht : ∀ (s : Shared) (H : Hp) (C : Addr) (cl : List (Str × Addr)) (fp : List Addr), PTs (X.blk s H scope (compEnvC scope cl C X.env) fp) ifs tt)
    (he : ∀ (s : Shared) (H : Hp) (C : Addr) (cl : List (Str × Addr)) (fp : List Addr), PE (X.blk s H scope (compEnvC scope cl C X.env) fp) elt (tE (Md.of X) W0 ge)) (hs : ∀ x, foldedSetIterable iter X.env x = pure x := by intro _; rfl) :
    PE X (.ListComp elt [⟨tg, iter, ifs, 0⟩] scope pos) (tE (Md.of X) W (gComp (own.map (·.2)) is (gDctF C i fn f) t c ge)) := by
  have base := pe_lc (pos := pos) hc hN hi ok hg ht he hs
  refine (pe_or2 base (pe_lock base)).imp fun σ H Q ⟨H0, ρ, hs, hr, q⟩ => ?_
  have qa : Out (Md.of X) W σ H0 H ((gDctF C i fn f ρ).bind _) _ := q
  clear q
  unfold gDctF at qa
  split at qa
  · rename_i dd hk
    split at qa
    · rename_i kds hfk
      obtain ⟨qb, hqb⟩ : ∃ p : Prop, p = Out (Md.of X) W σ H0 H ((Res.ok (f kds) : Res (List FD)).bind fun xs => if xs.length ≤ sizeLine then (compL t is c ge (wipeD ρ (own.map (·.2))) xs).bind fun ys => .ok (mkL ys) else .bad) (fun x => ∀ v H' H0' F, Ext H0 H H0' H' → Sh X.K H' H0' x v F → FrF H H0' F → Q v H') := ⟨_, rfl⟩
      have qa : qb := by rw [hqb]; exact qa
      obtain ⟨v0, hv, r0⟩ := hr.2 i _ hk
      unfold fldK at hfk
      split at hfk
      · rename_i o0 C' fs
        split at hfk
        · rename_i hCC
          subst hCC
          split at hfk
          · rename_i kds' hlk
            cases hfk
            obtain ⟨a, dx, kvF, rfl, ha, okF, rkF⟩ := r0
            rcases rkF.look (.inr fn) with ⟨h1, _⟩ | ⟨d1, v1, h1, h2, h3⟩
            · rw [hlk] at h1; cases h1
            rw [hlk] at h1; cases h1
            have hlook : List.lookup fn (flds kvF) = some v1 := by rw [flds_look (fok_keys rkF.keys okF.1).2]; exact h2
            obtain ⟨d, kvs, rfl, hd, hz, rk⟩ := h3
            have had : a ≠ d := fun z => by
              subst z
              rcases hd with hd | ⟨o, hd⟩ <;> (rw [ha] at hd; cases hd)
            rw [hqb] at qa
            have q : Out (Md.of X) W σ H0 H (if (f kds).length ≤ sizeLine then _ else _) _ := qa
            split at q
            · rename_i hzf
              cases hcr : compL t is c ge (wipeD ρ (own.map (·.2))) (f kds) with
              | bad => rw [hcr] at q; exact q.elim
              | xc n fs => exact absurd hcr compL_nox
              | ok ys =>
                rw [hcr] at q
                have q : Fin X.K H0 H (mkL ys) Q := q
                have go : ∀ (A0 A : Hp) (o : Obj) (Q : VK), Fin X.K A0 A (mkL ys) Q → Same A0 A → RdE X.K σ ρ A0 → RepK X.K A0 kds kvs → A0 a = some (.ins C' dx (flds kvF)) → A0 d = some (.frz o (.dK kvs)) → tLc wi g tt (tE (Md.of X) W0 ge) (own.map (·.2)) σ A Q := fun A0 A o Q fin hsA rdA rkA hAa hdA => by
                  refine hw σ A _ a dx _ d o kvs hv (hsA _ _ hAa) hlook (hsA _ _ hdA) fun J wk Dd hD => ?_
                  exact comp_core (M := Md.of X) (wk A0 kds hdA rkA) tgt hio htt (fun _ _ _ x => x) hzf hcr rdA hsA (Same.refl _) hD (fun H' H0' vs F ex hDv sh fr nF d0 =>
                    comp_end fin (Nat.le_trans (compL_le hcr) hzf) ex hDv sh fr nF d0 hD) (fun p h => h)
                rcases hd with hd | ⟨o, hd⟩
                · right
                  refine ⟨d, .dK kvs, hs _ _ hd, trivial, fun od => ?_⟩
                  rw [← lk_upd (hs _ _ hd)]
                  have on : Onl d (.dK kvs) H0 := fun w q => by rw [hd] at q; exact (Option.some.inj q).symm
                  exact go (lk d od H0) (lk d od H) od _ (q.lock hd (hs _ _ hd)) (lk_same hs) (hr.monoK (kp_lk on)) (RepK.monoK (kp_lk on) _ _ rk) (by rw [lk_ne had]; exact ha) (by rw [lk_at, hd]; rfl)
                · left
                  exact go H0 H o Q q hs hr rk ha hd
            · exact q.elim
          · cases hfk
        · cases hfk
      · cases hfk
    · exact qa.elim
  · exact qa.elim
end
end VL
end

section
set_option Elab.async false
set_option maxRecDepth 100000
set_option linter.all false
/-! The value layer, 27: while, insert, an append to what nobody holds. -/
namespace VL
open PySem PySem.Spec PyProof.Rows L2
def whL (vs : List Nat) (c : GT) (g : GS) : Nat → DE → Fo
  | 0, _ => .bad
  | n + 1, ρ => viaE vs (c (viewF vs 0 ρ)) ρ fun b => if b = true then match g ρ with
    | .nx ρ' => whL vs c g n ρ'
    | .ct ρ' => whL vs c g n ρ'
    | .bk ρ' => .nx ρ'
    | o => o
    else .nx ρ
theorem Trees.ins {H : Hp} {d : D} {v : V} {G : List Addr} (t : Tree H d v G) : ∀ (n : Nat) {ds : List D} {ws : List V} {F : List Addr}, Trees H ds ws F → ∃ A B, F = A ++ B ∧ Trees H (ds.take n ++ [d] ++ ds.drop n) (ws.take n ++ [v] ++ ws.drop n) (A ++ (G ++ B))
  | 0, ds, ws, F, q => ⟨[], F, rfl, v, ws, G, F, rfl, rfl, t, q⟩
  | n + 1, [], _, _, q => by
    obtain ⟨rfl, rfl⟩ := q
    exact ⟨[], [], rfl, v, [], G, [], by simp, by simp, t, rfl, rfl⟩
  | n + 1, x :: ds, _, _, ⟨w, r, G1, G2, e, f, s, q⟩ => by
    subst e; subst f
    obtain ⟨A, B, e, q'⟩ := Trees.ins t n q
    subst e
    exact ⟨G1 ++ A, B, by simp, w, r.take n ++ [v] ++ r.drop n, G1, A ++ (G ++ B), by simp, by simp, s, q'⟩
section
variable {X : Cx} {W : WX}
theorem ss_while {n : Nat} {vs : List Nat} {st : Stmt} {c : GT} {g : GS} (hp : PS X st (tWhile (tT (Md.of X) W c) (tS (Md.of X) W g))) : PS X st (tS (Md.of X) W (whL vs c g n)) := hp.imp fun D σ H ⟨B, ρ, e, q⟩ => by
  refine ⟨fun m σ H => ∃ ρ, EnvOk X.K B σ ρ H ∧ OutS (Md.of X) W B D (whL vs c g m ρ), ⟨n, ρ, e, q⟩, fun m σ H ⟨ρ, ⟨H0, F, e⟩, q⟩ => ?_⟩
  cases m with
  | zero => exact (show False from q).elim
  | succ m =>
    have q : OutS (Md.of X) W B D (viaE vs (c (viewF vs 0 ρ)) ρ fun b => if b = true then match g ρ with
      | .nx ρ' => whL vs c g m ρ'
      | .ct ρ' => whL vs c g m ρ'
      | .bk ρ' => .nx ρ'
      | o => o
      else .nx ρ) := q
    refine ⟨_, _, e.viewS vs, e.view vs, via (K := X.K) e q fun b _ qb => fun H1 H01 ex => ?_⟩
    have e1 : EnvOk X.K B σ ρ H1 := ⟨_, _, e.keep ex.s⟩
    cases b with
    | false => exact qb σ H1 e1
    | true =>
      show if (true = true) then _ else _
      rw [if_pos rfl]
      have qb : OutS (Md.of X) W B D (match g ρ with
        | .nx ρ' => whL vs c g m ρ'
        | .ct ρ' => whL vs c g m ρ'
        | .bk ρ' => .nx ρ'
        | o => o) := qb
      refine ⟨fun σ' H' => ∃ ρ', EnvOk X.K B σ' ρ' H' ∧ OutS (Md.of X) W B D (whL vs c g m ρ'), fun σ' H' h => ⟨m, Nat.lt_succ_self m, h⟩, B, ρ, e1, ?_⟩
      cases hg : g ρ with
      | nx ρ' => rw [hg] at qb; exact fun σ' H' e' => ⟨ρ', e', qb⟩
      | ct ρ' => rw [hg] at qb; exact fun σ' H' e' => ⟨ρ', e', qb⟩
      | bk ρ' => rw [hg] at qb; exact fun σ' H' e' => qb σ' H' e'
      | rt x => rw [hg] at qb; exact qb
      | xc cc fs ρ' => rw [hg] at qb; exact qb
      | bad => rw [hg] at qb; exact qb
/-- x.insert(j, e) -/
def gIns (i : Nat) (vs : List Nat) (gj g : GE) : GS := fun ρ => match ρ[i]? with
  | some (some (.T, .lst ds)) => viaE vs (gj (viewF vs 0 ρ)) ρ fun j => viaE vs (g (viewF vs 0 ρ)) ρ fun y => match j.2 with
    | .int j => if y.1 = .T ∧ ds.length < sizeLine ∧ 0 ≤ j ∧ j < 2 ^ 63 then .nx (ρ.set i (some (.T, .lst (ds.take j.toNat ++ [y.2] ++ ds.drop j.toNat)))) else .bad
    | _ => .bad
  | _ => .bad
abbrev rIns : V → List V → Hp → VK → Prop := fun x vs H Q => ∃ l xs i y, x = .ref l ∧ vs = [.int i, y] ∧ H l = some (.lst xs) ∧ xs.length < sizeLine ∧ 0 ≤ i ∧ i < 2 ^ 63 ∧ Q .non (upd H l (.lst (xs.take i.toNat ++ [y] ++ xs.drop i.toNat)))
theorem ss_ins {i : Nat} {vs : List Nat} {st : Stmt} {gj g : GE} (hp : PS X st (tDrop (tBM X.K "list" rIns (tVar i) (tCons (tE (Md.of X) W gj) (tCons (tE (Md.of X) W g) tNil))))) : PS X st (tS (Md.of X) W (gIns i vs gj g)) := hp.imp fun D σ H ⟨B, ρ, ⟨H0, F, e⟩, q⟩ => by
  unfold gIns at q
  split at q
  · rename_i ds hx
    obtain ⟨v, h1, h2⟩ := e.sl i _ hx
    have h2' : Tree H (.lst ds) v (F i) := h2
    obtain ⟨a, ws, G2, rfl, hF, ha, hz, t⟩ := h2'
    refine ⟨_, h1, .inl ⟨rfl, ws, SqL.of ha⟩, _, _, e.viewS vs, e.view vs, via (K := X.K) e q fun j _ qj => fun jv H' H0' Gj exj sj frj => ?_⟩
    show tCons (tE (Md.of X) W g) tNil σ H' _
    refine ⟨H0', _, exj.s1, (e.view vs).mono exj.s0, Out.after exj (via (K := X.K) e qj fun y _ qy => ?_) fun _ z => z⟩
    refine fun w H2 H02 G ex2 s2 f2 => ?_
    have exx := exj.trans ex2
    split at qy
    · rename_i j' hj
      split at qy
      · rename_i hc
        obtain ⟨hT, hlen, hj0, hj1⟩ := hc
        obtain ⟨yf, yd⟩ := y
        obtain rfl : yf = .T := hT
        have hjv : jv = .int j' := by
          have := (exj.letgo sj frj).2
          rw [hj] at this; exact this
        subst hjv
        have f2' : FrF H H02 G := ⟨f2.1, fun p hp => ⟨exj.s.free (f2.2 p hp).1, (f2.2 p hp).2⟩⟩
        have ha' := exx.s _ _ ha
        refine ⟨a, ws, j', w, rfl, rfl, ha', by rw [← t.length]; exact hlen, hj0, hj1, ?_⟩
        have k := e.keep exx.s
        have fi := e.fr i
        rw [hF] at fi
        obtain ⟨nd, fz⟩ := fi
        obtain ⟨n1, n2⟩ := List.nodup_cons.mp nd
        have aG : a ∉ G := fun h => by rw [(f2'.2 a h).1] at ha; cases ha
        generalize hL : (ws.take j'.toNat ++ [w] ++ ws.drop j'.toNat) = ws'
        have gs : ∀ p ∈ G2, ∀ o, H p = some o → (upd H2 a (.lst ws')) p = some o := fun p hp o q => by
          rw [upd_ne (fun z => n1 (by rw [← z]; exact hp))]; exact exx.s p o q
        have gs' : ∀ p ∈ G, ∀ o, H2 p = some o → (upd H2 a (.lst ws')) p = some o := fun p hp o q => by
          rw [upd_ne (fun z => aG (by rw [← z]; exact hp))]; exact q
        have t1 := Trees.agree _ _ _ gs t
        have t2 := Tree.agree _ _ _ gs' (show Tree H2 yd w G from s2)
        obtain ⟨A, Bb, eAB, t3⟩ := Trees.ins t2 j'.toNat t1
        rw [hL] at t3
        subst eAB
        obtain ⟨m1, m2, m3⟩ := List.nodup_append.mp n2
        have gout : ∀ p ∈ G, p ∉ A ∧ p ∉ Bb := fun p hp => ⟨fun h => e.th i p (by rw [hF]; exact List.mem_cons_of_mem _ (List.mem_append_left _ h)) (f2'.2 p hp).1, fun h => e.th i p (by rw [hF]; exact List.mem_cons_of_mem _ (List.mem_append_right _ h)) (f2'.2 p hp).1⟩
        have ndn : (A ++ (G ++ Bb)).Nodup := List.nodup_append.mpr ⟨m1, List.nodup_append.mpr ⟨f2'.1, m2, fun x hx y hy exy => by subst exy; exact (gout x hx).2 hy⟩, fun x hx y hy exy => by
          subst exy
          rcases List.mem_append.mp hy with h | h
          · exact (gout x h).1 hx
          · exact m3 x hx x h rfl⟩
        have ln : (ds.take j'.toNat ++ [yd] ++ ds.drop j'.toNat).length ≤ sizeLine := by
          simp only [List.length_append, List.length_take, List.length_drop, List.length_cons, List.length_nil]
          omega
        refine qy _ _ ⟨_, _, k.mut (i := i) (a := a) (G := a :: (A ++ (G ++ Bb))) (x := (.T, .lst (ds.take j'.toNat ++ [yd] ++ ds.drop j'.toNat))) h1 (by rw [hF]; exact List.mem_cons_self) ⟨a, _, _, rfl, rfl, upd_same, ln, t3⟩ ⟨?_, fun p hp => ?_⟩ fun j hj p hp => ?_⟩
        · refine List.nodup_cons.mpr ⟨fun h => ?_, ndn⟩
          rcases List.mem_append.mp h with h | h
          · exact n1 (List.mem_append_left _ h)
          · rcases List.mem_append.mp h with h | h
            · exact aG h
            · exact n1 (List.mem_append_right _ h)
        · rcases List.mem_cons.mp hp with rfl | hp
          · exact fz p List.mem_cons_self
          · rcases List.mem_append.mp hp with hp | hp
            · exact fz p (List.mem_cons_of_mem _ (List.mem_append_left _ hp))
            · rcases List.mem_append.mp hp with hp | hp
              · exact ⟨e.free (f2'.2 p hp).1, e.s0.free (f2'.2 p hp).1⟩
              · exact fz p (List.mem_cons_of_mem _ (List.mem_append_right _ hp))
        · rcases List.mem_cons.mp hp with rfl | hp
          · exact e.dj i j (Ne.symm hj) p (by rw [hF]; exact List.mem_cons_self)
          · rcases List.mem_append.mp hp with hp | hp
            · exact e.dj i j (Ne.symm hj) p (by rw [hF]; exact List.mem_cons_of_mem _ (List.mem_append_left _ hp))
            · rcases List.mem_append.mp hp with hp | hp
              · exact fun h => e.th j p h (f2'.2 p hp).1
              · exact e.dj i j (Ne.symm hj) p (by rw [hF]; exact List.mem_cons_of_mem _ (List.mem_append_right _ hp))
      · exact qy.elim
    · exact qy.elim
  · exact q.elim
/-- f(..).append(e): the list is thrown away -/
def gDropApp (vs : List Nat) (g ge : GE) : GS := fun ρ => viaE vs (g (viewF vs 0 ρ)) ρ fun x => match x.2 with
  | .lst ds => if x.1 = .T ∧ ds.length < sizeLine then viaE vs (ge (viewF vs 0 ρ)) ρ fun _ => .nx ρ else .bad
  | _ => .bad
theorem ss_dropApp {vs : List Nat} {st : Stmt} {g ge : GE} (hp : PS X st (tDrop (tBM X.K "list" rAppend (tE (Md.of X) W g) (tCons (tE (Md.of X) W ge) tNil)))) : PS X st (tS (Md.of X) W (gDropApp vs g ge)) := hp.imp fun D σ H ⟨B, ρ, ⟨H0, F, e⟩, q⟩ => by
  unfold gDropApp at q
  refine ⟨_, _, e.viewS vs, e.view vs, via (K := X.K) e q fun x _ qx => fun v H1 H01 G ex s fr => ?_⟩
  split at qx
  · rename_i ds hx
    split at qx
    · rename_i hc
      obtain ⟨hT, hl⟩ := hc
      obtain ⟨xf, xd⟩ := x
      obtain rfl : xf = .T := hT
      obtain rfl : xd = .lst ds := hx
      obtain ⟨a, ws, G2, rfl, rfl, ha, hz, t⟩ := (show Tree H1 (.lst ds) v G from s)
      refine ⟨.inl ⟨rfl, ws, SqL.of ha⟩, H01, _, ex.s1, (e.view vs).mono ex.s0, Out.after ex (via (K := X.K) e qx fun y _ qy => ?_) fun _ z => z⟩
      refine fun w H2 H02 Gy ex2 s2 f2 => ?_
      refine ⟨a, ws, w, rfl, rfl, ex2.s _ _ ha, by rw [← t.length]; exact hl, ?_⟩
      have exx := ex.trans ex2
      have s3 : Same H (upd H2 a (.lst (ws ++ [w]))) := fun b o h => by
        rw [upd_ne (fun z => by rw [z, (fr.2 a List.mem_cons_self).1] at h; cases h)]
        exact exx.s b o h
      exact qy σ _ ⟨_, _, e.keep s3⟩
    · exact qx.elim
  · exact qx.elim
end
end VL
end

section
set_option Elab.async false
set_option maxRecDepth 100000
set_option linter.all false
/-! The value layer, 28: methods called by keywords. -/
namespace VL
open PySem PySem.Spec PyProof.Rows L2
def tMethK (C : Addr) (m : Str) (sp : Sp) (gV : List V → List V → List V) (E : XK) (ta : TE) (tk : TA) : TE := fun σ H Q => ta σ H fun x H1 => ∃ a dx fs, x = .ref a ∧ H1 a = some (.ins C dx fs) ∧ List.lookup m fs = none ∧ tk σ H1 fun zs H2 => zs.length = 1 ∧ sp (gV [x] zs) H2 Q E
section
variable {X : Cx} {W : WX}
theorem pe_methK0 {CX : CXT} {k : Nat} {f C : Addr} {fd : FuncData} {ps : List Str} {y : Str} {sp : Sp} {E : XK} {m : Str} {pos apos : Pos} {o : Expr} {kws : List Keyword} {ta : TE} {tk : TA} {pl : Sem Bool} {g : List Value → List Value → List Value} {gV : List V → List V → List V}
    (ho : PE X o ta) (hC : Cls X.K C) (hm : Meth X.K C m f) (F : FnOk X.prog X.w X.K X.mg X.base CX k f fd ps sp) (hr : Room k X.A) (hb : KBn X.K fd ps 1 [y] g gV) (hx : Passes CX X E) (hk : PK X kws tk)
    (hall : ((backToKw pos (keywordEach kws X.env)).all fun x => x.fst.isSome) = true) (hks : List.filterMap (fun x => x.fst) (backToKw pos (keywordEach kws X.env)) = [y])
    (hno : (((backTo pos (starEach [] X.env)).any fun x => x.fst) || (backToKw pos (keywordEach kws X.env)).any fun x => x.fst.isNone) = false)
    (he : eval (.Call (.Attribute o m apos) [] kws pos) X.env = do
      let ov ← eval o X.env
      standAt apos.atName
      let __x ← holding [ov] (getMethod ov m pl)
      match __x with
        | (f, first) => callWith pos f first (backTo pos (starEach [] X.env)) (backToKw pos (keywordEach kws X.env))) :
    PE X (.Call (.Attribute o m apos) [] kws pos) (tMethK C m sp gV E ta tk) := ⟨fun pins s σ H Q I h => by
  refine PySem.W.methodCall_KW (thn (ho.run pins s σ H _ I h) fun u s1 ⟨x, H1, I1, rx, a, dx, fs, ex, ea, l, q⟩ => ?_) he
  subst ex
  have ru : u = .ref a := rx
  subst ru
  refine getmeth_ok I1 ea hC hm l ?_
  refine PySem.W.callWith_KW0 (K := X.K) (h₀ := X.base) I1.ok.mod.kin hm.kp hall (thn (hk.run pos pins s1 σ H1 _ I1 q) fun ws s2 ⟨zs, H2, I2, rz, hl, q2⟩ => ⟨I2.kIn, ?_⟩) hno
  rw [hks]
  exact run_fnN (vs := [.ref a]) F hr hb hx I2 (.cons (show RelV (.ref a) (.ref a) from rfl) .nil) rz rfl hl q2⟩
theorem pk_imp {kws : List Keyword} {t t' : TA} (h : PK X kws t) (k : ∀ σ H Q, t' σ H Q → t σ H Q) : PK X kws t' := ⟨fun pos pins s σ H Q I q => h.run pos pins s σ H Q I (k σ H Q q)⟩
theorem pk_one {kpos : Pos} {e : Expr} {nm : Option Str} {g : GE} (h : PE X e (tE (Md.of X) W g)) : PK X [{ arg := nm, value := e, pos := kpos }] (tA (Md.of X) W (gCons g gNil)) :=
  pk_imp (pk_cons h pk_nil) fun σ H Q ⟨H0, ρ, hs, hr, q⟩ =>
    ⟨H0, ρ, hs, hr, (Out.bind q).imp fun x qx => fun v H1 H01 F e s fr => by
      obtain ⟨e1, r1⟩ := e.letgo s fr
      have qx : Out (Md.of X) W σ H0 H ((gNil ρ).bind fun xs => .ok (x.2 :: xs)) _ := qx
      exact qx [v] H1 _ e1 ⟨v, [], rfl, r1, rfl⟩⟩
def gMethK (C : Addr) (mn : Str) (g : GE) (ga : List (Option D) → Res (List D)) (arr : List D → List D) (m : List D → Res FD) : GE := fun ρ => (g ρ).bind fun x => match x.2 with
  | .ins o C' fs => if C' = C ∧ look fs (.inr mn) = none then (ga ρ).bind fun ds => noX (m (.ins o C' fs :: arr ds)) else .bad
  | _ => .bad
theorem ev_methK {C : Addr} {mn : Str} {n : Nat} {e : Expr} {g : GE} {ga : List (Option D) → Res (List D)} {m : List D → Res FD} {gV : List V → List V → List V} {arr : List D → List D} (hg : ∀ H d v x z, Rep X.K H d v → Rep X.K H x z → Reps X.K H (d :: arr [x]) (gV [v] [z])) (hal : ∀ x, (arr [x]).length + 1 = n) (hln : ∀ ρ ds, ga ρ = .ok ds → ds.length = 1)
    (hp : PE X e (tMethK C mn (spD (Md.of X) n m) gV E0 (tE (Md.of X) W g) (tA (Md.of X) W ga))) : PE X e (tE (Md.of X) W (gMethK C mn g ga arr m)) := hp.imp fun σ H Q ⟨H0, ρ, hs, hr, q⟩ => by
  refine ⟨H0, ρ, hs, hr, (Out.bind q).imp fun x qx => fun v H1 H01 F e s fr => ?_⟩
  obtain ⟨e1, r1⟩ := e.letgo s fr
  split at qx
  · rename_i o C' fs hx
    rw [hx] at r1
    split at qx
    · rename_i hc
      obtain ⟨rfl, hlk⟩ := hc
      have rr := r1
      obtain ⟨a, dx, kvs, rfl, ha, ok, rk⟩ := r1
      have lk : List.lookup mn (flds kvs) = none := by
        rw [flds_look (fok_keys rk.keys ok.1).2]
        rcases rk.look (.inr mn) with ⟨_, h⟩ | ⟨d, v, h, _⟩
        · exact h
        · rw [hlk] at h; cases h
      refine ⟨a, dx, flds kvs, rfl, e1.s1 _ _ ha, lk, _, ρ, e1.s1, hr.mono e1.s0, ?_⟩
      have qx : Out (Md.of X) W σ H0 H ((ga ρ).bind fun ds => noX (m (.ins o C' fs :: arr ds))) _ := qx
      cases e3 : ga ρ with
      | bad => rw [e3] at qx; exact qx.elim
      | xc c fs' => rw [e3] at qx; exact fun C d H' H0' hm ex xf => qx C d H' H0' hm (e1.trans ex) xf
      | ok ds =>
        rw [e3] at qx
        intro ws H2 H02 e2 rs
        have hl := hln _ _ e3
        match ds, hl with
        | [d1], _ =>
        obtain ⟨z, t, rfl, rz, rt⟩ := rs
        cases rt
        refine ⟨rfl, H02, .ins o C' fs :: arr [d1], e2.s1, hg _ _ _ _ _ (Rep.mono e2.s0 _ _ rr) rz, by rw [List.length_cons]; exact hal d1, ?_⟩
        have qs : Out (Md.of X) W σ _ _ (noX (m (.ins o C' fs :: arr [d1]))) _ := qx
        unfold noX at qs
        split at qs
        · exact qs.elim
        · rename_i hn
          cases e4 : m (.ins o C' fs :: arr [d1]) with
          | bad => rw [e4] at qs; exact qs.elim
          | xc c fs' => exact absurd e4 (hn c fs')
          | ok r => rw [e4] at qs; exact Fin.after (e1.trans e2) qs
    · exact qx.elim
  · exact qx.elim
end
end VL
end

section
set_option Elab.async false
set_option maxRecDepth 100000
set_option linter.all false
/-! The value layer, 29: methods of the text, called. -/
namespace VL
open PySem PySem.Spec PyProof.Rows L2
/-- the maker -/
structure CalK (P : Program) (w : World) (K : PySem.W.Frag) (mg : Str → Option Value) (base : Heap) (C : Addr) (k : Nat) (ps : List Str) (n : Nat) (R : MR) : Prop where
  ex : ∃ (f : Addr) (fd : FuncData), FnOk P w K mg base (L2.CX P w) k f fd ps (spM ⟨K, mg⟩ C n R) ∧ Mk K C f ∧ Binds K fd ps []
/-- a method that reads: n with self; dds its defaults, all None -/
structure CalV (P : Program) (w : World) (K : PySem.W.Frag) (mg : Str → Option Value) (base : Heap) (C : Addr) (k : Nat) (x : Str) (n j : Nat) (m : List D → Res FD) : Prop where
  ex : ∃ (f : Addr) (fd : FuncData) (ps : List Str), FnOk P w K mg base (L2.CX P w) k f fd ps (spD ⟨K, mg⟩ n m) ∧ Meth K C x f ∧ ∀ i, i ≤ j → ∃ ds, Vals (List.replicate i V.non) ds ∧ Binds K fd ps ds
/-- .. called by one keyword -/
structure CalW (P : Program) (w : World) (K : PySem.W.Frag) (mg : Str → Option Value) (base : Heap) (C : Addr) (k : Nat) (x : Str) (n : Nat) (y : Str) (gV : List V → List V → List V) (m : List D → Res FD) : Prop where
  ex : ∃ (f : Addr) (fd : FuncData) (ps : List Str) (g : List Value → List Value → List Value), FnOk P w K mg base (L2.CX P w) k f fd ps (spD ⟨K, mg⟩ n m) ∧ Meth K C x f ∧ KBn K fd ps 1 [y] g gV
theorem CalM.mono {P : Program} {w : World} {K : PySem.W.Frag} {mg : Str → Option Value} {base : Heap} {C : Addr} {j k n : Nat} {x : Str} {ps : List Str} {R : MR} (c : CalM P w K mg base C j x ps n R) (h : j ≤ k) : CalM P w K mg base C k x ps n R := by
  obtain ⟨f, fd, a, b⟩ := c.ex
  exact ⟨f, fd, a.mono h, b⟩
theorem CalV.mono {P : Program} {w : World} {K : PySem.W.Frag} {mg : Str → Option Value} {base : Heap} {C : Addr} {j k n i : Nat} {x : Str} {m : List D → Res FD} (c : CalV P w K mg base C j x n i m) (h : j ≤ k) : CalV P w K mg base C k x n i m := by
  obtain ⟨f, fd, ps, a, b⟩ := c.ex
  exact ⟨f, fd, ps, a.mono h, b⟩
theorem CalW.mono {P : Program} {w : World} {K : PySem.W.Frag} {mg : Str → Option Value} {base : Heap} {C : Addr} {j k n : Nat} {x y : Str} {gV : List V → List V → List V} {m : List D → Res FD} (c : CalW P w K mg base C j x n y gV m) (h : j ≤ k) : CalW P w K mg base C k x n y gV m := by
  obtain ⟨f, fd, ps, g, a, b⟩ := c.ex
  exact ⟨f, fd, ps, g, a.mono h, b⟩
theorem CalK.mono {P : Program} {w : World} {K : PySem.W.Frag} {mg : Str → Option Value} {base : Heap} {C : Addr} {j k n : Nat} {ps : List Str} {R : MR} (c : CalK P w K mg base C j ps n R) (h : j ≤ k) : CalK P w K mg base C k ps n R := by
  obtain ⟨f, fd, a, b⟩ := c.ex
  exact ⟨f, fd, a.mono h, b⟩
theorem reps_non {K : PySem.W.Frag} {H : Hp} : ∀ {i : Nat}, Reps K H (List.replicate i D.non) (List.replicate i V.non)
  | 0 => rfl
  | i + 1 => ⟨.non, _, rfl, rfl, reps_non⟩
section
variable {X : Cx} {W : WX}
theorem ss_callM {C : Addr} {k0 i n : Nat} {mn : Str} {ps : List Str} {R : MR} {vs : List Nat} {o e : Expr} {es : List Expr} {apos pos spos : Pos} {ga : List (Option D) → Res (List D)} {pl : Sem Bool} (c : CalM X.prog X.w X.K X.mg X.base C k0 mn ps n R) (hC : Cls X.K C) (hr : Room k0 X.A) (ho : PE X o (tVar i)) (ha : PA X (e :: es) (tA (Md.of X) W ga)) (hln : ∀ ρ ds, ga ρ = .ok ds → ds.length = n)
    (hs : starEach (e :: es) X.env = (false, eval e X.env) :: starEach es X.env := by rfl) (hpl : (backTo pos (starEach es X.env)).any (·.1) = false := by rfl)
    (he : eval (.Call (.Attribute o mn apos) (e :: es) [] pos) X.env = (do
      let ov ← eval o X.env
      standAt apos.atName
      let __x ← holding [ov] (getMethod ov mn pl)
      match __x with
        | (f, first) => callWith pos f first (backTo pos (starEach (e :: es) X.env)) (backToKw pos (keywordEach [] X.env))) := by rfl) :
    PS X (.Expr (.Call (.Attribute o mn apos) (e :: es) [] pos) spos) (tS (Md.of X) W (gMethS C i mn R vs ga)) := by
  obtain ⟨f, fd, F, M, b⟩ := c.ex
  exact ss_methS hln (ps_expr (pe_meth ho hC M F hr b .nil passL ha hs hpl he))
theorem ev_callV {C : Addr} {k0 n j i : Nat} {mn : Str} {m : List D → Res FD} {o e : Expr} {es : List Expr} {apos pos : Pos} {g : GE} {ga : List (Option D) → Res (List D)} {pl : Sem Bool} (c : CalV X.prog X.w X.K X.mg X.base C k0 mn n j m) (hC : Cls X.K C) (hr : Room k0 X.A) (hi : i ≤ j) (ho : PE X o (tE (Md.of X) W g)) (ha : PA X (e :: es) (tA (Md.of X) W ga)) (hn : (e :: es).length + i + 1 = n) (hln : ∀ ρ ds, ga ρ = .ok ds → ds.length = (e :: es).length)
    (hs : starEach (e :: es) X.env = (false, eval e X.env) :: starEach es X.env := by rfl) (hpl : (backTo pos (starEach es X.env)).any (·.1) = false := by rfl)
    (he : eval (.Call (.Attribute o mn apos) (e :: es) [] pos) X.env = (do
      let ov ← eval o X.env
      standAt apos.atName
      let __x ← holding [ov] (getMethod ov mn pl)
      match __x with
        | (f, first) => callWith pos f first (backTo pos (starEach (e :: es) X.env)) (backToKw pos (keywordEach [] X.env))) := by rfl) :
    PE X (.Call (.Attribute o mn apos) (e :: es) [] pos) (tE (Md.of X) W (gMethV C mn g ga fun ds => m (ds ++ List.replicate i D.non))) := by
  obtain ⟨f, fd, ps, F, M, b⟩ := c.ex
  obtain ⟨ds, v, b⟩ := b i hi
  exact ev_methV (n := n) (fun H => reps_non) (fun ρ ds h => by rw [hln ρ ds h, List.length_replicate]; exact hn) (pe_meth ho hC M F hr b v passL ha hs hpl he)
theorem ev_callV0 {C : Addr} {k0 n j i : Nat} {mn : Str} {m : List D → Res FD} {o : Expr} {apos pos : Pos} {g : GE} {pl : Sem Bool} (c : CalV X.prog X.w X.K X.mg X.base C k0 mn n j m) (hC : Cls X.K C) (hr : Room k0 X.A) (hi : i ≤ j) (ho : PE X o (tE (Md.of X) W g)) (hn : i + 1 = n)
    (he : eval (.Call (.Attribute o mn apos) [] [] pos) X.env = (do
      let ov ← eval o X.env
      standAt apos.atName
      let __x ← holding [ov] (getMethod ov mn pl)
      match __x with
        | (f, first) => callWith pos f first (backTo pos (starEach [] X.env)) (backToKw pos (keywordEach [] X.env))) := by rfl) :
    PE X (.Call (.Attribute o mn apos) [] [] pos) (tE (Md.of X) W (gMethV C mn g gNil fun ds => m (ds ++ List.replicate i D.non))) := by
  obtain ⟨f, fd, ps, F, M, b⟩ := c.ex
  obtain ⟨ds, v, b⟩ := b i hi
  refine ev_methV (n := n) (fun H => reps_non) (fun ρ ds h => by cases h; rw [List.length_replicate]; simpa using hn) ((pe_meth0 ho hC M F hr b v passL he).imp fun σ H Q q => ?_)
  -- nothing is handed in
  show tE (Md.of X) W g σ H _
  refine (show tE (Md.of X) W g σ H _ from q).elim fun H0 ⟨ρ, hs, hr, q⟩ => ⟨H0, ρ, hs, hr, q.imp fun x qx => fun v H1 H01 F e s fr => ?_⟩
  obtain ⟨a, dx, fs, h1, h2, h3, H2, ρ2, s2, r2, q2⟩ := qx v H1 H01 F e s fr
  exact ⟨a, dx, fs, h1, h2, h3, q2 [] H1 H2 (Ext.refl s2) rfl⟩
theorem ev_callW {C : Addr} {k0 n : Nat} {mn y : Str} {m : List D → Res FD} {gV : List V → List V → List V} {arr : List D → List D} {o e : Expr} {apos pos kpos : Pos} {g ge : GE} {pl : Sem Bool} (c : CalW X.prog X.w X.K X.mg X.base C k0 mn n y gV m) (hC : Cls X.K C) (hr : Room k0 X.A) (hg : ∀ H d v x z, Rep X.K H d v → Rep X.K H x z → Reps X.K H (d :: arr [x]) (gV [v] [z])) (hal : ∀ x, (arr [x]).length + 1 = n) (ho : PE X o (tE (Md.of X) W g)) (ha : PE X e (tE (Md.of X) W ge))
    (hall : ((backToKw pos (keywordEach [{ arg := some y, value := e, pos := kpos }] X.env)).all fun x => x.fst.isSome) = true := by rfl) (hks : List.filterMap (fun x => x.fst) (backToKw pos (keywordEach [{ arg := some y, value := e, pos := kpos }] X.env)) = [y] := by rfl)
    (hno : (((backTo pos (starEach [] X.env)).any fun x => x.fst) || (backToKw pos (keywordEach [{ arg := some y, value := e, pos := kpos }] X.env)).any fun x => x.fst.isNone) = false := by rfl)
    (he : eval (.Call (.Attribute o mn apos) [] [{ arg := some y, value := e, pos := kpos }] pos) X.env = (do
      let ov ← eval o X.env
      standAt apos.atName
      let __x ← holding [ov] (getMethod ov mn pl)
      match __x with
        | (f, first) => callWith pos f first (backTo pos (starEach [] X.env)) (backToKw pos (keywordEach [{ arg := some y, value := e, pos := kpos }] X.env))) := by rfl) :
    PE X (.Call (.Attribute o mn apos) [] [{ arg := some y, value := e, pos := kpos }] pos) (tE (Md.of X) W (gMethK C mn g (gCons ge gNil) arr m)) := by
  obtain ⟨f, fd, ps, gg, F, M, b⟩ := c.ex
  exact ev_methK hg hal (gCons_len gNil_len) (pe_methK0 ho hC M F hr b passL (pk_one ha) hall hks hno he)
theorem ev_makeC {C : Addr} {k0 n : Nat} {x : Str} {ps : List Str} {R : MR} {e : Expr} {es : List Expr} {p pos : Pos} {ga : List (Option D) → Res (List D)} (c : CalK X.prog X.w X.K X.mg X.base C k0 ps n R) (hr : Room (k0 + 1) X.A) (hg : Gl X x) (hm : X.mg x = some (.ref C)) (ha : PA X (e :: es) (tA (Md.of X) W ga)) (hln : ∀ ρ ds, ga ρ = .ok ds → ds.length = n) (hdb : (x == ("__debug__" : Str)) = false := by decide)
    (hs : starEach (e :: es) X.env = (false, eval e X.env) :: starEach es X.env := by rfl) (hpl : (backTo pos (starEach es X.env)).any (·.1) = false := by rfl) :
    PE X (.Call (.Name x p) (e :: es) [] pos) (tE (Md.of X) W (gMake C R ga)) := by
  obtain ⟨f, fd, F, M, b⟩ := c.ex
  exact ev_make hln (pe_make M F hr hg hm b .nil passL ha hdb hs hpl)
end
end VL
end

section
set_option Elab.async false
set_option maxRecDepth 100000
set_option linter.all false
set_option maxHeartbeats 4000000
namespace G
open PySem PySem.Spec PyProof.Rows L2 VL
def top (i : Nat) : Stmt := PySem.Challenge.pw_cabinet_k77_between_ends.main.body.getD i (.Pass ⟨0, 0, 0, 0⟩)
structure Txt (K : PySem.W.Frag) (mg : Str → Option Value) (cO : Addr) : Prop where
  b_bool : mg "bool" = none
  b_dict : mg "dict" = none
  b_int : mg "int" = none
  b_isinstance : mg "isinstance" = none
  b_len : mg "len" = none
  b_list : mg "list" = none
  b_min : mg "min" = none
  b_range : mg "range" = none
  b_sorted : mg "sorted" = none
  b_str : mg "str" = none
  b_tuple : mg "tuple" = none
  g_Order : mg "Order" = some (.ref cO)
  cls : Cls K cO
  na_nowhere : NoAttr K cO "nowhere"
  na_spots_of : NoAttr K cO "spots_of"
  na_way : NoAttr K cO "way"
section
variable {P : Program} {w : World} {K : PySem.W.Frag} {mg : Str → Option Value} {base : Heap} {k k0 : Nat} {cO : Addr}
/-! o_init -/
abbrev s_o_init : Stmt := inClass (top 15) 0
theorem sc_o_init : FnScope ["self", "path"] ["self", "path"] (defScope s_o_init) := ⟨rfl, rfl, rfl, by decide +kernel, rfl, by decide +kernel, by decide +kernel⟩
def g_o_init (cO : Addr) : GS := gSeq (gSetF cO 0 "way" [1] (gCall (gCons (gVar 1) (gNil)) (fun ds => ofO (listD ds)))) (gSeq (gSetF cO 0 "spots_of" [] (gCon (.dct []))) (gSetF cO 0 "nowhere" [] (gLst (lNil))))
theorem fn_o_init (T : Txt K mg cO) {f : Addr} {fd : FuncData} (F : Fun K "__init__" "Order.__init__" s_o_init f fd) : FnOk P w K mg base (L2.CX P w) (k + 1) f fd ["self", "path"] (spM ⟨K, mg⟩ cO 1 (MOk 2 (g_o_init cO) cO)) := by
  refine ok_defM F sc_o_init rfl fun cdv A outer s H E hr => ?_
  have nd := sc_o_init.nd
  have hu : (cxOf (L2.CX P w) P w K mg base ["self", "path"] "Order.__init__" (defScope s_o_init) f cdv A outer s H E).A.units + 64 < cLine := hr.units
  have hc : (cxOf (L2.CX P w) P w K mg base ["self", "path"] "Order.__init__" (defScope s_o_init) f cdv A outer s H E).calm = true := rfl
  have tk : Takes (cxOf (L2.CX P w) P w K mg base ["self", "path"] "Order.__init__" (defScope s_o_init) f cdv A outer s H E) (WofE E) := takes_of rfl rfl rfl rfl
  exact sb_cons (ss_setF T.cls T.na_way (ps_fld (pv 0) (ev_callTy call_listV rfl T.b_list (by decide +kernel) (ea_cons (ev_var (pv 1)) (ea_nil))) rfl)) (sb_cons (ss_setF T.cls T.na_spots_of (ps_fld (pv 0) (ev_d0) rfl)) (sb_one (ss_setF T.cls T.na_nowhere (ps_fld (pv 0) (ev_lst (el_nil)) rfl))))
/-! o_put -/
abbrev s_o_put : Stmt := inClass (top 15) 1
theorem sc_o_put : FnScope ["self", "key", "thing"] ["self", "key", "thing"] (defScope s_o_put) := ⟨rfl, rfl, rfl, by decide +kernel, rfl, by decide +kernel, by decide +kernel⟩
noncomputable def g_o_put (cO : Addr) (R_o_cleared : MR) (m_has : List D → Res FD) (m_thing_at : List D → Res FD) : GS := gSeq (gMethS cO 0 "cleared" R_o_cleared [1] (gCons (gVar 1) (gNil))) (gIfS [0, 2] (gTest (gCall (gCons (gVar 2) (gCons (gFld cO "way" (gVar 0)) (gNil))) m_has)) (gSetIF cO 0 "spots_of" [0, 1, 2] (gVar 1) (gCall (gCons (gVar 2) (gCons (gFld cO "way" (gVar 0)) (gNil))) m_thing_at)) (gAppF cO 0 "nowhere" [1] (gVar 1)))
theorem fn_o_put (T : Txt K mg cO) {f : Addr} {fd : FuncData} (F : Fun K "put" "Order.put" s_o_put f fd) {R_o_cleared : MR} (h_o_cleared : CalM P w K mg base cO k "cleared" ["self", "key"] 1 R_o_cleared) {m_has : List D → Res FD} (h_has : Cal P w K mg base k "has" ["thing", "path"] m_has) {m_thing_at : List D → Res FD} (h_thing_at : Cal P w K mg base k "thing_at" ["thing", "path"] m_thing_at) : FnOk P w K mg base (L2.CX P w) (k + 1) f fd ["self", "key", "thing"] (spM ⟨K, mg⟩ cO 2 (MOk 3 (g_o_put cO R_o_cleared m_has m_thing_at) cO)) := by
  refine ok_defM F sc_o_put rfl fun cdv A outer s H E hr => ?_
  have nd := sc_o_put.nd
  have hu : (cxOf (L2.CX P w) P w K mg base ["self", "key", "thing"] "Order.put" (defScope s_o_put) f cdv A outer s H E).A.units + 64 < cLine := hr.units
  have hu1 : (cxOf (L2.CX P w) P w K mg base ["self", "key", "thing"] "Order.put" (defScope s_o_put) f cdv A outer s H E).A.units + 1 < cLine := Nat.lt_of_le_of_lt (Nat.add_le_add_left (by decide) _) hu
  have hc : (cxOf (L2.CX P w) P w K mg base ["self", "key", "thing"] "Order.put" (defScope s_o_put) f cdv A outer s H E).calm = true := rfl
  have tk : Takes (cxOf (L2.CX P w) P w K mg base ["self", "key", "thing"] "Order.put" (defScope s_o_put) f cdv A outer s H E) (WofE E) := takes_of rfl rfl rfl rfl
  exact sb_cons (ss_callM h_o_cleared T.cls hr (pv 0) (ea_cons (ev_var (pv 1)) (ea_nil)) (gCons_len gNil_len)) (sb_one (ss_if (et_val (ev_fn h_has hr rfl tk rfl (ea_cons (ev_var (pv 2)) (ea_cons (ev_fld T.cls T.na_way (ev_var (pv 0))) (ea_nil))) (gCons_len (gCons_len gNil_len)))) (sb_one (ss_setIF T.cls T.na_spots_of (ps_asg (ev_fn h_thing_at hr rfl tk rfl (ea_cons (ev_var (pv 2)) (ea_cons (ev_fld T.cls T.na_way (ev_var (pv 0))) (ea_nil))) (gCons_len (gCons_len gNil_len))) (pg_sub (pe_fld (pv 0) rfl) (ev_var (pv 1)) (set_V hu1))))) (sb_one (ss_appF T.cls T.na_nowhere (ps_expr (pe_bm PySem.F.plainAttrs_list PySem.F.slot_list_append PySem.F.type_list_append mt_append (pe_fld (pv 0) rfl) (pa_cons (ev_var (pv 1)) pa_nil)))))))
/-! o_cleared -/
abbrev s_o_cleared : Stmt := inClass (top 15) 2
theorem sc_o_cleared : FnScope ["self", "key", "one"] ["self", "key"] (defScope s_o_cleared) := ⟨rfl, rfl, rfl, by decide +kernel, rfl, by decide +kernel, by decide +kernel⟩
def g_o_cleared (cO : Addr) : GS := gSeq (gPopF cO 0 "spots_of" [1] (gVar 1)) (gSetF cO 0 "nowhere" [0, 1] (gComp [2] [2] (gItL (gFld cO "nowhere" (gVar 0))) t1 (gTest (g2 (gVar 2) (gVar 1) (fun x y => ofO ((fB fun a b => (eqN 32 a b).map (!·)) x.2 y.2)))) (gVar 2)))
theorem fn_o_cleared (T : Txt K mg cO) {f : Addr} {fd : FuncData} (F : Fun K "cleared" "Order.cleared" s_o_cleared f fd) : FnOk P w K mg base (L2.CX P w) (k + 1) f fd ["self", "key"] (spM ⟨K, mg⟩ cO 1 (MOk 3 (g_o_cleared cO) cO)) := by
  refine ok_defM F sc_o_cleared rfl fun cdv A outer s H E hr => ?_
  have nd := sc_o_cleared.nd
  have hu : (cxOf (L2.CX P w) P w K mg base ["self", "key", "one"] "Order.cleared" (defScope s_o_cleared) f cdv A outer s H E).A.units + 64 < cLine := hr.units
  have hc : (cxOf (L2.CX P w) P w K mg base ["self", "key", "one"] "Order.cleared" (defScope s_o_cleared) f cdv A outer s H E).calm = true := rfl
  have tk : Takes (cxOf (L2.CX P w) P w K mg base ["self", "key", "one"] "Order.cleared" (defScope s_o_cleared) f cdv A outer s H E) (WofE E) := takes_of rfl rfl rfl rfl
  exact sb_cons (ss_popF T.cls T.na_spots_of (ps_expr (pe_dpop2 (pe_fld (pv 0) rfl) (ev_var (pv 1)) pe_non ⟨rfl, rfl, rfl, rfl⟩))) (sb_one (ss_setF T.cls T.na_nowhere (ps_fld (pv 0) (ev_comp (own := [("one", 2)]) hc nd (ei_list (ev_fld T.cls T.na_nowhere (ev_var (pv 0)))) (blkOk_by (by kernel_rfl)) tgt1 (by decide) (fun _ _ _ _ _ => pg_name (i := 2) nd rfl (Or.inl rfl)) (fun _ _ _ x => x) (fun _ _ _ _ _ => pts_one (et_cmp (op_neV hu) (ev_var (pv 2)) (ev_var (pv 1)) (nomark _))) (fun _ _ _ _ _ => ev_var (pv 2))) rfl)))
/-! o_keys_in_order -/
abbrev s_o_keys_in_order : Stmt := inClass (top 15) 4
theorem sc_o_keys_in_order : FnScope ["self", "rows", "row", "key", "there"] ["self"] (defScope s_o_keys_in_order) := ⟨rfl, rfl, rfl, by decide +kernel, rfl, by decide +kernel, by decide +kernel⟩
noncomputable def g_o_keys_in_order (cO : Addr) (m_rank : List D → Res FD) : GS := gSeq (gSet 1 [0] (gCall (gCons (gComp [3, 4] [3, 4] (gDctF cO 0 "spots_of" itemsD) t2 (cYes) (gTpl (lCons (gCall (gCons (gVar 4) (gNil)) m_rank) (lCons (gVar 3) (lNil))))) (gNil)) (fun ds => ofO (sortD2 ds)))) (gRet [1] (gComp [2] [2] (gItL (gVar 1)) t1 (cYes) (g2 (gVar 2) (gCon (.int 1)) (fun x y => ofO (ixD x.2 y.2)))))
theorem fn_o_keys_in_order (T : Txt K mg cO) {f : Addr} {fd : FuncData} (F : Fun K "keys_in_order" "Order.keys_in_order" s_o_keys_in_order f fd) {m_rank : List D → Res FD} (h_rank : Cal P w K mg base k "rank" ["thing"] m_rank) : FnOk P w K mg base (L2.CX P w) (k + 1) f fd ["self"] (spD ⟨K, mg⟩ 1 (runG 5 (g_o_keys_in_order cO m_rank))) := by
  refine ok_def F sc_o_keys_in_order fun cdv A outer s H E hr => ?_
  have nd := sc_o_keys_in_order.nd
  have hu : (cxOf (L2.CX P w) P w K mg base ["self", "rows", "row", "key", "there"] "Order.keys_in_order" (defScope s_o_keys_in_order) f cdv A outer s H E).A.units + 64 < cLine := hr.units
  have hc : (cxOf (L2.CX P w) P w K mg base ["self", "rows", "row", "key", "there"] "Order.keys_in_order" (defScope s_o_keys_in_order) f cdv A outer s H E).calm = true := rfl
  have tk : Takes (cxOf (L2.CX P w) P w K mg base ["self", "rows", "row", "key", "there"] "Order.keys_in_order" (defScope s_o_keys_in_order) f cdv A outer s H E) (WofE E) := takes_of rfl rfl rfl rfl
  exact sb_cons (ss_asg (ps_set (i := 1) nd rfl (Or.inl rfl) (ev_callB (call_sortV2 hc hu) rfl T.b_sorted (by decide +kernel) (ea_cons (ev_compDF (own := [("key", 3), ("there", 4)]) hc nd (pi_items (pe_fld (pv 0) rfl)) (wkf_items T.cls T.na_spots_of) (blkOk_by (by kernel_rfl)) tgt2 (by decide) (fun _ _ _ _ _ => pg_tup rfl (pgs_cons (pg_name (i := 3) nd rfl (Or.inl rfl)) (pgs_cons (pg_name (i := 4) nd rfl (Or.inl rfl)) pgs_nil))) tt_yes (fun _ _ _ _ _ => pts_nil) (fun _ _ _ _ _ => ev_tup (el_cons (ev_fn h_rank hr rfl takes0 rfl (ea_cons (ev_var (pv 4)) (ea_nil)) (gCons_len gNil_len)) (el_cons (ev_var (pv 3)) (el_nil))))) (ea_nil))))) (sb_one (ss_ret (ps_ret (ev_comp (own := [("row", 2)]) hc nd (ei_list (ev_var (pv 1))) (blkOk_by (by kernel_rfl)) tgt1 (by decide) (fun _ _ _ _ _ => pg_name (i := 2) nd rfl (Or.inl rfl)) tt_yes (fun _ _ _ _ _ => pts_nil) (fun _ _ _ _ _ => ev_ix hu (ev_var (pv 2)) (ev_con pe_int) (fun _ _ => rfl))))))
/-! o_between -/
abbrev s_o_between : Stmt := inClass (top 15) 7
theorem sc_o_between : FnScope ["self", "least", "most", "keys", "key"] ["self", "least", "most"] (defScope s_o_between) := ⟨rfl, rfl, rfl, by decide +kernel, rfl, by decide +kernel, by decide +kernel⟩
def g_o_between (cO : Addr) (m_o_keys_in_order : List D → Res FD) (m_before : List D → Res FD) : GS := gSeq (gSet 3 [0] (gMethV cO "keys_in_order" (gVar 0) gNil (fun ds => m_o_keys_in_order (ds ++ List.replicate 0 D.non)))) (gSeq (gIfS [1] (gTest (gNotN (gVar 1))) (gSet 3 [0, 1, 3] (gComp [4] [4] (gItL (gVar 3)) t1 (gNotT (gTest (gCall (gCons (g2 (gFld cO "spots_of" (gVar 0)) (gVar 4) (fun x y => ofO (ixD x.2 y.2))) (gCons (gVar 1) (gNil))) m_before))) (gVar 4))) (gPass)) (gSeq (gIfS [2] (gTest (gNotN (gVar 2))) (gSet 3 [0, 2, 3] (gComp [4] [4] (gItL (gVar 3)) t1 (gNotT (gTest (gCall (gCons (gVar 2) (gCons (g2 (gFld cO "spots_of" (gVar 0)) (gVar 4) (fun x y => ofO (ixD x.2 y.2))) (gNil))) m_before))) (gVar 4))) (gPass)) (gRetV 3)))
theorem fn_o_between (T : Txt K mg cO) {f : Addr} {fd : FuncData} {dvs : List V} {kws : List (Str × V)} (F : FunD K "between" "Order.between" (defArgs s_o_between) (defBody s_o_between) (defScope s_o_between) dvs kws f fd) {m_o_keys_in_order : List D → Res FD} (h_o_keys_in_order : CalV P w K mg base cO k "keys_in_order" 1 0 m_o_keys_in_order) {m_before : List D → Res FD} (h_before : Cal P w K mg base k "before" ["one", "other"] m_before) : FnOk P w K mg base (L2.CX P w) (k + 1) f fd ["self", "least", "most"] (spD ⟨K, mg⟩ 3 (runG 5 (g_o_between cO m_o_keys_in_order m_before))) := by
  refine ok_defD F sc_o_between fun cdv A outer s H E hr => ?_
  have nd := sc_o_between.nd
  have hu : (cxOf (L2.CX P w) P w K mg base ["self", "least", "most", "keys", "key"] "Order.between" (defScope s_o_between) f cdv A outer s H E).A.units + 64 < cLine := hr.units
  have hc : (cxOf (L2.CX P w) P w K mg base ["self", "least", "most", "keys", "key"] "Order.between" (defScope s_o_between) f cdv A outer s H E).calm = true := rfl
  have tk : Takes (cxOf (L2.CX P w) P w K mg base ["self", "least", "most", "keys", "key"] "Order.between" (defScope s_o_between) f cdv A outer s H E) (WofE E) := takes_of rfl rfl rfl rfl
  exact sb_cons (ss_asg (ps_set (i := 3) nd rfl (Or.inl rfl) (ev_callV0 (i := 0) h_o_keys_in_order T.cls hr (by decide) (ev_var (pv 0)) rfl))) (sb_cons (ss_if (et_pc (ec_notN (ev_var (pv 1))) rfl) (sb_one (ss_setLc (i := 3) (own := [("key", 4)]) hc nd rfl rfl (sw_true rfl rfl rfl (by decide +kernel)) (ei_list (ev_var (pv 3))) (blkOk_by (by kernel_rfl)) tgt1 (by decide) (fun _ _ _ _ _ => pg_name (i := 4) nd rfl (Or.inl rfl)) (fun _ _ _ x => x) (fun _ _ _ _ _ => pts_one (et_not (et_val (ev_fn h_before hr rfl takes0 rfl (ea_cons (ev_ix hu (ev_fld T.cls T.na_spots_of (ev_var (pv 0))) (ev_var (pv 4)) (fun _ _ => rfl)) (ea_cons (ev_var (pv 1)) (ea_nil))) (gCons_len (gCons_len gNil_len)))))) (fun _ _ _ _ _ => ev_var (pv 4)))) (sb_nil)) (sb_cons (ss_if (et_pc (ec_notN (ev_var (pv 2))) rfl) (sb_one (ss_setLc (i := 3) (own := [("key", 4)]) hc nd rfl rfl (sw_true rfl rfl rfl (by decide +kernel)) (ei_list (ev_var (pv 3))) (blkOk_by (by kernel_rfl)) tgt1 (by decide) (fun _ _ _ _ _ => pg_name (i := 4) nd rfl (Or.inl rfl)) (fun _ _ _ x => x) (fun _ _ _ _ _ => pts_one (et_not (et_val (ev_fn h_before hr rfl takes0 rfl (ea_cons (ev_var (pv 2)) (ea_cons (ev_ix hu (ev_fld T.cls T.na_spots_of (ev_var (pv 0))) (ev_var (pv 4)) (fun _ _ => rfl)) (ea_nil))) (gCons_len (gCons_len gNil_len)))))) (fun _ _ _ _ _ => ev_var (pv 4)))) (sb_nil)) (sb_one (ss_retV (ps_ret (pv 3))))))
/-! copied -/
abbrev s_copied : Stmt := top 5
theorem sc_copied : FnScope ["thing", "found", "name", "one"] ["thing"] (defScope s_copied) := ⟨rfl, rfl, rfl, by decide +kernel, rfl, by decide +kernel, by decide +kernel⟩
def g_copied (m_copied : List D → Res FD) : GS := gSeq (gIfS [0] (gTest (gIsi "list" (gVar 0))) (gRet [0] (gComp [3] [3] (gItL (gVar 0)) t1 (cYes) (gCall (gCons (gVar 3) (gNil)) m_copied))) (gPass)) (gSeq (gIfS [0] (gTest (gIsi "dict" (gVar 0))) (gSeq (gSet 1 [] (gCon (.dct []))) (gSeq (gForD 0 [0] [2, 3] itemsD t2 (gSetIt 1 [2, 3] (gVar 2) (gCall (gCons (gVar 3) (gNil)) m_copied))) (gRetV 1))) (gPass)) (gRetV 0))
theorem ok_copied (T : Txt K mg cO) {f : Addr} {fd : FuncData} (d : Dfn K mg "copied" s_copied ["thing"] f fd) {m_copied : List D → Res FD} (h_copied : Cal P w K mg base k "copied" ["thing"] m_copied) : Cal P w K mg base (k + 1) "copied" ["thing"] (runG 4 (g_copied m_copied)) := by
  refine Cal.of d sc_copied fun cdv A outer s H E hr => ?_
  have nd := sc_copied.nd
  have hu : (cxOf (L2.CX P w) P w K mg base ["thing", "found", "name", "one"] "copied" (defScope s_copied) f cdv A outer s H E).A.units + 64 < cLine := hr.units
  have hu1 : (cxOf (L2.CX P w) P w K mg base ["thing", "found", "name", "one"] "copied" (defScope s_copied) f cdv A outer s H E).A.units + 1 < cLine := Nat.lt_of_le_of_lt (Nat.add_le_add_left (by decide) _) hu
  have hc : (cxOf (L2.CX P w) P w K mg base ["thing", "found", "name", "one"] "copied" (defScope s_copied) f cdv A outer s H E).calm = true := rfl
  have tk : Takes (cxOf (L2.CX P w) P w K mg base ["thing", "found", "name", "one"] "copied" (defScope s_copied) f cdv A outer s H E) (WofE E) := takes_of rfl rfl rfl rfl
  have hp := passes_of (X := cxOf (L2.CX P w) P w K mg base ["thing", "found", "name", "one"] "copied" (defScope s_copied) f cdv A outer s H E) rfl
  exact sb_cons (ss_if (et_val (ev_isi rfl T.b_isinstance rfl T.b_list (by decide +kernel) (by decide +kernel) (ev_var (pv 0)))) (sb_one (ss_ret (ps_ret (ev_comp (own := [("one", 3)]) hc nd (ei_list (ev_var (pv 0))) (blkOk_by (by kernel_rfl)) tgt1 (by decide) (fun _ _ _ _ _ => pg_name (i := 3) nd rfl (Or.inl rfl)) tt_yes (fun _ _ _ _ _ => pts_nil) (fun _ _ _ _ _ => ev_fn h_copied hr rfl takes0 rfl (ea_cons (ev_var (pv 3)) (ea_nil)) (gCons_len gNil_len)))))) (sb_nil)) (sb_cons (ss_if (et_val (ev_isi rfl T.b_isinstance rfl T.b_dict (by decide +kernel) (by decide +kernel) (ev_var (pv 0)))) (sb_cons (ss_asg (ps_set (i := 1) nd rfl (Or.inl rfl) (ev_d0))) (sb_cons (ss_forD hp hc (pi_items (pv 0)) wk_items (pg_tup rfl (pgs_cons (pg_name (i := 2) nd rfl (Or.inl rfl)) (pgs_cons (pg_name (i := 3) nd rfl (Or.inl rfl)) pgs_nil))) tgt2 (sb_one (ss_setIt (ps_asg (ev_fn h_copied hr rfl tk rfl (ea_cons (ev_var (pv 3)) (ea_nil)) (gCons_len gNil_len)) (pg_sub (pv 1) (ev_var (pv 2)) (set_V hu1)))))) (sb_one (ss_retV (ps_ret (pv 1)))))) (sb_nil)) (sb_one (ss_retV (ps_ret (pv 0)))))
/-! rank -/
abbrev s_rank : Stmt := top 7
theorem sc_rank : FnScope ["thing", "name", "one"] ["thing"] (defScope s_rank) := ⟨rfl, rfl, rfl, by decide +kernel, rfl, by decide +kernel, by decide +kernel⟩
def g_rank (m_rank : List D → Res FD) : GS := gSeq (gIfS [0] (gTest (gIsN (gVar 0))) (gRet [] (gTpl (lCons (gCon (.int 0)) (lNil)))) (gPass)) (gSeq (gIfS [0] (gTest (gIsi "bool" (gVar 0))) (gRet [0] (gTpl (lCons (gCon (.int 1)) (lCons (gCall (gCons (gVar 0) (gNil)) (fun ds => ofO (intD ds))) (lNil))))) (gPass)) (gSeq (gIfS [0] (gTest (gIsi "int" (gVar 0))) (gRet [0] (gTpl (lCons (gCon (.int 2)) (lCons (gVar 0) (lNil))))) (gPass)) (gSeq (gIfS [0] (gTest (gIsi "str" (gVar 0))) (gRet [0] (gTpl (lCons (gCon (.int 3)) (lCons (gVar 0) (lNil))))) (gPass)) (gSeq (gIfS [0] (gTest (gIsi "list" (gVar 0))) (gRet [0] (gTpl (lCons (gCon (.int 4)) (lCons (gCall (gCons (gComp [2] [2] (gItL (gVar 0)) t1 (cYes) (gCall (gCons (gVar 2) (gNil)) m_rank)) (gNil)) (fun ds => ofO (tupD ds))) (lNil))))) (gPass)) (gRet [0] (gTpl (lCons (gCon (.int 5)) (lCons (gCall (gCons (gComp [1] [1] (gItL (gCall (gCons (gVar 0) (gNil)) (fun ds => ofO (sortD ds)))) t1 (cYes) (gTpl (lCons (gVar 1) (lCons (gCall (gCons (g2 (gVar 0) (gVar 1) (fun x y => ofO (ixD x.2 y.2))) (gNil)) m_rank) (lNil))))) (gNil)) (fun ds => ofO (tupD ds))) (lNil)))))))))
theorem ok_rank (T : Txt K mg cO) {f : Addr} {fd : FuncData} (d : Dfn K mg "rank" s_rank ["thing"] f fd) {m_rank : List D → Res FD} (h_rank : Cal P w K mg base k "rank" ["thing"] m_rank) : Cal P w K mg base (k + 1) "rank" ["thing"] (runG 3 (g_rank m_rank)) := by
  refine Cal.of d sc_rank fun cdv A outer s H E hr => ?_
  have nd := sc_rank.nd
  have hu : (cxOf (L2.CX P w) P w K mg base ["thing", "name", "one"] "rank" (defScope s_rank) f cdv A outer s H E).A.units + 64 < cLine := hr.units
  have hc : (cxOf (L2.CX P w) P w K mg base ["thing", "name", "one"] "rank" (defScope s_rank) f cdv A outer s H E).calm = true := rfl
  have tk : Takes (cxOf (L2.CX P w) P w K mg base ["thing", "name", "one"] "rank" (defScope s_rank) f cdv A outer s H E) (WofE E) := takes_of rfl rfl rfl rfl
  exact sb_cons (ss_if (et_pc (ec_isN (ev_var (pv 0))) rfl) (sb_one (ss_ret (ps_ret (ev_tup (el_cons (ev_con pe_int) (el_nil)))))) (sb_nil)) (sb_cons (ss_if (et_val (ev_isi rfl T.b_isinstance rfl T.b_bool (by decide +kernel) (by decide +kernel) (ev_var (pv 0)))) (sb_one (ss_ret (ps_ret (ev_tup (el_cons (ev_con pe_int) (el_cons (ev_callTy call_intV rfl T.b_int (by decide +kernel) (ea_cons (ev_var (pv 0)) (ea_nil))) (el_nil))))))) (sb_nil)) (sb_cons (ss_if (et_val (ev_isi rfl T.b_isinstance rfl T.b_int (by decide +kernel) (by decide +kernel) (ev_var (pv 0)))) (sb_one (ss_ret (ps_ret (ev_tup (el_cons (ev_con pe_int) (el_cons (ev_var (pv 0)) (el_nil))))))) (sb_nil)) (sb_cons (ss_if (et_val (ev_isi rfl T.b_isinstance rfl T.b_str (by decide +kernel) (by decide +kernel) (ev_var (pv 0)))) (sb_one (ss_ret (ps_ret (ev_tup (el_cons (ev_con pe_int) (el_cons (ev_var (pv 0)) (el_nil))))))) (sb_nil)) (sb_cons (ss_if (et_val (ev_isi rfl T.b_isinstance rfl T.b_list (by decide +kernel) (by decide +kernel) (ev_var (pv 0)))) (sb_one (ss_ret (ps_ret (ev_tup (el_cons (ev_con pe_int) (el_cons (ev_callTy call_tupV rfl T.b_tuple (by decide +kernel) (ea_cons (ev_comp (own := [("one", 2)]) hc nd (ei_list (ev_var (pv 0))) (blkOk_by (by kernel_rfl)) tgt1 (by decide) (fun _ _ _ _ _ => pg_name (i := 2) nd rfl (Or.inl rfl)) tt_yes (fun _ _ _ _ _ => pts_nil) (fun _ _ _ _ _ => ev_fn h_rank hr rfl takes0 rfl (ea_cons (ev_var (pv 2)) (ea_nil)) (gCons_len gNil_len))) (ea_nil))) (el_nil))))))) (sb_nil)) (sb_one (ss_ret (ps_ret (ev_tup (el_cons (ev_con pe_int) (el_cons (ev_callTy call_tupV rfl T.b_tuple (by decide +kernel) (ea_cons (ev_comp (own := [("name", 1)]) hc nd (ei_list (ev_callB (call_sortV hc) rfl T.b_sorted (by decide +kernel) (ea_cons (ev_var (pv 0)) (ea_nil)))) (blkOk_by (by kernel_rfl)) tgt1 (by decide) (fun _ _ _ _ _ => pg_name (i := 1) nd rfl (Or.inl rfl)) tt_yes (fun _ _ _ _ _ => pts_nil) (fun _ _ _ _ _ => ev_tup (el_cons (ev_var (pv 1)) (el_cons (ev_fn h_rank hr rfl takes0 rfl (ea_cons (ev_ix hu (ev_var (pv 0)) (ev_var (pv 1)) (fun _ _ => rfl)) (ea_nil)) (gCons_len gNil_len)) (el_nil))))) (ea_nil))) (el_nil)))))))))))
/-! before -/
abbrev s_before : Stmt := top 8
theorem sc_before : FnScope ["one", "other"] ["one", "other"] (defScope s_before) := ⟨rfl, rfl, rfl, by decide +kernel, rfl, by decide +kernel, by decide +kernel⟩
def g_before (m_rank : List D → Res FD) : GS := gRet [0, 1] (g2 (gCall (gCons (gVar 0) (gNil)) m_rank) (gCall (gCons (gVar 1) (gNil)) m_rank) (fun x y => ofO ((fB ltD2) x.2 y.2)))
theorem ok_before (T : Txt K mg cO) {f : Addr} {fd : FuncData} (d : Dfn K mg "before" s_before ["one", "other"] f fd) {m_rank : List D → Res FD} (h_rank : Cal P w K mg base k "rank" ["thing"] m_rank) : Cal P w K mg base (k + 1) "before" ["one", "other"] (runG 2 (g_before m_rank)) := by
  refine Cal.of d sc_before fun cdv A outer s H E hr => ?_
  have nd := sc_before.nd
  have hu : (cxOf (L2.CX P w) P w K mg base ["one", "other"] "before" (defScope s_before) f cdv A outer s H E).A.units + 64 < cLine := hr.units
  have hc : (cxOf (L2.CX P w) P w K mg base ["one", "other"] "before" (defScope s_before) f cdv A outer s H E).calm = true := rfl
  have tk : Takes (cxOf (L2.CX P w) P w K mg base ["one", "other"] "before" (defScope s_before) f cdv A outer s H E) (WofE E) := takes_of rfl rfl rfl rfl
  exact sb_one (ss_ret (ps_ret (ev_cmp (op_ltV2 hu) (ev_fn h_rank hr rfl tk rfl (ea_cons (ev_var (pv 0)) (ea_nil)) (gCons_len gNil_len)) (ev_fn h_rank hr rfl tk rfl (ea_cons (ev_var (pv 1)) (ea_nil)) (gCons_len gNil_len)) (nomark _))))
/-! leads_on -/
abbrev s_leads_on : Stmt := top 10
theorem sc_leads_on : FnScope ["thing", "step"] ["thing", "step"] (defScope s_leads_on) := ⟨rfl, rfl, rfl, by decide +kernel, rfl, by decide +kernel, by decide +kernel⟩
def g_leads_on  : GS := gSeq (gIfS [1] (gTest (gIsi "str" (gVar 1))) (gRet [0, 1] (gAndV (gIsi "dict" (gVar 0)) (g2 (gVar 1) (gVar 0) (fun x y => ofO ((fB inD) x.2 y.2))))) (gPass)) (gRet [0, 1] (gAndV (gIsi "list" (gVar 0)) (g2 (gVar 1) (gCall (gCons (gVar 0) (gNil)) (fun ds => ofO (lenD ds))) (fun x y => ofO ((fB ltD) x.2 y.2)))))
theorem ok_leads_on (T : Txt K mg cO) {f : Addr} {fd : FuncData} (d : Dfn K mg "leads_on" s_leads_on ["thing", "step"] f fd) : Cal P w K mg base (k + 1) "leads_on" ["thing", "step"] (runG 2 g_leads_on) := by
  refine Cal.of d sc_leads_on fun cdv A outer s H E hr => ?_
  have nd := sc_leads_on.nd
  have hu : (cxOf (L2.CX P w) P w K mg base ["thing", "step"] "leads_on" (defScope s_leads_on) f cdv A outer s H E).A.units + 64 < cLine := hr.units
  have hc : (cxOf (L2.CX P w) P w K mg base ["thing", "step"] "leads_on" (defScope s_leads_on) f cdv A outer s H E).calm = true := rfl
  have tk : Takes (cxOf (L2.CX P w) P w K mg base ["thing", "step"] "leads_on" (defScope s_leads_on) f cdv A outer s H E) (WofE E) := takes_of rfl rfl rfl rfl
  exact sb_cons (ss_if (et_val (ev_isi rfl T.b_isinstance rfl T.b_str (by decide +kernel) (by decide +kernel) (ev_var (pv 1)))) (sb_one (ss_ret (ps_ret (ev_and (ev_isi rfl T.b_isinstance rfl T.b_dict (by decide +kernel) (by decide +kernel) (ev_var (pv 0))) (ev_one (ev_cmp (op_inV hu) (ev_var (pv 1)) (ev_var (pv 0)) rfl)))))) (sb_nil)) (sb_one (ss_ret (ps_ret (ev_and (ev_isi rfl T.b_isinstance rfl T.b_list (by decide +kernel) (by decide +kernel) (ev_var (pv 0))) (ev_one (ev_cmp op_ltV (ev_var (pv 1)) (ev_callB call_lenV rfl T.b_len (by decide +kernel) (ea_cons (ev_var (pv 0)) (ea_nil))) (nomark _)))))))
/-! reached -/
abbrev s_reached : Stmt := top 11
theorem sc_reached : FnScope ["thing", "path", "here", "k"] ["thing", "path"] (defScope s_reached) := ⟨rfl, rfl, rfl, by decide +kernel, rfl, by decide +kernel, by decide +kernel⟩
def g_reached (m_leads_on : List D → Res FD) : GS := gSeq (gSet 2 [0] (gVar 0)) (gSeq (gFor [1] [3] (gItR1 (gCall (gCons (gVar 1) (gNil)) (fun ds => ofO (lenD ds)))) t1 (gSeq (gIfS [1, 2, 3] (gNotT (gTest (gCall (gCons (gVar 2) (gCons (g2 (gVar 1) (gVar 3) (fun x y => ofO (ixD x.2 y.2))) (gNil))) m_leads_on))) (gNever) (gPass)) (gSet 2 [1, 2, 3] (g2 (gVar 2) (g2 (gVar 1) (gVar 3) (fun x y => ofO (ixD x.2 y.2))) (fun x y => ofO (ixD x.2 y.2)))))) (gRetV 2))
theorem ok_reached (T : Txt K mg cO) {f : Addr} {fd : FuncData} (d : Dfn K mg "reached" s_reached ["thing", "path"] f fd) {m_leads_on : List D → Res FD} (h_leads_on : Cal P w K mg base k "leads_on" ["thing", "step"] m_leads_on) : Cal P w K mg base (k + 1) "reached" ["thing", "path"] (runG 4 (g_reached m_leads_on)) := by
  refine Cal.of d sc_reached fun cdv A outer s H E hr => ?_
  have nd := sc_reached.nd
  have hu : (cxOf (L2.CX P w) P w K mg base ["thing", "path", "here", "k"] "reached" (defScope s_reached) f cdv A outer s H E).A.units + 64 < cLine := hr.units
  have hc : (cxOf (L2.CX P w) P w K mg base ["thing", "path", "here", "k"] "reached" (defScope s_reached) f cdv A outer s H E).calm = true := rfl
  have tk : Takes (cxOf (L2.CX P w) P w K mg base ["thing", "path", "here", "k"] "reached" (defScope s_reached) f cdv A outer s H E) (WofE E) := takes_of rfl rfl rfl rfl
  have hp := passes_of (X := cxOf (L2.CX P w) P w K mg base ["thing", "path", "here", "k"] "reached" (defScope s_reached) f cdv A outer s H E) rfl
  exact sb_cons (ss_asg (ps_set (i := 2) nd rfl (Or.inl rfl) (ev_var (pv 0)))) (sb_cons (ss_for hp hc (ei_range1 rfl T.b_range (ev_callB call_lenV rfl T.b_len (by decide +kernel) (ea_cons (ev_var (pv 1)) (ea_nil)))) (pg_name (i := 3) nd rfl (Or.inl rfl)) tgt1 (sb_cons (ss_if (et_not (et_val (ev_fn h_leads_on hr rfl tk rfl (ea_cons (ev_var (pv 2)) (ea_cons (ev_ix hu (ev_var (pv 1)) (ev_var (pv 3)) (fun _ _ => rfl)) (ea_nil))) (gCons_len (gCons_len gNil_len))))) (sb_one (ss_never)) (sb_nil)) (sb_one (ss_asg (ps_set (i := 2) nd rfl (Or.inl rfl) (ev_ix hu (ev_var (pv 2)) (ev_ix hu (ev_var (pv 1)) (ev_var (pv 3)) (fun _ _ => rfl)) (fun _ _ => rfl))))))) (sb_one (ss_retV (ps_ret (pv 2)))))
/-! thing_at -/
abbrev s_thing_at : Stmt := top 12
theorem sc_thing_at : FnScope ["thing", "path"] ["thing", "path"] (defScope s_thing_at) := ⟨rfl, rfl, rfl, by decide +kernel, rfl, by decide +kernel, by decide +kernel⟩
def g_thing_at (m_copied : List D → Res FD) (m_reached : List D → Res FD) : GS := gRet [0, 1] (gCall (gCons (gCall (gCons (gVar 0) (gCons (gVar 1) (gNil))) m_reached) (gNil)) m_copied)
theorem ok_thing_at (T : Txt K mg cO) {f : Addr} {fd : FuncData} (d : Dfn K mg "thing_at" s_thing_at ["thing", "path"] f fd) {m_copied : List D → Res FD} (h_copied : Cal P w K mg base k "copied" ["thing"] m_copied) {m_reached : List D → Res FD} (h_reached : Cal P w K mg base k "reached" ["thing", "path"] m_reached) : Cal P w K mg base (k + 1) "thing_at" ["thing", "path"] (runG 2 (g_thing_at m_copied m_reached)) := by
  refine Cal.of d sc_thing_at fun cdv A outer s H E hr => ?_
  have nd := sc_thing_at.nd
  have hu : (cxOf (L2.CX P w) P w K mg base ["thing", "path"] "thing_at" (defScope s_thing_at) f cdv A outer s H E).A.units + 64 < cLine := hr.units
  have hc : (cxOf (L2.CX P w) P w K mg base ["thing", "path"] "thing_at" (defScope s_thing_at) f cdv A outer s H E).calm = true := rfl
  have tk : Takes (cxOf (L2.CX P w) P w K mg base ["thing", "path"] "thing_at" (defScope s_thing_at) f cdv A outer s H E) (WofE E) := takes_of rfl rfl rfl rfl
  exact sb_one (ss_ret (ps_ret (ev_fn h_copied hr rfl tk rfl (ea_cons (ev_fn h_reached hr rfl tk rfl (ea_cons (ev_var (pv 0)) (ea_cons (ev_var (pv 1)) (ea_nil))) (gCons_len (gCons_len gNil_len))) (ea_nil)) (gCons_len gNil_len))))
/-! has -/
abbrev s_has : Stmt := top 13
theorem sc_has : FnScope ["thing", "path", "here", "step"] ["thing", "path"] (defScope s_has) := ⟨rfl, rfl, rfl, by decide +kernel, rfl, by decide +kernel, by decide +kernel⟩
def g_has (m_leads_on : List D → Res FD) : GS := gSeq (gSet 2 [0] (gVar 0)) (gSeq (gFor [1] [3] (gItL (gVar 1)) t1 (gSeq (gIfS [2, 3] (gNotT (gTest (gCall (gCons (gVar 2) (gCons (gVar 3) (gNil))) m_leads_on))) (gRet [] (gCon (.bl false))) (gPass)) (gSet 2 [2, 3] (g2 (gVar 2) (gVar 3) (fun x y => ofO (ixD x.2 y.2)))))) (gRet [] (gCon (.bl true))))
theorem ok_has (T : Txt K mg cO) {f : Addr} {fd : FuncData} (d : Dfn K mg "has" s_has ["thing", "path"] f fd) {m_leads_on : List D → Res FD} (h_leads_on : Cal P w K mg base k "leads_on" ["thing", "step"] m_leads_on) : Cal P w K mg base (k + 1) "has" ["thing", "path"] (runG 4 (g_has m_leads_on)) := by
  refine Cal.of d sc_has fun cdv A outer s H E hr => ?_
  have nd := sc_has.nd
  have hu : (cxOf (L2.CX P w) P w K mg base ["thing", "path", "here", "step"] "has" (defScope s_has) f cdv A outer s H E).A.units + 64 < cLine := hr.units
  have hc : (cxOf (L2.CX P w) P w K mg base ["thing", "path", "here", "step"] "has" (defScope s_has) f cdv A outer s H E).calm = true := rfl
  have tk : Takes (cxOf (L2.CX P w) P w K mg base ["thing", "path", "here", "step"] "has" (defScope s_has) f cdv A outer s H E) (WofE E) := takes_of rfl rfl rfl rfl
  have hp := passes_of (X := cxOf (L2.CX P w) P w K mg base ["thing", "path", "here", "step"] "has" (defScope s_has) f cdv A outer s H E) rfl
  exact sb_cons (ss_asg (ps_set (i := 2) nd rfl (Or.inl rfl) (ev_var (pv 0)))) (sb_cons (ss_for hp hc (ei_list (ev_var (pv 1))) (pg_name (i := 3) nd rfl (Or.inl rfl)) tgt1 (sb_cons (ss_if (et_not (et_val (ev_fn h_leads_on hr rfl tk rfl (ea_cons (ev_var (pv 2)) (ea_cons (ev_var (pv 3)) (ea_nil))) (gCons_len (gCons_len gNil_len))))) (sb_one (ss_ret (ps_ret (ev_con pe_bl)))) (sb_nil)) (sb_one (ss_asg (ps_set (i := 2) nd rfl (Or.inl rfl) (ev_ix hu (ev_var (pv 2)) (ev_var (pv 3)) (fun _ _ => rfl))))))) (sb_one (ss_ret (ps_ret (ev_con pe_bl)))))
/-! law_cell -/
abbrev s_law_cell : Stmt := top 17
theorem sc_law_cell : FnScope ["_law_script", "_law_k", "_law_more"] ["_law_script", "_law_k"] (defScope s_law_cell) := ⟨rfl, rfl, rfl, by decide +kernel, rfl, by decide +kernel, by decide +kernel⟩
def g_law_cell  : GS := gSeq (gSet 2 [1] (g2 (gVar 1) (gCon (.int 7919)) (fun x y => ofO (mulD x.2 y.2)))) (gSeq (gIfS [0] (gTest (g2 (gVar 0) (gLst (lNil)) (fun x y => ofO ((fB fun a b => (eqN 32 a b).map (!·)) x.2 y.2)))) (gSeq (gSet 2 [0, 1, 2] (g2 (gVar 2) (g2 (g2 (gVar 1) (gCall (gCons (gVar 0) (gNil)) (fun ds => ofO (lenD ds))) (fun x y => ofO (divD x.2 y.2))) (gCon (.int 104729)) (fun x y => ofO (mulD x.2 y.2))) (fun x y => ofO (addD x.2 y.2)))) (gSet 2 [0, 1, 2] (g2 (g2 (gVar 2) (g2 (g2 (gVar 0) (g2 (gVar 1) (gCall (gCons (gVar 0) (gNil)) (fun ds => ofO (lenD ds))) (fun x y => ofO (modD x.2 y.2))) (fun x y => ofO (ixD x.2 y.2))) (gCon (.int 48271)) (fun x y => ofO (mulD x.2 y.2))) (fun x y => ofO (addD x.2 y.2))) (gCon (.int 1000003)) (fun x y => ofO (modD x.2 y.2))))) (gPass)) (gRet [2] (g2 (g2 (g2 (g2 (gVar 2) (gVar 2) (fun x y => ofO (mulD x.2 y.2))) (gCon (.int 11)) (fun x y => ofO (divD x.2 y.2))) (g2 (gCon (.int 13)) (gVar 2) (fun x y => ofO (mulD x.2 y.2))) (fun x y => ofO (addD x.2 y.2))) (gCon (.int 1000003)) (fun x y => ofO (modD x.2 y.2)))))
theorem ok_law_cell (T : Txt K mg cO) {f : Addr} {fd : FuncData} (d : Dfn K mg "_law_cell" s_law_cell ["_law_script", "_law_k"] f fd) : Cal P w K mg base (k + 1) "_law_cell" ["_law_script", "_law_k"] (runG 3 g_law_cell) := by
  refine Cal.of d sc_law_cell fun cdv A outer s H E hr => ?_
  have nd := sc_law_cell.nd
  have hu : (cxOf (L2.CX P w) P w K mg base ["_law_script", "_law_k", "_law_more"] "_law_cell" (defScope s_law_cell) f cdv A outer s H E).A.units + 64 < cLine := hr.units
  have hc : (cxOf (L2.CX P w) P w K mg base ["_law_script", "_law_k", "_law_more"] "_law_cell" (defScope s_law_cell) f cdv A outer s H E).calm = true := rfl
  have tk : Takes (cxOf (L2.CX P w) P w K mg base ["_law_script", "_law_k", "_law_more"] "_law_cell" (defScope s_law_cell) f cdv A outer s H E) (WofE E) := takes_of rfl rfl rfl rfl
  exact sb_cons (ss_asg (ps_set (i := 2) nd rfl (Or.inl rfl) (ev_op op_mulV (ev_var (pv 1)) (ev_con pe_int)))) (sb_cons (ss_if (et_cmp (op_neV hu) (ev_var (pv 0)) (ev_lst (el_nil)) (nomark _)) (sb_cons (ss_asg (ps_set (i := 2) nd rfl (Or.inl rfl) (ev_op op_addV (ev_var (pv 2)) (ev_op op_mulV (ev_op op_divV (ev_var (pv 1)) (ev_callB call_lenV rfl T.b_len (by decide +kernel) (ea_cons (ev_var (pv 0)) (ea_nil)))) (ev_con pe_int))))) (sb_one (ss_asg (ps_set (i := 2) nd rfl (Or.inl rfl) (ev_op op_modV (ev_op op_addV (ev_var (pv 2)) (ev_op op_mulV (ev_ix hu (ev_var (pv 0)) (ev_op op_modV (ev_var (pv 1)) (ev_callB call_lenV rfl T.b_len (by decide +kernel) (ea_cons (ev_var (pv 0)) (ea_nil)))) (fun _ _ => rfl)) (ev_con pe_int))) (ev_con pe_int)))))) (sb_nil)) (sb_one (ss_ret (ps_ret (ev_op op_modV (ev_op op_addV (ev_op op_divV (ev_op op_mulV (ev_var (pv 2)) (ev_var (pv 2))) (ev_con pe_int)) (ev_op op_mulV (ev_con pe_int) (ev_var (pv 2)))) (ev_con pe_int))))))
/-! law_name_by -/
abbrev s_law_name_by : Stmt := top 18
theorem sc_law_name_by : FnScope ["_law_more", "_law_letters", "_law_size", "_law_by", "_law_signs_here", "_law_at", "_law_word", "_law_j"] ["_law_more"] (defScope s_law_name_by) := ⟨rfl, rfl, rfl, by decide +kernel, rfl, by decide +kernel, by decide +kernel⟩
def g_law_name_by  : GS := gSeq (gSet 1 [] (gCon (.str "abcdefghijklmnopqrstuvwxyz0123456789"))) (gSeq (gSet 2 [0] (g2 (gLst (lCons (gCon (.int 1)) (lCons (g2 (gCon (.int 1)) (g2 (g2 (gVar 0) (gCon (.int 3)) (fun x y => ofO (divD x.2 y.2))) (gCon (.int 4)) (fun x y => ofO (modD x.2 y.2))) (fun x y => ofO (addD x.2 y.2))) (lCons (g2 (gCon (.int 1)) (g2 (g2 (gVar 0) (gCon (.int 3)) (fun x y => ofO (divD x.2 y.2))) (gCon (.int 12)) (fun x y => ofO (modD x.2 y.2))) (fun x y => ofO (addD x.2 y.2))) (lNil))))) (g2 (gVar 0) (gCon (.int 3)) (fun x y => ofO (modD x.2 y.2))) (fun x y => ofO (ixD x.2 y.2)))) (gSeq (gIfS [0] (gTest (g2 (g2 (g2 (gVar 0) (gCon (.int 36)) (fun x y => ofO (divD x.2 y.2))) (gCon (.int 2)) (fun x y => ofO (modD x.2 y.2))) (gCon (.int 1)) (fun x y => ofO ((fB (eqN 32)) x.2 y.2)))) (gSeq (gSet 5 [0, 2] (g2 (g2 (gVar 0) (gCon (.int 72)) (fun x y => ofO (divD x.2 y.2))) (gVar 2) (fun x y => ofO (modD x.2 y.2)))) (gSeq (gSet 6 [0, 1, 2, 5] (g2 (g2 (g2 (gCon (.str "a")) (gVar 5) (fun x y => ofO (mulD x.2 y.2))) (g2 (gVar 1) (g2 (g2 (gVar 0) (gCon (.int 864)) (fun x y => ofO (divD x.2 y.2))) (gCon (.int 26)) (fun x y => ofO (modD x.2 y.2))) (fun x y => ofO (ixD x.2 y.2))) (fun x y => ofO (addD x.2 y.2))) (g2 (gCon (.str "a")) (g2 (g2 (gVar 2) (gVar 5) (fun x y => ofO (subD x.2 y.2))) (gCon (.int 1)) (fun x y => ofO (subD x.2 y.2))) (fun x y => ofO (mulD x.2 y.2))) (fun x y => ofO (addD x.2 y.2)))) (gRetV 6))) (gPass)) (gSeq (gSet 3 [0] (g2 (gCon (.int 1)) (g2 (g2 (gVar 0) (gCon (.int 11)) (fun x y => ofO (divD x.2 y.2))) (gCon (.int 35)) (fun x y => ofO (modD x.2 y.2))) (fun x y => ofO (addD x.2 y.2)))) (gSeq (gSet 4 [0, 1, 2, 3] (gComp [7] [7] (gItR1 (g2 (gVar 2) (gCon (.int 1)) (fun x y => ofO (subD x.2 y.2)))) t1 (cYes) (g2 (gVar 1) (g2 (g2 (g2 (gVar 0) (gCon (.int 7)) (fun x y => ofO (divD x.2 y.2))) (g2 (gVar 7) (gVar 3) (fun x y => ofO (mulD x.2 y.2))) (fun x y => ofO (addD x.2 y.2))) (gCon (.int 36)) (fun x y => ofO (modD x.2 y.2))) (fun x y => ofO (ixD x.2 y.2))))) (gRet [0, 1, 4] (g2 (g2 (gVar 1) (g2 (g2 (gVar 0) (gCon (.int 72)) (fun x y => ofO (divD x.2 y.2))) (gCon (.int 26)) (fun x y => ofO (modD x.2 y.2))) (fun x y => ofO (ixD x.2 y.2))) (gJoin (gCon (.str "")) (gVar 4)) (fun x y => ofO (addD x.2 y.2))))))))
theorem ok_law_name_by (T : Txt K mg cO) {f : Addr} {fd : FuncData} (d : Dfn K mg "_law_name_by" s_law_name_by ["_law_more"] f fd) : Cal P w K mg base (k + 1) "_law_name_by" ["_law_more"] (runG 8 g_law_name_by) := by
  refine Cal.of d sc_law_name_by fun cdv A outer s H E hr => ?_
  have nd := sc_law_name_by.nd
  have hu : (cxOf (L2.CX P w) P w K mg base ["_law_more", "_law_letters", "_law_size", "_law_by", "_law_signs_here", "_law_at", "_law_word", "_law_j"] "_law_name_by" (defScope s_law_name_by) f cdv A outer s H E).A.units + 64 < cLine := hr.units
  have hc : (cxOf (L2.CX P w) P w K mg base ["_law_more", "_law_letters", "_law_size", "_law_by", "_law_signs_here", "_law_at", "_law_word", "_law_j"] "_law_name_by" (defScope s_law_name_by) f cdv A outer s H E).calm = true := rfl
  have tk : Takes (cxOf (L2.CX P w) P w K mg base ["_law_more", "_law_letters", "_law_size", "_law_by", "_law_signs_here", "_law_at", "_law_word", "_law_j"] "_law_name_by" (defScope s_law_name_by) f cdv A outer s H E) (WofE E) := takes_of rfl rfl rfl rfl
  exact sb_cons (ss_asg (ps_set (i := 1) nd rfl (Or.inr rfl) (ev_con pe_str))) (sb_cons (ss_asg (ps_set (i := 2) nd rfl (Or.inl rfl) (ev_ix hu (ev_lst (el_cons (ev_con pe_int) (el_cons (ev_op op_addV (ev_con pe_int) (ev_op op_modV (ev_op op_divV (ev_var (pv 0)) (ev_con pe_int)) (ev_con pe_int))) (el_cons (ev_op op_addV (ev_con pe_int) (ev_op op_modV (ev_op op_divV (ev_var (pv 0)) (ev_con pe_int)) (ev_con pe_int))) (el_nil))))) (ev_op op_modV (ev_var (pv 0)) (ev_con pe_int)) (fun _ _ => rfl)))) (sb_cons (ss_if (et_cmp (op_eqV hu) (ev_op op_modV (ev_op op_divV (ev_var (pv 0)) (ev_con pe_int)) (ev_con pe_int)) (ev_con pe_int) (nomark _)) (sb_cons (ss_asg (ps_set (i := 5) nd rfl (Or.inl rfl) (ev_op op_modV (ev_op op_divV (ev_var (pv 0)) (ev_con pe_int)) (ev_var (pv 2))))) (sb_cons (ss_asg (ps_set (i := 6) nd rfl (Or.inl rfl) (ev_op op_addV (ev_op op_addV (ev_op op_mulV (ev_con pe_str) (ev_var (pv 5))) (ev_ix hu (ev_var (pv 1)) (ev_op op_modV (ev_op op_divV (ev_var (pv 0)) (ev_con pe_int)) (ev_con pe_int)) (fun _ _ => rfl))) (ev_op op_mulV (ev_con pe_str) (ev_op op_subV (ev_op op_subV (ev_var (pv 2)) (ev_var (pv 5))) (ev_con pe_int)))))) (sb_one (ss_retV (ps_ret (pv 6)))))) (sb_nil)) (sb_cons (ss_asg (ps_set (i := 3) nd rfl (Or.inr rfl) (ev_op op_addV (ev_con pe_int) (ev_op op_modV (ev_op op_divV (ev_var (pv 0)) (ev_con pe_int)) (ev_con pe_int))))) (sb_cons (ss_setLc (i := 4) (own := [("_law_j", 7)]) hc nd rfl rfl (sw_true rfl rfl rfl (by decide +kernel)) (ei_range1 rfl T.b_range (ev_op op_subV (ev_var (pv 2)) (ev_con pe_int))) (blkOk_by (by kernel_rfl)) tgt1 (by decide) (fun _ _ _ _ _ => pg_name (i := 7) nd rfl (Or.inl rfl)) tt_yes (fun _ _ _ _ _ => pts_nil) (fun _ _ _ _ _ => ev_ix hu (ev_var (pv 1)) (ev_op op_modV (ev_op op_addV (ev_op op_divV (ev_var (pv 0)) (ev_con pe_int)) (ev_op op_mulV (ev_var (pv 7)) (ev_var (pv 3)))) (ev_con pe_int)) (fun _ _ => rfl))) (sb_one (ss_ret (ps_ret (ev_op op_addV (ev_ix hu (ev_var (pv 1)) (ev_op op_modV (ev_op op_divV (ev_var (pv 0)) (ev_con pe_int)) (ev_con pe_int)) (fun _ _ => rfl)) (ev_join (ev_con pe_str) (ev_var (pv 4)))))))))))
/-! law_signs -/
abbrev s_law_signs : Stmt := top 19
theorem sc_law_signs : FnScope ["_law_some"] [] (defScope s_law_signs) := ⟨rfl, rfl, rfl, by decide +kernel, rfl, by decide +kernel, by decide +kernel⟩
def g_law_signs  : GS := gSeq (gSet 0 [] (gCon (.str " !\"#$&'()*+,-./0123456789:;<=>?@ABCDEFGHIJKLMNOPQRSTUVWXYZ[\\]^_`"))) (gRet [0] (g2 (gVar 0) (gCon (.str "abcdefghijklmnopqrstuvwxyz{|}~")) (fun x y => ofO (addD x.2 y.2))))
theorem ok_law_signs (T : Txt K mg cO) {f : Addr} {fd : FuncData} (d : Dfn K mg "_law_signs" s_law_signs [] f fd) : Cal P w K mg base (k + 1) "_law_signs" [] (runG 1 g_law_signs) := by
  refine Cal.of d sc_law_signs fun cdv A outer s H E hr => ?_
  have nd := sc_law_signs.nd
  have hu : (cxOf (L2.CX P w) P w K mg base ["_law_some"] "_law_signs" (defScope s_law_signs) f cdv A outer s H E).A.units + 64 < cLine := hr.units
  have hc : (cxOf (L2.CX P w) P w K mg base ["_law_some"] "_law_signs" (defScope s_law_signs) f cdv A outer s H E).calm = true := rfl
  have tk : Takes (cxOf (L2.CX P w) P w K mg base ["_law_some"] "_law_signs" (defScope s_law_signs) f cdv A outer s H E) (WofE E) := takes_of rfl rfl rfl rfl
  exact sb_cons (ss_asg (ps_set (i := 0) nd rfl (Or.inl rfl) (ev_con pe_str))) (sb_one (ss_ret (ps_ret (ev_op op_addV (ev_var (pv 0)) (ev_con pe_str)))))
/-! law_text_by -/
abbrev s_law_text_by : Stmt := top 20
theorem sc_law_text_by : FnScope ["_law_more", "_law_signs_here", "_law_size", "_law_by", "_law_half", "_law_sign", "_law_j"] ["_law_more"] (defScope s_law_text_by) := ⟨rfl, rfl, rfl, by decide +kernel, rfl, by decide +kernel, by decide +kernel⟩
def g_law_text_by (m_law_signs : List D → Res FD) : GS := gSeq (gSet 1 [] (gCall gNil m_law_signs)) (gSeq (gSet 2 [0] (g2 (gLst (lCons (g2 (g2 (gVar 0) (gCon (.int 5)) (fun x y => ofO (divD x.2 y.2))) (gCon (.int 4)) (fun x y => ofO (modD x.2 y.2))) (lCons (g2 (g2 (gVar 0) (gCon (.int 5)) (fun x y => ofO (divD x.2 y.2))) (gCon (.int 9)) (fun x y => ofO (modD x.2 y.2))) (lCons (g2 (g2 (gVar 0) (gCon (.int 5)) (fun x y => ofO (divD x.2 y.2))) (gCon (.int 31)) (fun x y => ofO (modD x.2 y.2))) (lNil))))) (g2 (gVar 0) (gCon (.int 3)) (fun x y => ofO (modD x.2 y.2))) (fun x y => ofO (ixD x.2 y.2)))) (gSeq (gIfS [0] (gTest (g2 (g2 (g2 (gVar 0) (gCon (.int 155)) (fun x y => ofO (divD x.2 y.2))) (gCon (.int 3)) (fun x y => ofO (modD x.2 y.2))) (gCon (.int 1)) (fun x y => ofO ((fB (eqN 32)) x.2 y.2)))) (gSeq (gSet 4 [2] (g2 (gVar 2) (gCon (.int 2)) (fun x y => ofO (divD x.2 y.2)))) (gSeq (gSet 5 [0, 1] (g2 (gVar 1) (g2 (g2 (gVar 0) (gCon (.int 465)) (fun x y => ofO (divD x.2 y.2))) (gCon (.int 94)) (fun x y => ofO (modD x.2 y.2))) (fun x y => ofO (ixD x.2 y.2)))) (gRet [2, 4, 5] (g2 (g2 (gCon (.str "'")) (gVar 4) (fun x y => ofO (mulD x.2 y.2))) (g2 (gVar 5) (g2 (gVar 2) (gVar 4) (fun x y => ofO (subD x.2 y.2))) (fun x y => ofO (mulD x.2 y.2))) (fun x y => ofO (addD x.2 y.2)))))) (gPass)) (gSeq (gSet 3 [0] (g2 (gCon (.int 1)) (g2 (g2 (gVar 0) (gCon (.int 13)) (fun x y => ofO (divD x.2 y.2))) (gCon (.int 93)) (fun x y => ofO (modD x.2 y.2))) (fun x y => ofO (addD x.2 y.2)))) (gRet [0, 1, 2, 3] (gJoin (gCon (.str "")) (gComp [6] [6] (gItR1 (gVar 2)) t1 (cYes) (g2 (gVar 1) (g2 (g2 (g2 (gVar 0) (gCon (.int 7)) (fun x y => ofO (divD x.2 y.2))) (g2 (gVar 6) (gVar 3) (fun x y => ofO (mulD x.2 y.2))) (fun x y => ofO (addD x.2 y.2))) (gCon (.int 94)) (fun x y => ofO (modD x.2 y.2))) (fun x y => ofO (ixD x.2 y.2)))))))))
theorem ok_law_text_by (T : Txt K mg cO) {f : Addr} {fd : FuncData} (d : Dfn K mg "_law_text_by" s_law_text_by ["_law_more"] f fd) {m_law_signs : List D → Res FD} (h_law_signs : Cal P w K mg base k "_law_signs" [] m_law_signs) (x_law_signs : ∀ c fs, m_law_signs [] ≠ .xc c fs) : Cal P w K mg base (k + 1) "_law_text_by" ["_law_more"] (runG 7 (g_law_text_by m_law_signs)) := by
  refine Cal.of d sc_law_text_by fun cdv A outer s H E hr => ?_
  have nd := sc_law_text_by.nd
  have hu : (cxOf (L2.CX P w) P w K mg base ["_law_more", "_law_signs_here", "_law_size", "_law_by", "_law_half", "_law_sign", "_law_j"] "_law_text_by" (defScope s_law_text_by) f cdv A outer s H E).A.units + 64 < cLine := hr.units
  have hc : (cxOf (L2.CX P w) P w K mg base ["_law_more", "_law_signs_here", "_law_size", "_law_by", "_law_half", "_law_sign", "_law_j"] "_law_text_by" (defScope s_law_text_by) f cdv A outer s H E).calm = true := rfl
  have tk : Takes (cxOf (L2.CX P w) P w K mg base ["_law_more", "_law_signs_here", "_law_size", "_law_by", "_law_half", "_law_sign", "_law_j"] "_law_text_by" (defScope s_law_text_by) f cdv A outer s H E) (WofE E) := takes_of rfl rfl rfl rfl
  exact sb_cons (ss_asg (ps_set (i := 1) nd rfl (Or.inr rfl) (ev_fn0 h_law_signs hr rfl x_law_signs (E := E0) passL))) (sb_cons (ss_asg (ps_set (i := 2) nd rfl (Or.inl rfl) (ev_ix hu (ev_lst (el_cons (ev_op op_modV (ev_op op_divV (ev_var (pv 0)) (ev_con pe_int)) (ev_con pe_int)) (el_cons (ev_op op_modV (ev_op op_divV (ev_var (pv 0)) (ev_con pe_int)) (ev_con pe_int)) (el_cons (ev_op op_modV (ev_op op_divV (ev_var (pv 0)) (ev_con pe_int)) (ev_con pe_int)) (el_nil))))) (ev_op op_modV (ev_var (pv 0)) (ev_con pe_int)) (fun _ _ => rfl)))) (sb_cons (ss_if (et_cmp (op_eqV hu) (ev_op op_modV (ev_op op_divV (ev_var (pv 0)) (ev_con pe_int)) (ev_con pe_int)) (ev_con pe_int) (nomark _)) (sb_cons (ss_asg (ps_set (i := 4) nd rfl (Or.inl rfl) (ev_op op_divV (ev_var (pv 2)) (ev_con pe_int)))) (sb_cons (ss_asg (ps_set (i := 5) nd rfl (Or.inl rfl) (ev_ix hu (ev_var (pv 1)) (ev_op op_modV (ev_op op_divV (ev_var (pv 0)) (ev_con pe_int)) (ev_con pe_int)) (fun _ _ => rfl)))) (sb_one (ss_ret (ps_ret (ev_op op_addV (ev_op op_mulV (ev_con pe_str) (ev_var (pv 4))) (ev_op op_mulV (ev_var (pv 5)) (ev_op op_subV (ev_var (pv 2)) (ev_var (pv 4)))))))))) (sb_nil)) (sb_cons (ss_asg (ps_set (i := 3) nd rfl (Or.inr rfl) (ev_op op_addV (ev_con pe_int) (ev_op op_modV (ev_op op_divV (ev_var (pv 0)) (ev_con pe_int)) (ev_con pe_int))))) (sb_one (ss_ret (ps_ret (ev_join (ev_con pe_str) (ev_comp (own := [("_law_j", 6)]) hc nd (ei_range1 rfl T.b_range (ev_var (pv 2))) (blkOk_by (by kernel_rfl)) tgt1 (by decide) (fun _ _ _ _ _ => pg_name (i := 6) nd rfl (Or.inl rfl)) tt_yes (fun _ _ _ _ _ => pts_nil) (fun _ _ _ _ _ => ev_ix hu (ev_var (pv 1)) (ev_op op_modV (ev_op op_addV (ev_op op_divV (ev_var (pv 0)) (ev_con pe_int)) (ev_op op_mulV (ev_var (pv 6)) (ev_var (pv 3)))) (ev_con pe_int)) (fun _ _ => rfl))))))))))
/-! law_number_by -/
abbrev s_law_number_by : Stmt := top 21
theorem sc_law_number_by : FnScope ["_law_more"] ["_law_more"] (defScope s_law_number_by) := ⟨rfl, rfl, rfl, by decide +kernel, rfl, by decide +kernel, by decide +kernel⟩
def g_law_number_by  : GS := gSeq (gIfS [0] (gTest (g2 (g2 (gVar 0) (gCon (.int 3)) (fun x y => ofO (modD x.2 y.2))) (gCon (.int 0)) (fun x y => ofO ((fB (eqN 32)) x.2 y.2)))) (gRet [0] (g2 (g2 (g2 (gVar 0) (gCon (.int 3)) (fun x y => ofO (divD x.2 y.2))) (gCon (.int 41)) (fun x y => ofO (modD x.2 y.2))) (gCon (.int 20)) (fun x y => ofO (subD x.2 y.2)))) (gPass)) (gSeq (gIfS [0] (gTest (g2 (g2 (gVar 0) (gCon (.int 3)) (fun x y => ofO (modD x.2 y.2))) (gCon (.int 1)) (fun x y => ofO ((fB (eqN 32)) x.2 y.2)))) (gRet [0] (g2 (g2 (g2 (gVar 0) (gCon (.int 4)) (fun x y => ofO (powD x.2 y.2))) (g2 (g2 (gCon (.int 2)) (g2 (gCon (.int 10)) (gCon (.int 12)) (fun x y => ofO (powD x.2 y.2))) (fun x y => ofO (mulD x.2 y.2))) (gCon (.int 1)) (fun x y => ofO (addD x.2 y.2))) (fun x y => ofO (modD x.2 y.2))) (g2 (gCon (.int 10)) (gCon (.int 12)) (fun x y => ofO (powD x.2 y.2))) (fun x y => ofO (subD x.2 y.2)))) (gPass)) (gRet [0] (g2 (gLst (lCons (g2 (gCon (.int 10)) (gCon (.int 12)) (fun x y => ofO (powD x.2 y.2))) (lCons (fun ρ => ((g2 (gCon (.int 10)) (gCon (.int 12)) (fun x y => ofO (powD x.2 y.2))) ρ).bind fun x => ofO (negD x.2)) (lCons (g2 (g2 (gCon (.int 10)) (gCon (.int 12)) (fun x y => ofO (powD x.2 y.2))) (gCon (.int 1)) (fun x y => ofO (subD x.2 y.2))) (lCons (gCon (.int 0)) (lCons (gCon (.int 1)) (lCons (fun ρ => ((gCon (.int 1)) ρ).bind fun x => ofO (negD x.2)) (lCons (g2 (gCon (.int 10)) (gCon (.int 11)) (fun x y => ofO (powD x.2 y.2))) (lCons (gCon (.int 999)) (lNil)))))))))) (g2 (g2 (gVar 0) (gCon (.int 3)) (fun x y => ofO (divD x.2 y.2))) (gCon (.int 8)) (fun x y => ofO (modD x.2 y.2))) (fun x y => ofO (ixD x.2 y.2)))))
theorem ok_law_number_by (T : Txt K mg cO) {f : Addr} {fd : FuncData} (d : Dfn K mg "_law_number_by" s_law_number_by ["_law_more"] f fd) : Cal P w K mg base (k + 1) "_law_number_by" ["_law_more"] (runG 1 g_law_number_by) := by
  refine Cal.of d sc_law_number_by fun cdv A outer s H E hr => ?_
  have nd := sc_law_number_by.nd
  have hu : (cxOf (L2.CX P w) P w K mg base ["_law_more"] "_law_number_by" (defScope s_law_number_by) f cdv A outer s H E).A.units + 64 < cLine := hr.units
  have hc : (cxOf (L2.CX P w) P w K mg base ["_law_more"] "_law_number_by" (defScope s_law_number_by) f cdv A outer s H E).calm = true := rfl
  have tk : Takes (cxOf (L2.CX P w) P w K mg base ["_law_more"] "_law_number_by" (defScope s_law_number_by) f cdv A outer s H E) (WofE E) := takes_of rfl rfl rfl rfl
  exact sb_cons (ss_if (et_cmp (op_eqV hu) (ev_op op_modV (ev_var (pv 0)) (ev_con pe_int)) (ev_con pe_int) (nomark _)) (sb_one (ss_ret (ps_ret (ev_op op_subV (ev_op op_modV (ev_op op_divV (ev_var (pv 0)) (ev_con pe_int)) (ev_con pe_int)) (ev_con pe_int))))) (sb_nil)) (sb_cons (ss_if (et_cmp (op_eqV hu) (ev_op op_modV (ev_var (pv 0)) (ev_con pe_int)) (ev_con pe_int) (nomark _)) (sb_one (ss_ret (ps_ret (ev_op op_subV (ev_op op_modV (ev_op op_powV (ev_var (pv 0)) (ev_con pe_int)) (ev_op op_addV (ev_op op_mulV (ev_con pe_int) (ev_op op_powV (ev_con pe_int) (ev_con pe_int))) (ev_con pe_int))) (ev_op op_powV (ev_con pe_int) (ev_con pe_int)))))) (sb_nil)) (sb_one (ss_ret (ps_ret (ev_ix hu (ev_lst (el_cons (ev_op op_powV (ev_con pe_int) (ev_con pe_int)) (el_cons (ev_neg (ev_op op_powV (ev_con pe_int) (ev_con pe_int))) (el_cons (ev_op op_subV (ev_op op_powV (ev_con pe_int) (ev_con pe_int)) (ev_con pe_int)) (el_cons (ev_con pe_int) (el_cons (ev_con pe_int) (el_cons (ev_neg (ev_con pe_int)) (el_cons (ev_op op_powV (ev_con pe_int) (ev_con pe_int)) (el_cons (ev_con pe_int) (el_nil)))))))))) (ev_op op_modV (ev_op op_divV (ev_var (pv 0)) (ev_con pe_int)) (ev_con pe_int)) (fun _ _ => rfl))))))
/-! law_thing_by -/
abbrev s_law_thing_by : Stmt := top 22
theorem sc_law_thing_by : FnScope ["_law_script", "_law_k", "_law_deep", "_law_more", "_law_kind_here", "_law_some", "_law_result", "_law_j"] ["_law_script", "_law_k", "_law_deep"] (defScope s_law_thing_by) := ⟨rfl, rfl, rfl, by decide +kernel, rfl, by decide +kernel, by decide +kernel⟩
def g_law_thing_by (m_law_cell : List D → Res FD) (m_law_number_by : List D → Res FD) (m_law_text_by : List D → Res FD) (m_law_thing_by : List D → Res FD) (m_law_name_by : List D → Res FD) : GS := gSeq (gSet 3 [0, 1] (gCall (gCons (gVar 0) (gCons (gVar 1) (gNil))) m_law_cell)) (gSeq (gSet 4 [2, 3] (g2 (gVar 3) (g2 (gLst (lCons (gCon (.int 5)) (lCons (gCon (.int 9)) (lNil)))) (gCall (gCons (g2 (gVar 2) (gCon (.int 0)) (fun x y => ofO ((fB gtD) x.2 y.2))) (gNil)) (fun ds => ofO (intD ds))) (fun x y => ofO (ixD x.2 y.2))) (fun x y => ofO (modD x.2 y.2)))) (gSeq (gIfS [4] (gTest (g2 (gVar 4) (gCon (.int 0)) (fun x y => ofO ((fB (eqN 32)) x.2 y.2)))) (gRet [3] (g2 (gLst (lCons (gCon .non) (lCons (gCon (.bl true)) (lCons (gCon (.bl false)) (lNil))))) (g2 (g2 (gVar 3) (gCon (.int 9)) (fun x y => ofO (divD x.2 y.2))) (gCon (.int 3)) (fun x y => ofO (modD x.2 y.2))) (fun x y => ofO (ixD x.2 y.2)))) (gPass)) (gSeq (gIfS [4] (gTest (g2 (gVar 4) (gCon (.int 3)) (fun x y => ofO ((fB ltD) x.2 y.2)))) (gRet [3] (gCall (gCons (g2 (gVar 3) (gCon (.int 9)) (fun x y => ofO (divD x.2 y.2))) (gNil)) m_law_number_by)) (gPass)) (gSeq (gIfS [4] (gTest (g2 (gVar 4) (gCon (.int 5)) (fun x y => ofO ((fB ltD) x.2 y.2)))) (gRet [3] (gCall (gCons (g2 (gVar 3) (gCon (.int 9)) (fun x y => ofO (divD x.2 y.2))) (gNil)) m_law_text_by)) (gPass)) (gSeq (gSet 5 [0, 1, 2, 3] (gComp [7] [7] (gItR1 (g2 (g2 (gVar 3) (gCon (.int 9)) (fun x y => ofO (divD x.2 y.2))) (gCon (.int 5)) (fun x y => ofO (modD x.2 y.2)))) t1 (cYes) (gCall (gCons (gVar 0) (gCons (g2 (g2 (g2 (gVar 1) (gCon (.int 5)) (fun x y => ofO (mulD x.2 y.2))) (gCon (.int 1)) (fun x y => ofO (addD x.2 y.2))) (gVar 7) (fun x y => ofO (addD x.2 y.2))) (gCons (g2 (gVar 2) (gCon (.int 1)) (fun x y => ofO (subD x.2 y.2))) (gNil)))) m_law_thing_by))) (gSeq (gIfS [4] (gTest (g2 (gVar 4) (gCon (.int 7)) (fun x y => ofO ((fB ltD) x.2 y.2)))) (gRetV 5) (gPass)) (gSeq (gSet 6 [] (gCon (.dct []))) (gSeq (gFor [5] [7] (gItR1 (gCall (gCons (gVar 5) (gNil)) (fun ds => ofO (lenD ds)))) t1 (gSetIt 6 [0, 1, 5, 7] (gCall (gCons (g2 (g2 (gCall (gCons (gVar 0) (gCons (g2 (g2 (g2 (gVar 1) (gCon (.int 5)) (fun x y => ofO (mulD x.2 y.2))) (gCon (.int 1)) (fun x y => ofO (addD x.2 y.2))) (gVar 7) (fun x y => ofO (addD x.2 y.2))) (gNil))) m_law_cell) (gCon (.int 9)) (fun x y => ofO (divD x.2 y.2))) (gVar 7) (fun x y => ofO (addD x.2 y.2))) (gNil)) m_law_name_by) (g2 (gVar 5) (gVar 7) (fun x y => ofO (ixD x.2 y.2))))) (gRetV 6)))))))))
theorem ok_law_thing_by (T : Txt K mg cO) {f : Addr} {fd : FuncData} (d : Dfn K mg "_law_thing_by" s_law_thing_by ["_law_script", "_law_k", "_law_deep"] f fd) {m_law_cell : List D → Res FD} (h_law_cell : Cal P w K mg base k "_law_cell" ["_law_script", "_law_k"] m_law_cell) {m_law_number_by : List D → Res FD} (h_law_number_by : Cal P w K mg base k "_law_number_by" ["_law_more"] m_law_number_by) {m_law_text_by : List D → Res FD} (h_law_text_by : Cal P w K mg base k "_law_text_by" ["_law_more"] m_law_text_by) {m_law_thing_by : List D → Res FD} (h_law_thing_by : Cal P w K mg base k "_law_thing_by" ["_law_script", "_law_k", "_law_deep"] m_law_thing_by) {m_law_name_by : List D → Res FD} (h_law_name_by : Cal P w K mg base k "_law_name_by" ["_law_more"] m_law_name_by) : Cal P w K mg base (k + 1) "_law_thing_by" ["_law_script", "_law_k", "_law_deep"] (runG 8 (g_law_thing_by m_law_cell m_law_number_by m_law_text_by m_law_thing_by m_law_name_by)) := by
  refine Cal.of d sc_law_thing_by fun cdv A outer s H E hr => ?_
  have nd := sc_law_thing_by.nd
  have hu : (cxOf (L2.CX P w) P w K mg base ["_law_script", "_law_k", "_law_deep", "_law_more", "_law_kind_here", "_law_some", "_law_result", "_law_j"] "_law_thing_by" (defScope s_law_thing_by) f cdv A outer s H E).A.units + 64 < cLine := hr.units
  have hu1 : (cxOf (L2.CX P w) P w K mg base ["_law_script", "_law_k", "_law_deep", "_law_more", "_law_kind_here", "_law_some", "_law_result", "_law_j"] "_law_thing_by" (defScope s_law_thing_by) f cdv A outer s H E).A.units + 1 < cLine := Nat.lt_of_le_of_lt (Nat.add_le_add_left (by decide) _) hu
  have hc : (cxOf (L2.CX P w) P w K mg base ["_law_script", "_law_k", "_law_deep", "_law_more", "_law_kind_here", "_law_some", "_law_result", "_law_j"] "_law_thing_by" (defScope s_law_thing_by) f cdv A outer s H E).calm = true := rfl
  have tk : Takes (cxOf (L2.CX P w) P w K mg base ["_law_script", "_law_k", "_law_deep", "_law_more", "_law_kind_here", "_law_some", "_law_result", "_law_j"] "_law_thing_by" (defScope s_law_thing_by) f cdv A outer s H E) (WofE E) := takes_of rfl rfl rfl rfl
  have hp := passes_of (X := cxOf (L2.CX P w) P w K mg base ["_law_script", "_law_k", "_law_deep", "_law_more", "_law_kind_here", "_law_some", "_law_result", "_law_j"] "_law_thing_by" (defScope s_law_thing_by) f cdv A outer s H E) rfl
  exact sb_cons (ss_asg (ps_set (i := 3) nd rfl (Or.inl rfl) (ev_fn h_law_cell hr rfl tk rfl (ea_cons (ev_var (pv 0)) (ea_cons (ev_var (pv 1)) (ea_nil))) (gCons_len (gCons_len gNil_len))))) (sb_cons (ss_asg (ps_set (i := 4) nd rfl (Or.inl rfl) (ev_op op_modV (ev_var (pv 3)) (ev_ix hu (ev_lst (el_cons (ev_con pe_int) (el_cons (ev_con pe_int) (el_nil)))) (ev_callTy call_intV rfl T.b_int (by decide +kernel) (ea_cons (ev_cmp op_gtV (ev_var (pv 2)) (ev_con pe_int) (nomark _)) (ea_nil))) (fun _ _ => rfl))))) (sb_cons (ss_if (et_cmp (op_eqV hu) (ev_var (pv 4)) (ev_con pe_int) (nomark _)) (sb_one (ss_ret (ps_ret (ev_ix hu (ev_lst (el_cons (ev_con pe_non) (el_cons (ev_con pe_bl) (el_cons (ev_con pe_bl) (el_nil))))) (ev_op op_modV (ev_op op_divV (ev_var (pv 3)) (ev_con pe_int)) (ev_con pe_int)) (fun _ _ => rfl))))) (sb_nil)) (sb_cons (ss_if (et_cmp op_ltV (ev_var (pv 4)) (ev_con pe_int) (nomark _)) (sb_one (ss_ret (ps_ret (ev_fn h_law_number_by hr rfl tk rfl (ea_cons (ev_op op_divV (ev_var (pv 3)) (ev_con pe_int)) (ea_nil)) (gCons_len gNil_len))))) (sb_nil)) (sb_cons (ss_if (et_cmp op_ltV (ev_var (pv 4)) (ev_con pe_int) (nomark _)) (sb_one (ss_ret (ps_ret (ev_fn h_law_text_by hr rfl tk rfl (ea_cons (ev_op op_divV (ev_var (pv 3)) (ev_con pe_int)) (ea_nil)) (gCons_len gNil_len))))) (sb_nil)) (sb_cons (ss_setLc (i := 5) (own := [("_law_j", 7)]) hc nd rfl rfl (sw_true rfl rfl rfl (by decide +kernel)) (ei_range1 rfl T.b_range (ev_op op_modV (ev_op op_divV (ev_var (pv 3)) (ev_con pe_int)) (ev_con pe_int))) (blkOk_by (by kernel_rfl)) tgt1 (by decide) (fun _ _ _ _ _ => pg_name (i := 7) nd rfl (Or.inl rfl)) tt_yes (fun _ _ _ _ _ => pts_nil) (fun _ _ _ _ _ => ev_fn h_law_thing_by hr rfl takes0 rfl (ea_cons (ev_var (pv 0)) (ea_cons (ev_op op_addV (ev_op op_addV (ev_op op_mulV (ev_var (pv 1)) (ev_con pe_int)) (ev_con pe_int)) (ev_var (pv 7))) (ea_cons (ev_op op_subV (ev_var (pv 2)) (ev_con pe_int)) (ea_nil)))) (gCons_len (gCons_len (gCons_len gNil_len))))) (sb_cons (ss_if (et_cmp op_ltV (ev_var (pv 4)) (ev_con pe_int) (nomark _)) (sb_one (ss_retV (ps_ret (pv 5)))) (sb_nil)) (sb_cons (ss_asg (ps_set (i := 6) nd rfl (Or.inl rfl) (ev_d0))) (sb_cons (ss_for hp hc (ei_range1 rfl T.b_range (ev_callB call_lenV rfl T.b_len (by decide +kernel) (ea_cons (ev_var (pv 5)) (ea_nil)))) (pg_name (i := 7) nd rfl (Or.inl rfl)) tgt1 (sb_one (ss_setIt (ps_asg (ev_ix hu (ev_var (pv 5)) (ev_var (pv 7)) (fun _ _ => rfl)) (pg_sub (pv 6) (ev_fn h_law_name_by hr rfl tk rfl (ea_cons (ev_op op_addV (ev_op op_divV (ev_fn h_law_cell hr rfl tk rfl (ea_cons (ev_var (pv 0)) (ea_cons (ev_op op_addV (ev_op op_addV (ev_op op_mulV (ev_var (pv 1)) (ev_con pe_int)) (ev_con pe_int)) (ev_var (pv 7))) (ea_nil))) (gCons_len (gCons_len gNil_len))) (ev_con pe_int)) (ev_var (pv 7))) (ea_nil)) (gCons_len gNil_len)) (set_V hu1)))))) (sb_one (ss_retV (ps_ret (pv 6))))))))))))
/-! law_kind -/
abbrev s_law_kind : Stmt := top 23
theorem sc_law_kind : FnScope ["_law_thing"] ["_law_thing"] (defScope s_law_kind) := ⟨rfl, rfl, rfl, by decide +kernel, rfl, by decide +kernel, by decide +kernel⟩
def g_law_kind  : GS := gSeq (gIfS [0] (gTest (gIsN (gVar 0))) (gRet [] (gCon (.str "nothing"))) (gPass)) (gSeq (gIfS [0] (gTest (gIsi "bool" (gVar 0))) (gRet [] (gCon (.str "truth"))) (gPass)) (gSeq (gIfS [0] (gTest (gIsi "int" (gVar 0))) (gRet [] (gCon (.str "number"))) (gPass)) (gSeq (gIfS [0] (gTest (gIsi "str" (gVar 0))) (gRet [] (gCon (.str "text"))) (gPass)) (gSeq (gIfS [0] (gTest (gIsi "list" (gVar 0))) (gRet [] (gCon (.str "row"))) (gPass)) (gSeq (gIfS [0] (gTest (gIsi "dict" (gVar 0))) (gRet [] (gCon (.str "record"))) (gPass)) (gRet [] (gCon .non)))))))
theorem ok_law_kind (T : Txt K mg cO) {f : Addr} {fd : FuncData} (d : Dfn K mg "_law_kind" s_law_kind ["_law_thing"] f fd) : Cal P w K mg base (k + 1) "_law_kind" ["_law_thing"] (runG 1 g_law_kind) := by
  refine Cal.of d sc_law_kind fun cdv A outer s H E hr => ?_
  have nd := sc_law_kind.nd
  have hu : (cxOf (L2.CX P w) P w K mg base ["_law_thing"] "_law_kind" (defScope s_law_kind) f cdv A outer s H E).A.units + 64 < cLine := hr.units
  have hc : (cxOf (L2.CX P w) P w K mg base ["_law_thing"] "_law_kind" (defScope s_law_kind) f cdv A outer s H E).calm = true := rfl
  have tk : Takes (cxOf (L2.CX P w) P w K mg base ["_law_thing"] "_law_kind" (defScope s_law_kind) f cdv A outer s H E) (WofE E) := takes_of rfl rfl rfl rfl
  exact sb_cons (ss_if (et_pc (ec_isN (ev_var (pv 0))) rfl) (sb_one (ss_ret (ps_ret (ev_con pe_str)))) (sb_nil)) (sb_cons (ss_if (et_val (ev_isi rfl T.b_isinstance rfl T.b_bool (by decide +kernel) (by decide +kernel) (ev_var (pv 0)))) (sb_one (ss_ret (ps_ret (ev_con pe_str)))) (sb_nil)) (sb_cons (ss_if (et_val (ev_isi rfl T.b_isinstance rfl T.b_int (by decide +kernel) (by decide +kernel) (ev_var (pv 0)))) (sb_one (ss_ret (ps_ret (ev_con pe_str)))) (sb_nil)) (sb_cons (ss_if (et_val (ev_isi rfl T.b_isinstance rfl T.b_str (by decide +kernel) (by decide +kernel) (ev_var (pv 0)))) (sb_one (ss_ret (ps_ret (ev_con pe_str)))) (sb_nil)) (sb_cons (ss_if (et_val (ev_isi rfl T.b_isinstance rfl T.b_list (by decide +kernel) (by decide +kernel) (ev_var (pv 0)))) (sb_one (ss_ret (ps_ret (ev_con pe_str)))) (sb_nil)) (sb_cons (ss_if (et_val (ev_isi rfl T.b_isinstance rfl T.b_dict (by decide +kernel) (by decide +kernel) (ev_var (pv 0)))) (sb_one (ss_ret (ps_ret (ev_con pe_str)))) (sb_nil)) (sb_one (ss_ret (ps_ret (ev_con pe_non)))))))))
/-! law_rows_compare -/
abbrev s_law_rows_compare : Stmt := top 24
theorem sc_law_rows_compare : FnScope ["_law_one", "_law_other", "_law_k", "_law_result"] ["_law_one", "_law_other"] (defScope s_law_rows_compare) := ⟨rfl, rfl, rfl, by decide +kernel, rfl, by decide +kernel, by decide +kernel⟩
def g_law_rows_compare (m_law_compare : List D → Res FD) : GS := gSeq (gFor [0, 1] [2] (gItR1 (gCall (gCons (gCall (gCons (gVar 0) (gNil)) (fun ds => ofO (lenD ds))) (gCons (gCall (gCons (gVar 1) (gNil)) (fun ds => ofO (lenD ds))) (gNil))) (fun ds => ofO (minD ds)))) t1 (gSeq (gSet 3 [0, 1, 2] (gCall (gCons (g2 (gVar 0) (gVar 2) (fun x y => ofO (ixD x.2 y.2))) (gCons (g2 (gVar 1) (gVar 2) (fun x y => ofO (ixD x.2 y.2))) (gNil))) m_law_compare)) (gIfS [3] (gTest (g2 (gVar 3) (gCon (.int 0)) (fun x y => ofO ((fB fun a b => (eqN 32 a b).map (!·)) x.2 y.2)))) (gRetV 3) (gPass)))) (gRet [0, 1] (g2 (gCall (gCons (g2 (gCall (gCons (gVar 0) (gNil)) (fun ds => ofO (lenD ds))) (gCall (gCons (gVar 1) (gNil)) (fun ds => ofO (lenD ds))) (fun x y => ofO ((fB gtD) x.2 y.2))) (gNil)) (fun ds => ofO (intD ds))) (gCall (gCons (g2 (gCall (gCons (gVar 0) (gNil)) (fun ds => ofO (lenD ds))) (gCall (gCons (gVar 1) (gNil)) (fun ds => ofO (lenD ds))) (fun x y => ofO ((fB ltD) x.2 y.2))) (gNil)) (fun ds => ofO (intD ds))) (fun x y => ofO (subD x.2 y.2))))
theorem ok_law_rows_compare (T : Txt K mg cO) {f : Addr} {fd : FuncData} (d : Dfn K mg "_law_rows_compare" s_law_rows_compare ["_law_one", "_law_other"] f fd) {m_law_compare : List D → Res FD} (h_law_compare : Cal P w K mg base k "_law_compare" ["_law_one", "_law_other"] m_law_compare) : Cal P w K mg base (k + 1) "_law_rows_compare" ["_law_one", "_law_other"] (runG 4 (g_law_rows_compare m_law_compare)) := by
  refine Cal.of d sc_law_rows_compare fun cdv A outer s H E hr => ?_
  have nd := sc_law_rows_compare.nd
  have hu : (cxOf (L2.CX P w) P w K mg base ["_law_one", "_law_other", "_law_k", "_law_result"] "_law_rows_compare" (defScope s_law_rows_compare) f cdv A outer s H E).A.units + 64 < cLine := hr.units
  have hc : (cxOf (L2.CX P w) P w K mg base ["_law_one", "_law_other", "_law_k", "_law_result"] "_law_rows_compare" (defScope s_law_rows_compare) f cdv A outer s H E).calm = true := rfl
  have tk : Takes (cxOf (L2.CX P w) P w K mg base ["_law_one", "_law_other", "_law_k", "_law_result"] "_law_rows_compare" (defScope s_law_rows_compare) f cdv A outer s H E) (WofE E) := takes_of rfl rfl rfl rfl
  have hp := passes_of (X := cxOf (L2.CX P w) P w K mg base ["_law_one", "_law_other", "_law_k", "_law_result"] "_law_rows_compare" (defScope s_law_rows_compare) f cdv A outer s H E) rfl
  exact sb_cons (ss_for hp hc (ei_range1 rfl T.b_range (ev_callB (call_minV hc) rfl T.b_min (by decide +kernel) (ea_cons (ev_callB call_lenV rfl T.b_len (by decide +kernel) (ea_cons (ev_var (pv 0)) (ea_nil))) (ea_cons (ev_callB call_lenV rfl T.b_len (by decide +kernel) (ea_cons (ev_var (pv 1)) (ea_nil))) (ea_nil))))) (pg_name (i := 2) nd rfl (Or.inl rfl)) tgt1 (sb_cons (ss_asg (ps_set (i := 3) nd rfl (Or.inl rfl) (ev_fn h_law_compare hr rfl tk rfl (ea_cons (ev_ix hu (ev_var (pv 0)) (ev_var (pv 2)) (fun _ _ => rfl)) (ea_cons (ev_ix hu (ev_var (pv 1)) (ev_var (pv 2)) (fun _ _ => rfl)) (ea_nil))) (gCons_len (gCons_len gNil_len))))) (sb_one (ss_if (et_cmp (op_neV hu) (ev_var (pv 3)) (ev_con pe_int) (nomark _)) (sb_one (ss_retV (ps_ret (pv 3)))) (sb_nil))))) (sb_one (ss_ret (ps_ret (ev_op op_subV (ev_callTy call_intV rfl T.b_int (by decide +kernel) (ea_cons (ev_cmp op_gtV (ev_callB call_lenV rfl T.b_len (by decide +kernel) (ea_cons (ev_var (pv 0)) (ea_nil))) (ev_callB call_lenV rfl T.b_len (by decide +kernel) (ea_cons (ev_var (pv 1)) (ea_nil))) (nomark _)) (ea_nil))) (ev_callTy call_intV rfl T.b_int (by decide +kernel) (ea_cons (ev_cmp op_ltV (ev_callB call_lenV rfl T.b_len (by decide +kernel) (ea_cons (ev_var (pv 0)) (ea_nil))) (ev_callB call_lenV rfl T.b_len (by decide +kernel) (ea_cons (ev_var (pv 1)) (ea_nil))) (nomark _)) (ea_nil)))))))
/-! law_compare -/
abbrev s_law_compare : Stmt := top 25
theorem sc_law_compare : FnScope ["_law_one", "_law_other", "_law_words", "_law_first", "_law_second", "_law_left", "_law_right", "_law_name"] ["_law_one", "_law_other"] (defScope s_law_compare) := ⟨rfl, rfl, rfl, by decide +kernel, rfl, by decide +kernel, by decide +kernel⟩
def g_law_compare (m_law_kind : List D → Res FD) (m_law_rows_compare : List D → Res FD) : GS := gSeq (gSet 2 [] (gLst (lCons (gCon (.str "nothing")) (lCons (gCon (.str "truth")) (lCons (gCon (.str "number")) (lCons (gCon (.str "text")) (lCons (gCon (.str "row")) (lCons (gCon (.str "record")) (lNil))))))))) (gSeq (gSet 3 [0, 2] (gMt (gVar 2) (gCall (gCons (gVar 0) (gNil)) m_law_kind) idxD)) (gSeq (gSet 4 [1, 2] (gMt (gVar 2) (gCall (gCons (gVar 1) (gNil)) m_law_kind) idxD)) (gSeq (gIfS [3, 4] (gTest (g2 (gVar 3) (gVar 4) (fun x y => ofO ((fB fun a b => (eqN 32 a b).map (!·)) x.2 y.2)))) (gRet [3, 4] (g2 (gCall (gCons (g2 (gVar 3) (gVar 4) (fun x y => ofO ((fB gtD) x.2 y.2))) (gNil)) (fun ds => ofO (intD ds))) (gCall (gCons (g2 (gVar 3) (gVar 4) (fun x y => ofO ((fB ltD) x.2 y.2))) (gNil)) (fun ds => ofO (intD ds))) (fun x y => ofO (subD x.2 y.2)))) (gPass)) (gSeq (gIfS [3] (gTest (g2 (gVar 3) (gCon (.int 0)) (fun x y => ofO ((fB (eqN 32)) x.2 y.2)))) (gRet [] (gCon (.int 0))) (gPass)) (gSeq (gIfS [3] (gTest (g2 (gVar 3) (gCon (.int 4)) (fun x y => ofO ((fB ltD) x.2 y.2)))) (gRet [0, 1] (g2 (gCall (gCons (g2 (gVar 0) (gVar 1) (fun x y => ofO ((fB gtD) x.2 y.2))) (gNil)) (fun ds => ofO (intD ds))) (gCall (gCons (g2 (gVar 0) (gVar 1) (fun x y => ofO ((fB ltD) x.2 y.2))) (gNil)) (fun ds => ofO (intD ds))) (fun x y => ofO (subD x.2 y.2)))) (gPass)) (gSeq (gIfS [3] (gTest (g2 (gVar 3) (gCon (.int 4)) (fun x y => ofO ((fB (eqN 32)) x.2 y.2)))) (gRet [0, 1] (gCall (gCons (gVar 0) (gCons (gVar 1) (gNil))) m_law_rows_compare)) (gPass)) (gSeq (gSet 5 [0] (gComp [7] [7] (gItL (gCall (gCons (gVar 0) (gNil)) (fun ds => ofO (sortD ds)))) t1 (cYes) (gLst (lCons (gVar 7) (lCons (g2 (gVar 0) (gVar 7) (fun x y => ofO (ixD x.2 y.2))) (lNil)))))) (gSeq (gSet 6 [1] (gComp [7] [7] (gItL (gCall (gCons (gVar 1) (gNil)) (fun ds => ofO (sortD ds)))) t1 (cYes) (gLst (lCons (gVar 7) (lCons (g2 (gVar 1) (gVar 7) (fun x y => ofO (ixD x.2 y.2))) (lNil)))))) (gRet [5, 6] (gCall (gCons (gVar 5) (gCons (gVar 6) (gNil))) m_law_rows_compare))))))))))
theorem ok_law_compare (T : Txt K mg cO) {f : Addr} {fd : FuncData} (d : Dfn K mg "_law_compare" s_law_compare ["_law_one", "_law_other"] f fd) {m_law_kind : List D → Res FD} (h_law_kind : Cal P w K mg base k "_law_kind" ["_law_thing"] m_law_kind) {m_law_rows_compare : List D → Res FD} (h_law_rows_compare : Cal P w K mg base k "_law_rows_compare" ["_law_one", "_law_other"] m_law_rows_compare) : Cal P w K mg base (k + 1) "_law_compare" ["_law_one", "_law_other"] (runG 8 (g_law_compare m_law_kind m_law_rows_compare)) := by
  refine Cal.of d sc_law_compare fun cdv A outer s H E hr => ?_
  have nd := sc_law_compare.nd
  have hu : (cxOf (L2.CX P w) P w K mg base ["_law_one", "_law_other", "_law_words", "_law_first", "_law_second", "_law_left", "_law_right", "_law_name"] "_law_compare" (defScope s_law_compare) f cdv A outer s H E).A.units + 64 < cLine := hr.units
  have hc : (cxOf (L2.CX P w) P w K mg base ["_law_one", "_law_other", "_law_words", "_law_first", "_law_second", "_law_left", "_law_right", "_law_name"] "_law_compare" (defScope s_law_compare) f cdv A outer s H E).calm = true := rfl
  have tk : Takes (cxOf (L2.CX P w) P w K mg base ["_law_one", "_law_other", "_law_words", "_law_first", "_law_second", "_law_left", "_law_right", "_law_name"] "_law_compare" (defScope s_law_compare) f cdv A outer s H E) (WofE E) := takes_of rfl rfl rfl rfl
  exact sb_cons (ss_asg (ps_set (i := 2) nd rfl (Or.inl rfl) (ev_lst (el_cons (ev_con pe_str) (el_cons (ev_con pe_str) (el_cons (ev_con pe_str) (el_cons (ev_con pe_str) (el_cons (ev_con pe_str) (el_cons (ev_con pe_str) (el_nil)))))))))) (sb_cons (ss_asg (ps_set (i := 3) nd rfl (Or.inl rfl) (ev_index (ev_var (pv 2)) (ev_fn h_law_kind hr rfl tk rfl (ea_cons (ev_var (pv 0)) (ea_nil)) (gCons_len gNil_len))))) (sb_cons (ss_asg (ps_set (i := 4) nd rfl (Or.inl rfl) (ev_index (ev_var (pv 2)) (ev_fn h_law_kind hr rfl tk rfl (ea_cons (ev_var (pv 1)) (ea_nil)) (gCons_len gNil_len))))) (sb_cons (ss_if (et_cmp (op_neV hu) (ev_var (pv 3)) (ev_var (pv 4)) (nomark _)) (sb_one (ss_ret (ps_ret (ev_op op_subV (ev_callTy call_intV rfl T.b_int (by decide +kernel) (ea_cons (ev_cmp op_gtV (ev_var (pv 3)) (ev_var (pv 4)) (nomark _)) (ea_nil))) (ev_callTy call_intV rfl T.b_int (by decide +kernel) (ea_cons (ev_cmp op_ltV (ev_var (pv 3)) (ev_var (pv 4)) (nomark _)) (ea_nil))))))) (sb_nil)) (sb_cons (ss_if (et_cmp (op_eqV hu) (ev_var (pv 3)) (ev_con pe_int) (nomark _)) (sb_one (ss_ret (ps_ret (ev_con pe_int)))) (sb_nil)) (sb_cons (ss_if (et_cmp op_ltV (ev_var (pv 3)) (ev_con pe_int) (nomark _)) (sb_one (ss_ret (ps_ret (ev_op op_subV (ev_callTy call_intV rfl T.b_int (by decide +kernel) (ea_cons (ev_cmp op_gtV (ev_var (pv 0)) (ev_var (pv 1)) (nomark _)) (ea_nil))) (ev_callTy call_intV rfl T.b_int (by decide +kernel) (ea_cons (ev_cmp op_ltV (ev_var (pv 0)) (ev_var (pv 1)) (nomark _)) (ea_nil))))))) (sb_nil)) (sb_cons (ss_if (et_cmp (op_eqV hu) (ev_var (pv 3)) (ev_con pe_int) (nomark _)) (sb_one (ss_ret (ps_ret (ev_fn h_law_rows_compare hr rfl tk rfl (ea_cons (ev_var (pv 0)) (ea_cons (ev_var (pv 1)) (ea_nil))) (gCons_len (gCons_len gNil_len)))))) (sb_nil)) (sb_cons (ss_setLc (i := 5) (own := [("_law_name", 7)]) hc nd rfl rfl (sw_true rfl rfl rfl (by decide +kernel)) (ei_list (ev_callB (call_sortV hc) rfl T.b_sorted (by decide +kernel) (ea_cons (ev_var (pv 0)) (ea_nil)))) (blkOk_by (by kernel_rfl)) tgt1 (by decide) (fun _ _ _ _ _ => pg_name (i := 7) nd rfl (Or.inl rfl)) tt_yes (fun _ _ _ _ _ => pts_nil) (fun _ _ _ _ _ => ev_lst (el_cons (ev_var (pv 7)) (el_cons (ev_ix hu (ev_var (pv 0)) (ev_var (pv 7)) (fun _ _ => rfl)) (el_nil))))) (sb_cons (ss_setLc (i := 6) (own := [("_law_name", 7)]) hc nd rfl rfl (sw_true rfl rfl rfl (by decide +kernel)) (ei_list (ev_callB (call_sortV hc) rfl T.b_sorted (by decide +kernel) (ea_cons (ev_var (pv 1)) (ea_nil)))) (blkOk_by (by kernel_rfl)) tgt1 (by decide) (fun _ _ _ _ _ => pg_name (i := 7) nd rfl (Or.inl rfl)) tt_yes (fun _ _ _ _ _ => pts_nil) (fun _ _ _ _ _ => ev_lst (el_cons (ev_var (pv 7)) (el_cons (ev_ix hu (ev_var (pv 1)) (ev_var (pv 7)) (fun _ _ => rfl)) (el_nil))))) (sb_one (ss_ret (ps_ret (ev_fn h_law_rows_compare hr rfl tk rfl (ea_cons (ev_var (pv 5)) (ea_cons (ev_var (pv 6)) (ea_nil))) (gCons_len (gCons_len gNil_len))))))))))))))
/-! law_same -/
abbrev s_law_same : Stmt := top 26
theorem sc_law_same : FnScope ["_law_one", "_law_other"] ["_law_one", "_law_other"] (defScope s_law_same) := ⟨rfl, rfl, rfl, by decide +kernel, rfl, by decide +kernel, by decide +kernel⟩
def g_law_same (m_law_kind : List D → Res FD) (m_law_compare : List D → Res FD) : GS := gRet [0, 1] (gAndV (gNotN (gCall (gCons (gVar 0) (gNil)) m_law_kind)) (gAndV (g2 (gCall (gCons (gVar 0) (gNil)) m_law_kind) (gCall (gCons (gVar 1) (gNil)) m_law_kind) (fun x y => ofO ((fB (eqN 32)) x.2 y.2))) (g2 (gCall (gCons (gVar 0) (gCons (gVar 1) (gNil))) m_law_compare) (gCon (.int 0)) (fun x y => ofO ((fB (eqN 32)) x.2 y.2)))))
theorem ok_law_same (T : Txt K mg cO) {f : Addr} {fd : FuncData} (d : Dfn K mg "_law_same" s_law_same ["_law_one", "_law_other"] f fd) {m_law_kind : List D → Res FD} (h_law_kind : Cal P w K mg base k "_law_kind" ["_law_thing"] m_law_kind) {m_law_compare : List D → Res FD} (h_law_compare : Cal P w K mg base k "_law_compare" ["_law_one", "_law_other"] m_law_compare) : Cal P w K mg base (k + 1) "_law_same" ["_law_one", "_law_other"] (runG 2 (g_law_same m_law_kind m_law_compare)) := by
  refine Cal.of d sc_law_same fun cdv A outer s H E hr => ?_
  have nd := sc_law_same.nd
  have hu : (cxOf (L2.CX P w) P w K mg base ["_law_one", "_law_other"] "_law_same" (defScope s_law_same) f cdv A outer s H E).A.units + 64 < cLine := hr.units
  have hc : (cxOf (L2.CX P w) P w K mg base ["_law_one", "_law_other"] "_law_same" (defScope s_law_same) f cdv A outer s H E).calm = true := rfl
  have tk : Takes (cxOf (L2.CX P w) P w K mg base ["_law_one", "_law_other"] "_law_same" (defScope s_law_same) f cdv A outer s H E) (WofE E) := takes_of rfl rfl rfl rfl
  exact sb_one (ss_ret (ps_ret (ev_and (ev_pc (ec_notN (ev_fn h_law_kind hr rfl tk rfl (ea_cons (ev_var (pv 0)) (ea_nil)) (gCons_len gNil_len))) rfl) (ev_and (ev_cmp (op_eqV hu) (ev_fn h_law_kind hr rfl tk rfl (ea_cons (ev_var (pv 0)) (ea_nil)) (gCons_len gNil_len)) (ev_fn h_law_kind hr rfl tk rfl (ea_cons (ev_var (pv 1)) (ea_nil)) (gCons_len gNil_len)) (nomark _)) (ev_one (ev_cmp (op_eqV hu) (ev_fn h_law_compare hr rfl tk rfl (ea_cons (ev_var (pv 0)) (ea_cons (ev_var (pv 1)) (ea_nil))) (gCons_len (gCons_len gNil_len))) (ev_con pe_int) (nomark _)))))))
/-! law_held -/
abbrev s_law_held : Stmt := top 27
theorem sc_law_held : FnScope ["_law_thing", "_law_one", "_law_name"] ["_law_thing"] (defScope s_law_held) := ⟨rfl, rfl, rfl, by decide +kernel, rfl, by decide +kernel, by decide +kernel⟩
def g_law_held (m_law_held : List D → Res FD) : GS := gSeq (gIfS [0] (gTest (gIsi "list" (gVar 0))) (gRet [0] (gComp [1] [1] (gItL (gVar 0)) t1 (cYes) (gCall (gCons (gVar 1) (gNil)) m_law_held))) (gPass)) (gSeq (gIfS [0] (gTest (gIsi "dict" (gVar 0))) (gRet [0] (gDictT (gComp [2] [2] (gDct 0 keysD) t1 (cYes) (gTpl (lCons (gVar 2) (lCons (gCall (gCons (g2 (gVar 0) (gVar 2) (fun x y => ofO (ixD x.2 y.2))) (gNil)) m_law_held) (lNil))))))) (gPass)) (gRetV 0))
theorem ok_law_held (T : Txt K mg cO) {f : Addr} {fd : FuncData} (d : Dfn K mg "_law_held" s_law_held ["_law_thing"] f fd) {m_law_held : List D → Res FD} (h_law_held : Cal P w K mg base k "_law_held" ["_law_thing"] m_law_held) : Cal P w K mg base (k + 1) "_law_held" ["_law_thing"] (runG 3 (g_law_held m_law_held)) := by
  refine Cal.of d sc_law_held fun cdv A outer s H E hr => ?_
  have nd := sc_law_held.nd
  have hu : (cxOf (L2.CX P w) P w K mg base ["_law_thing", "_law_one", "_law_name"] "_law_held" (defScope s_law_held) f cdv A outer s H E).A.units + 64 < cLine := hr.units
  have hc : (cxOf (L2.CX P w) P w K mg base ["_law_thing", "_law_one", "_law_name"] "_law_held" (defScope s_law_held) f cdv A outer s H E).calm = true := rfl
  have tk : Takes (cxOf (L2.CX P w) P w K mg base ["_law_thing", "_law_one", "_law_name"] "_law_held" (defScope s_law_held) f cdv A outer s H E) (WofE E) := takes_of rfl rfl rfl rfl
  exact sb_cons (ss_if (et_val (ev_isi rfl T.b_isinstance rfl T.b_list (by decide +kernel) (by decide +kernel) (ev_var (pv 0)))) (sb_one (ss_ret (ps_ret (ev_comp (own := [("_law_one", 1)]) hc nd (ei_list (ev_var (pv 0))) (blkOk_by (by kernel_rfl)) tgt1 (by decide) (fun _ _ _ _ _ => pg_name (i := 1) nd rfl (Or.inl rfl)) tt_yes (fun _ _ _ _ _ => pts_nil) (fun _ _ _ _ _ => ev_fn h_law_held hr rfl takes0 rfl (ea_cons (ev_var (pv 1)) (ea_nil)) (gCons_len gNil_len)))))) (sb_nil)) (sb_cons (ss_if (et_val (ev_isi rfl T.b_isinstance rfl T.b_dict (by decide +kernel) (by decide +kernel) (ev_var (pv 0)))) (sb_one (ss_ret (ps_ret (ev_dictT hc rfl T.b_dict (by decide +kernel) (ev_compD (own := [("_law_name", 2)]) hc nd (pi_keys (pv 0)) wk_keys (blkOk_by (by kernel_rfl)) tgt1 (by decide) (fun _ _ _ _ _ => pg_name (i := 2) nd rfl (Or.inl rfl)) tt_yes (fun _ _ _ _ _ => pts_nil) (fun _ _ _ _ _ => ev_tup (el_cons (ev_var (pv 2)) (el_cons (ev_fn h_law_held hr rfl takes0 rfl (ea_cons (ev_ix hu (ev_var (pv 0)) (ev_var (pv 2)) (fun _ _ => rfl)) (ea_nil)) (gCons_len gNil_len)) (el_nil))))))))) (sb_nil)) (sb_one (ss_retV (ps_ret (pv 0)))))
/-! law_small -/
abbrev s_law_small : Stmt := top 28
theorem sc_law_small : FnScope ["_law_script", "_law_k", "_law_more", "_law_some"] ["_law_script", "_law_k"] (defScope s_law_small) := ⟨rfl, rfl, rfl, by decide +kernel, rfl, by decide +kernel, by decide +kernel⟩
def g_law_small (m_law_cell : List D → Res FD) (m_law_thing_by : List D → Res FD) : GS := gSeq (gSet 2 [0, 1] (gCall (gCons (gVar 0) (gCons (gVar 1) (gNil))) m_law_cell)) (gSeq (gSet 3 [] (gLst (lCons (gCon .non) (lCons (gCon (.bl true)) (lCons (gCon (.bl false)) (lCons (gCon (.int 0)) (lCons (gCon (.int 1)) (lCons (gCon (.int 2)) (lCons (gCon (.str "a")) (lCons (gCon (.str "b")) (lCons (gCon (.str "")) (lCons (gLst (lNil)) (lCons (gLst (lCons (gCon (.int 0)) (lNil))) (lCons (gCon (.dct [])) (lCons (gD1 (gCon (.str "a")) (gCon (.int 1))) (lCons (gD1 (gCon (.str "a")) (gCon (.int 2))) (lCons (fun ρ => ((gCon (.int 1)) ρ).bind fun x => ofO (negD x.2)) (lCons (gLst (lCons (gCon (.int 1)) (lCons (gCon (.str "x")) (lNil)))) (lCons (gLst (lCons (gCon (.int 2)) (lNil))) (lCons (gCon (.str "ab")) (lNil))))))))))))))))))))) (gSeq (gIfS [2] (gTest (g2 (g2 (gVar 2) (gCon (.int 4)) (fun x y => ofO (modD x.2 y.2))) (gCon (.int 0)) (fun x y => ofO ((fB (eqN 32)) x.2 y.2)))) (gRet [0, 1] (gCall (gCons (gVar 0) (gCons (g2 (gVar 1) (gCon (.int 1)) (fun x y => ofO (addD x.2 y.2))) (gCons (gCon (.int 2)) (gNil)))) m_law_thing_by)) (gPass)) (gSeq (gIfS [2] (gTest (g2 (g2 (gVar 2) (gCon (.int 4)) (fun x y => ofO (modD x.2 y.2))) (gCon (.int 1)) (fun x y => ofO ((fB (eqN 32)) x.2 y.2)))) (gRet [2] (g2 (g2 (gVar 2) (gCon (.int 4)) (fun x y => ofO (divD x.2 y.2))) (gCon (.int 5)) (fun x y => ofO (modD x.2 y.2)))) (gPass)) (gRet [2, 3] (g2 (gVar 3) (g2 (g2 (gVar 2) (gCon (.int 4)) (fun x y => ofO (divD x.2 y.2))) (gCon (.int 18)) (fun x y => ofO (modD x.2 y.2))) (fun x y => ofO (ixD x.2 y.2)))))))
theorem ok_law_small (T : Txt K mg cO) {f : Addr} {fd : FuncData} (d : Dfn K mg "_law_small" s_law_small ["_law_script", "_law_k"] f fd) {m_law_cell : List D → Res FD} (h_law_cell : Cal P w K mg base k "_law_cell" ["_law_script", "_law_k"] m_law_cell) {m_law_thing_by : List D → Res FD} (h_law_thing_by : Cal P w K mg base k "_law_thing_by" ["_law_script", "_law_k", "_law_deep"] m_law_thing_by) : Cal P w K mg base (k + 1) "_law_small" ["_law_script", "_law_k"] (runG 4 (g_law_small m_law_cell m_law_thing_by)) := by
  refine Cal.of d sc_law_small fun cdv A outer s H E hr => ?_
  have nd := sc_law_small.nd
  have hu : (cxOf (L2.CX P w) P w K mg base ["_law_script", "_law_k", "_law_more", "_law_some"] "_law_small" (defScope s_law_small) f cdv A outer s H E).A.units + 64 < cLine := hr.units
  have hc : (cxOf (L2.CX P w) P w K mg base ["_law_script", "_law_k", "_law_more", "_law_some"] "_law_small" (defScope s_law_small) f cdv A outer s H E).calm = true := rfl
  have tk : Takes (cxOf (L2.CX P w) P w K mg base ["_law_script", "_law_k", "_law_more", "_law_some"] "_law_small" (defScope s_law_small) f cdv A outer s H E) (WofE E) := takes_of rfl rfl rfl rfl
  exact sb_cons (ss_asg (ps_set (i := 2) nd rfl (Or.inl rfl) (ev_fn h_law_cell hr rfl tk rfl (ea_cons (ev_var (pv 0)) (ea_cons (ev_var (pv 1)) (ea_nil))) (gCons_len (gCons_len gNil_len))))) (sb_cons (ss_asg (ps_set (i := 3) nd rfl (Or.inl rfl) (ev_lst (el_cons (ev_con pe_non) (el_cons (ev_con pe_bl) (el_cons (ev_con pe_bl) (el_cons (ev_con pe_int) (el_cons (ev_con pe_int) (el_cons (ev_con pe_int) (el_cons (ev_con pe_str) (el_cons (ev_con pe_str) (el_cons (ev_con pe_str) (el_cons (ev_lst (el_nil)) (el_cons (ev_lst (el_cons (ev_con pe_int) (el_nil))) (el_cons (ev_d0) (el_cons (ev_d1 (ev_con pe_str) (ev_con pe_int)) (el_cons (ev_d1 (ev_con pe_str) (ev_con pe_int)) (el_cons (ev_neg (ev_con pe_int)) (el_cons (ev_lst (el_cons (ev_con pe_int) (el_cons (ev_con pe_str) (el_nil)))) (el_cons (ev_lst (el_cons (ev_con pe_int) (el_nil))) (el_cons (ev_con pe_str) (el_nil)))))))))))))))))))))) (sb_cons (ss_if (et_cmp (op_eqV hu) (ev_op op_modV (ev_var (pv 2)) (ev_con pe_int)) (ev_con pe_int) (nomark _)) (sb_one (ss_ret (ps_ret (ev_fn h_law_thing_by hr rfl tk rfl (ea_cons (ev_var (pv 0)) (ea_cons (ev_op op_addV (ev_var (pv 1)) (ev_con pe_int)) (ea_cons (ev_con pe_int) (ea_nil)))) (gCons_len (gCons_len (gCons_len gNil_len))))))) (sb_nil)) (sb_cons (ss_if (et_cmp (op_eqV hu) (ev_op op_modV (ev_var (pv 2)) (ev_con pe_int)) (ev_con pe_int) (nomark _)) (sb_one (ss_ret (ps_ret (ev_op op_modV (ev_op op_divV (ev_var (pv 2)) (ev_con pe_int)) (ev_con pe_int))))) (sb_nil)) (sb_one (ss_ret (ps_ret (ev_ix hu (ev_var (pv 3)) (ev_op op_modV (ev_op op_divV (ev_var (pv 2)) (ev_con pe_int)) (ev_con pe_int)) (fun _ _ => rfl))))))))
/-! law_record -/
abbrev s_law_record : Stmt := top 29
theorem sc_law_record : FnScope ["_law_script", "_law_k", "_law_more", "_law_result", "_law_j"] ["_law_script", "_law_k"] (defScope s_law_record) := ⟨rfl, rfl, rfl, by decide +kernel, rfl, by decide +kernel, by decide +kernel⟩
def g_law_record (m_law_cell : List D → Res FD) (m_law_small : List D → Res FD) (m_law_names : List D → Res FD) : GS := gSeq (gSet 2 [0, 1] (gCall (gCons (gVar 0) (gCons (gVar 1) (gNil))) m_law_cell)) (gSeq (gIfS [2] (gTest (g2 (g2 (gVar 2) (gCon (.int 9)) (fun x y => ofO (modD x.2 y.2))) (gCon (.int 0)) (fun x y => ofO ((fB (eqN 32)) x.2 y.2)))) (gRet [0, 1] (gCall (gCons (gVar 0) (gCons (g2 (gVar 1) (gCon (.int 1)) (fun x y => ofO (addD x.2 y.2))) (gNil))) m_law_small)) (gPass)) (gSeq (gSet 3 [] (gCon (.dct []))) (gSeq (gFor [] [4] (gItR1 (gCon (.int 3))) t1 (gIfS [2, 4] (gTest (g2 (g2 (g2 (gVar 2) (g2 (gLst (lCons (gCon (.int 9)) (lCons (gCon (.int 27)) (lCons (gCon (.int 81)) (lNil))))) (gVar 4) (fun x y => ofO (ixD x.2 y.2))) (fun x y => ofO (divD x.2 y.2))) (gCon (.int 3)) (fun x y => ofO (modD x.2 y.2))) (gCon (.int 0)) (fun x y => ofO ((fB gtD) x.2 y.2)))) (gSetIt 3 [0, 1, 4] (g2 (gCall (gCons (gVar 0) (gNil)) m_law_names) (gVar 4) (fun x y => ofO (ixD x.2 y.2))) (gCall (gCons (gVar 0) (gCons (g2 (g2 (gVar 1) (gCon (.int 20)) (fun x y => ofO (addD x.2 y.2))) (g2 (gCon (.int 31)) (gVar 4) (fun x y => ofO (mulD x.2 y.2))) (fun x y => ofO (addD x.2 y.2))) (gNil))) m_law_small)) (gPass))) (gSeq (gIfS [2] (gTest (g2 (g2 (g2 (gVar 2) (gCon (.int 243)) (fun x y => ofO (divD x.2 y.2))) (gCon (.int 3)) (fun x y => ofO (modD x.2 y.2))) (gCon (.int 1)) (fun x y => ofO ((fB (eqN 32)) x.2 y.2)))) (gSetIt 3 [0, 1, 2] (g2 (gCall (gCons (gVar 0) (gNil)) m_law_names) (gCon (.int 2)) (fun x y => ofO (ixD x.2 y.2))) (gComp [4] [4] (gItR1 (g2 (g2 (gVar 2) (gCon (.int 729)) (fun x y => ofO (divD x.2 y.2))) (gCon (.int 4)) (fun x y => ofO (modD x.2 y.2)))) t1 (cYes) (gCall (gCons (gVar 0) (gCons (g2 (g2 (gVar 1) (gCon (.int 200)) (fun x y => ofO (addD x.2 y.2))) (g2 (gCon (.int 17)) (gVar 4) (fun x y => ofO (mulD x.2 y.2))) (fun x y => ofO (addD x.2 y.2))) (gNil))) m_law_small))) (gPass)) (gRetV 3)))))
theorem ok_law_record (T : Txt K mg cO) {f : Addr} {fd : FuncData} (d : Dfn K mg "_law_record" s_law_record ["_law_script", "_law_k"] f fd) {m_law_cell : List D → Res FD} (h_law_cell : Cal P w K mg base k "_law_cell" ["_law_script", "_law_k"] m_law_cell) {m_law_small : List D → Res FD} (h_law_small : Cal P w K mg base k "_law_small" ["_law_script", "_law_k"] m_law_small) {m_law_names : List D → Res FD} (h_law_names : Cal P w K mg base k "_law_names" ["_law_script"] m_law_names) : Cal P w K mg base (k + 1) "_law_record" ["_law_script", "_law_k"] (runG 5 (g_law_record m_law_cell m_law_small m_law_names)) := by
  refine Cal.of d sc_law_record fun cdv A outer s H E hr => ?_
  have nd := sc_law_record.nd
  have hu : (cxOf (L2.CX P w) P w K mg base ["_law_script", "_law_k", "_law_more", "_law_result", "_law_j"] "_law_record" (defScope s_law_record) f cdv A outer s H E).A.units + 64 < cLine := hr.units
  have hu1 : (cxOf (L2.CX P w) P w K mg base ["_law_script", "_law_k", "_law_more", "_law_result", "_law_j"] "_law_record" (defScope s_law_record) f cdv A outer s H E).A.units + 1 < cLine := Nat.lt_of_le_of_lt (Nat.add_le_add_left (by decide) _) hu
  have hc : (cxOf (L2.CX P w) P w K mg base ["_law_script", "_law_k", "_law_more", "_law_result", "_law_j"] "_law_record" (defScope s_law_record) f cdv A outer s H E).calm = true := rfl
  have tk : Takes (cxOf (L2.CX P w) P w K mg base ["_law_script", "_law_k", "_law_more", "_law_result", "_law_j"] "_law_record" (defScope s_law_record) f cdv A outer s H E) (WofE E) := takes_of rfl rfl rfl rfl
  have hp := passes_of (X := cxOf (L2.CX P w) P w K mg base ["_law_script", "_law_k", "_law_more", "_law_result", "_law_j"] "_law_record" (defScope s_law_record) f cdv A outer s H E) rfl
  exact sb_cons (ss_asg (ps_set (i := 2) nd rfl (Or.inl rfl) (ev_fn h_law_cell hr rfl tk rfl (ea_cons (ev_var (pv 0)) (ea_cons (ev_var (pv 1)) (ea_nil))) (gCons_len (gCons_len gNil_len))))) (sb_cons (ss_if (et_cmp (op_eqV hu) (ev_op op_modV (ev_var (pv 2)) (ev_con pe_int)) (ev_con pe_int) (nomark _)) (sb_one (ss_ret (ps_ret (ev_fn h_law_small hr rfl tk rfl (ea_cons (ev_var (pv 0)) (ea_cons (ev_op op_addV (ev_var (pv 1)) (ev_con pe_int)) (ea_nil))) (gCons_len (gCons_len gNil_len)))))) (sb_nil)) (sb_cons (ss_asg (ps_set (i := 3) nd rfl (Or.inl rfl) (ev_d0))) (sb_cons (ss_for hp hc (ei_range1 rfl T.b_range (ev_con pe_int)) (pg_name (i := 4) nd rfl (Or.inl rfl)) tgt1 (sb_one (ss_if (et_cmp op_gtV (ev_op op_modV (ev_op op_divV (ev_var (pv 2)) (ev_ix hu (ev_lst (el_cons (ev_con pe_int) (el_cons (ev_con pe_int) (el_cons (ev_con pe_int) (el_nil))))) (ev_var (pv 4)) (fun _ _ => rfl))) (ev_con pe_int)) (ev_con pe_int) (nomark _)) (sb_one (ss_setIt (ps_asg (ev_fn h_law_small hr rfl tk rfl (ea_cons (ev_var (pv 0)) (ea_cons (ev_op op_addV (ev_op op_addV (ev_var (pv 1)) (ev_con pe_int)) (ev_op op_mulV (ev_con pe_int) (ev_var (pv 4)))) (ea_nil))) (gCons_len (gCons_len gNil_len))) (pg_sub (pv 3) (ev_ix hu (ev_fn h_law_names hr rfl tk rfl (ea_cons (ev_var (pv 0)) (ea_nil)) (gCons_len gNil_len)) (ev_var (pv 4)) (fun _ _ => rfl)) (set_V hu1))))) (sb_nil)))) (sb_cons (ss_if (et_cmp (op_eqV hu) (ev_op op_modV (ev_op op_divV (ev_var (pv 2)) (ev_con pe_int)) (ev_con pe_int)) (ev_con pe_int) (nomark _)) (sb_one (ss_setIt (ps_asg (ev_comp (own := [("_law_j", 4)]) hc nd (ei_range1 rfl T.b_range (ev_op op_modV (ev_op op_divV (ev_var (pv 2)) (ev_con pe_int)) (ev_con pe_int))) (blkOk_by (by kernel_rfl)) tgt1 (by decide) (fun _ _ _ _ _ => pg_name (i := 4) nd rfl (Or.inl rfl)) tt_yes (fun _ _ _ _ _ => pts_nil) (fun _ _ _ _ _ => ev_fn h_law_small hr rfl takes0 rfl (ea_cons (ev_var (pv 0)) (ea_cons (ev_op op_addV (ev_op op_addV (ev_var (pv 1)) (ev_con pe_int)) (ev_op op_mulV (ev_con pe_int) (ev_var (pv 4)))) (ea_nil))) (gCons_len (gCons_len gNil_len)))) (pg_sub (pv 3) (ev_ix hu (ev_fn h_law_names hr rfl tk rfl (ea_cons (ev_var (pv 0)) (ea_nil)) (gCons_len gNil_len)) (ev_con pe_int) (fun _ _ => rfl)) (set_V hu1))))) (sb_nil)) (sb_one (ss_retV (ps_ret (pv 3))))))))
/-! law_records -/
abbrev s_law_records : Stmt := top 30
theorem sc_law_records : FnScope ["_law_script", "_law_high", "_law_result", "_law_j", "_law_more", "_law_key"] ["_law_script", "_law_high"] (defScope s_law_records) := ⟨rfl, rfl, rfl, by decide +kernel, rfl, by decide +kernel, by decide +kernel⟩
def g_law_records (m_law_cell : List D → Res FD) (m_law_record : List D → Res FD) : GS := gSeq (gSet 2 [] (gCon (.dct []))) (gSeq (gFor [0, 1] [3] (gItR1 (g2 (gCall (gCons (gVar 0) (gCons (gCon (.int 0)) (gNil))) m_law_cell) (g2 (gVar 1) (gCon (.int 1)) (fun x y => ofO (addD x.2 y.2))) (fun x y => ofO (modD x.2 y.2)))) t1 (gSeq (gSet 4 [0, 3] (gCall (gCons (gVar 0) (gCons (g2 (gCon (.int 400)) (gVar 3) (fun x y => ofO (addD x.2 y.2))) (gNil))) m_law_cell)) (gSeq (gSet 5 [3, 4] (g2 (gLst (lCons (gVar 3) (lCons (g2 (g2 (gVar 4) (gCon (.int 3)) (fun x y => ofO (divD x.2 y.2))) (gCon (.int 12)) (fun x y => ofO (modD x.2 y.2))) (lCons (g2 (gVar 4) (gCon (.int 3)) (fun x y => ofO (divD x.2 y.2))) (lNil))))) (g2 (gVar 4) (gCon (.int 3)) (fun x y => ofO (modD x.2 y.2))) (fun x y => ofO (ixD x.2 y.2)))) (gSetIt 2 [0, 3, 5] (gVar 5) (gCall (gCons (gVar 0) (gCons (g2 (gCon (.int 1000)) (g2 (gCon (.int 700)) (gVar 3) (fun x y => ofO (mulD x.2 y.2))) (fun x y => ofO (addD x.2 y.2))) (gNil))) m_law_record))))) (gRetV 2))
theorem ok_law_records (T : Txt K mg cO) {f : Addr} {fd : FuncData} (d : Dfn K mg "_law_records" s_law_records ["_law_script", "_law_high"] f fd) {m_law_cell : List D → Res FD} (h_law_cell : Cal P w K mg base k "_law_cell" ["_law_script", "_law_k"] m_law_cell) {m_law_record : List D → Res FD} (h_law_record : Cal P w K mg base k "_law_record" ["_law_script", "_law_k"] m_law_record) : Cal P w K mg base (k + 1) "_law_records" ["_law_script", "_law_high"] (runG 6 (g_law_records m_law_cell m_law_record)) := by
  refine Cal.of d sc_law_records fun cdv A outer s H E hr => ?_
  have nd := sc_law_records.nd
  have hu : (cxOf (L2.CX P w) P w K mg base ["_law_script", "_law_high", "_law_result", "_law_j", "_law_more", "_law_key"] "_law_records" (defScope s_law_records) f cdv A outer s H E).A.units + 64 < cLine := hr.units
  have hu1 : (cxOf (L2.CX P w) P w K mg base ["_law_script", "_law_high", "_law_result", "_law_j", "_law_more", "_law_key"] "_law_records" (defScope s_law_records) f cdv A outer s H E).A.units + 1 < cLine := Nat.lt_of_le_of_lt (Nat.add_le_add_left (by decide) _) hu
  have hc : (cxOf (L2.CX P w) P w K mg base ["_law_script", "_law_high", "_law_result", "_law_j", "_law_more", "_law_key"] "_law_records" (defScope s_law_records) f cdv A outer s H E).calm = true := rfl
  have tk : Takes (cxOf (L2.CX P w) P w K mg base ["_law_script", "_law_high", "_law_result", "_law_j", "_law_more", "_law_key"] "_law_records" (defScope s_law_records) f cdv A outer s H E) (WofE E) := takes_of rfl rfl rfl rfl
  have hp := passes_of (X := cxOf (L2.CX P w) P w K mg base ["_law_script", "_law_high", "_law_result", "_law_j", "_law_more", "_law_key"] "_law_records" (defScope s_law_records) f cdv A outer s H E) rfl
  exact sb_cons (ss_asg (ps_set (i := 2) nd rfl (Or.inl rfl) (ev_d0))) (sb_cons (ss_for hp hc (ei_range1 rfl T.b_range (ev_op op_modV (ev_fn h_law_cell hr rfl tk rfl (ea_cons (ev_var (pv 0)) (ea_cons (ev_con pe_int) (ea_nil))) (gCons_len (gCons_len gNil_len))) (ev_op op_addV (ev_var (pv 1)) (ev_con pe_int)))) (pg_name (i := 3) nd rfl (Or.inl rfl)) tgt1 (sb_cons (ss_asg (ps_set (i := 4) nd rfl (Or.inl rfl) (ev_fn h_law_cell hr rfl tk rfl (ea_cons (ev_var (pv 0)) (ea_cons (ev_op op_addV (ev_con pe_int) (ev_var (pv 3))) (ea_nil))) (gCons_len (gCons_len gNil_len))))) (sb_cons (ss_asg (ps_set (i := 5) nd rfl (Or.inl rfl) (ev_ix hu (ev_lst (el_cons (ev_var (pv 3)) (el_cons (ev_op op_modV (ev_op op_divV (ev_var (pv 4)) (ev_con pe_int)) (ev_con pe_int)) (el_cons (ev_op op_divV (ev_var (pv 4)) (ev_con pe_int)) (el_nil))))) (ev_op op_modV (ev_var (pv 4)) (ev_con pe_int)) (fun _ _ => rfl)))) (sb_one (ss_setIt (ps_asg (ev_fn h_law_record hr rfl tk rfl (ea_cons (ev_var (pv 0)) (ea_cons (ev_op op_addV (ev_con pe_int) (ev_op op_mulV (ev_con pe_int) (ev_var (pv 3)))) (ea_nil))) (gCons_len (gCons_len gNil_len))) (pg_sub (pv 2) (ev_var (pv 5)) (set_V hu1)))))))) (sb_one (ss_retV (ps_ret (pv 2)))))
/-! law_names -/
abbrev s_law_names : Stmt := top 31
theorem sc_law_names : FnScope ["_law_script", "_law_more", "_law_some", "_law_drawn"] ["_law_script"] (defScope s_law_names) := ⟨rfl, rfl, rfl, by decide +kernel, rfl, by decide +kernel, by decide +kernel⟩
def g_law_names (m_law_cell : List D → Res FD) (m_law_name_by : List D → Res FD) : GS := gSeq (gSet 1 [0] (gCall (gCons (gVar 0) (gCons (gCon (.int 990)) (gNil))) m_law_cell)) (gSeq (gSet 2 [] (gLst (lCons (gLst (lCons (gCon (.str "a")) (lCons (gCon (.str "b")) (lCons (gCon (.str "r")) (lNil))))) (lCons (gLst (lCons (gCon (.str "aa")) (lCons (gCon (.str "a")) (lCons (gCon (.str "ab")) (lNil))))) (lCons (gLst (lCons (gCon (.str "x12")) (lCons (gCon (.str "x1")) (lCons (gCon (.str "x2")) (lNil))))) (lNil)))))) (gSeq (gSet 3 [1] (gLst (lCons (gCall (gCons (g2 (gVar 1) (gCon (.int 4)) (fun x y => ofO (divD x.2 y.2))) (gNil)) m_law_name_by) (lCons (g2 (gSl (gCall (gCons (g2 (gVar 1) (gCon (.int 4)) (fun x y => ofO (divD x.2 y.2))) (gNil)) m_law_name_by) none (some (gCon (.int 11)))) (gCon (.str "0")) (fun x y => ofO (addD x.2 y.2))) (lCons (gCon (.str "z")) (lNil)))))) (gRet [1, 2, 3] (g2 (g2 (gVar 2) (gLst (lCons (gVar 3) (lNil))) (fun x y => ofO (addD x.2 y.2))) (g2 (gVar 1) (gCon (.int 4)) (fun x y => ofO (modD x.2 y.2))) (fun x y => ofO (ixD x.2 y.2))))))
theorem ok_law_names (T : Txt K mg cO) {f : Addr} {fd : FuncData} (d : Dfn K mg "_law_names" s_law_names ["_law_script"] f fd) {m_law_cell : List D → Res FD} (h_law_cell : Cal P w K mg base k "_law_cell" ["_law_script", "_law_k"] m_law_cell) {m_law_name_by : List D → Res FD} (h_law_name_by : Cal P w K mg base k "_law_name_by" ["_law_more"] m_law_name_by) : Cal P w K mg base (k + 1) "_law_names" ["_law_script"] (runG 4 (g_law_names m_law_cell m_law_name_by)) := by
  refine Cal.of d sc_law_names fun cdv A outer s H E hr => ?_
  have nd := sc_law_names.nd
  have hu : (cxOf (L2.CX P w) P w K mg base ["_law_script", "_law_more", "_law_some", "_law_drawn"] "_law_names" (defScope s_law_names) f cdv A outer s H E).A.units + 64 < cLine := hr.units
  have hc : (cxOf (L2.CX P w) P w K mg base ["_law_script", "_law_more", "_law_some", "_law_drawn"] "_law_names" (defScope s_law_names) f cdv A outer s H E).calm = true := rfl
  have tk : Takes (cxOf (L2.CX P w) P w K mg base ["_law_script", "_law_more", "_law_some", "_law_drawn"] "_law_names" (defScope s_law_names) f cdv A outer s H E) (WofE E) := takes_of rfl rfl rfl rfl
  exact sb_cons (ss_asg (ps_set (i := 1) nd rfl (Or.inl rfl) (ev_fn h_law_cell hr rfl tk rfl (ea_cons (ev_var (pv 0)) (ea_cons (ev_con pe_int) (ea_nil))) (gCons_len (gCons_len gNil_len))))) (sb_cons (ss_asg (ps_set (i := 2) nd rfl (Or.inl rfl) (ev_lst (el_cons (ev_lst (el_cons (ev_con pe_str) (el_cons (ev_con pe_str) (el_cons (ev_con pe_str) (el_nil))))) (el_cons (ev_lst (el_cons (ev_con pe_str) (el_cons (ev_con pe_str) (el_cons (ev_con pe_str) (el_nil))))) (el_cons (ev_lst (el_cons (ev_con pe_str) (el_cons (ev_con pe_str) (el_cons (ev_con pe_str) (el_nil))))) (el_nil))))))) (sb_cons (ss_asg (ps_set (i := 3) nd rfl (Or.inl rfl) (ev_lst (el_cons (ev_fn h_law_name_by hr rfl tk rfl (ea_cons (ev_op op_divV (ev_var (pv 1)) (ev_con pe_int)) (ea_nil)) (gCons_len gNil_len)) (el_cons (ev_op op_addV (ev_sl (ev_fn h_law_name_by hr rfl tk rfl (ea_cons (ev_op op_divV (ev_var (pv 1)) (ev_con pe_int)) (ea_nil)) (gCons_len gNil_len)) prt_none (prt_some (ev_con pe_int))) (ev_con pe_str)) (el_cons (ev_con pe_str) (el_nil))))))) (sb_one (ss_ret (ps_ret (ev_ix hu (ev_op op_addV (ev_var (pv 2)) (ev_lst (el_cons (ev_var (pv 3)) (el_nil)))) (ev_op op_modV (ev_var (pv 1)) (ev_con pe_int)) (fun _ _ => rfl)))))))
/-! law_path -/
abbrev s_law_path : Stmt := top 32
theorem sc_law_path : FnScope ["_law_script", "_law_k", "_law_more", "_law_one", "_law_last", "_law_some"] ["_law_script", "_law_k"] (defScope s_law_path) := ⟨rfl, rfl, rfl, by decide +kernel, rfl, by decide +kernel, by decide +kernel⟩
def g_law_path (m_law_cell : List D → Res FD) (m_law_names : List D → Res FD) : GS := gSeq (gSet 2 [0, 1] (gCall (gCons (gVar 0) (gCons (gVar 1) (gNil))) m_law_cell)) (gSeq (gSet 3 [0] (g2 (gCall (gCons (gVar 0) (gNil)) m_law_names) (gCon (.int 0)) (fun x y => ofO (ixD x.2 y.2)))) (gSeq (gSet 4 [0] (g2 (gCall (gCons (gVar 0) (gNil)) m_law_names) (gCon (.int 2)) (fun x y => ofO (ixD x.2 y.2)))) (gSeq (gSet 5 [0, 3, 4] (gLst (lCons (gLst (lCons (gVar 3) (lNil))) (lCons (gLst (lCons (g2 (gCall (gCons (gVar 0) (gNil)) m_law_names) (gCon (.int 1)) (fun x y => ofO (ixD x.2 y.2))) (lNil))) (lCons (gLst (lCons (gVar 4) (lNil))) (lCons (gLst (lNil)) (lCons (gLst (lCons (gVar 4) (lCons (gCon (.int 0)) (lNil)))) (lCons (gLst (lCons (gVar 3) (lCons (gCon (.str "a")) (lNil)))) (lCons (gLst (lCons (gVar 4) (lCons (gCon (.int 1)) (lNil)))) (lNil)))))))))) (gRet [2, 3, 4, 5] (gCall (gCons (g2 (g2 (g2 (gVar 5) (gLst (lCons (gLst (lCons (gVar 3) (lCons (gCon (.int 0)) (lNil)))) (lCons (gLst (lCons (gCon (.str "zz")) (lNil))) (lCons (gLst (lCons (gVar 4) (lCons (gCon (.int 0)) (lCons (gCon (.str "a")) (lNil))))) (lNil))))) (fun x y => ofO (addD x.2 y.2))) (gSl (gVar 5) none (some (gCon (.int 3)))) (fun x y => ofO (addD x.2 y.2))) (g2 (gVar 2) (gCon (.int 13)) (fun x y => ofO (modD x.2 y.2))) (fun x y => ofO (ixD x.2 y.2))) (gNil)) (fun ds => ofO (listD ds)))))))
theorem ok_law_path (T : Txt K mg cO) {f : Addr} {fd : FuncData} (d : Dfn K mg "_law_path" s_law_path ["_law_script", "_law_k"] f fd) {m_law_cell : List D → Res FD} (h_law_cell : Cal P w K mg base k "_law_cell" ["_law_script", "_law_k"] m_law_cell) {m_law_names : List D → Res FD} (h_law_names : Cal P w K mg base k "_law_names" ["_law_script"] m_law_names) : Cal P w K mg base (k + 1) "_law_path" ["_law_script", "_law_k"] (runG 6 (g_law_path m_law_cell m_law_names)) := by
  refine Cal.of d sc_law_path fun cdv A outer s H E hr => ?_
  have nd := sc_law_path.nd
  have hu : (cxOf (L2.CX P w) P w K mg base ["_law_script", "_law_k", "_law_more", "_law_one", "_law_last", "_law_some"] "_law_path" (defScope s_law_path) f cdv A outer s H E).A.units + 64 < cLine := hr.units
  have hc : (cxOf (L2.CX P w) P w K mg base ["_law_script", "_law_k", "_law_more", "_law_one", "_law_last", "_law_some"] "_law_path" (defScope s_law_path) f cdv A outer s H E).calm = true := rfl
  have tk : Takes (cxOf (L2.CX P w) P w K mg base ["_law_script", "_law_k", "_law_more", "_law_one", "_law_last", "_law_some"] "_law_path" (defScope s_law_path) f cdv A outer s H E) (WofE E) := takes_of rfl rfl rfl rfl
  exact sb_cons (ss_asg (ps_set (i := 2) nd rfl (Or.inl rfl) (ev_fn h_law_cell hr rfl tk rfl (ea_cons (ev_var (pv 0)) (ea_cons (ev_var (pv 1)) (ea_nil))) (gCons_len (gCons_len gNil_len))))) (sb_cons (ss_asg (ps_set (i := 3) nd rfl (Or.inl rfl) (ev_ix hu (ev_fn h_law_names hr rfl tk rfl (ea_cons (ev_var (pv 0)) (ea_nil)) (gCons_len gNil_len)) (ev_con pe_int) (fun _ _ => rfl)))) (sb_cons (ss_asg (ps_set (i := 4) nd rfl (Or.inl rfl) (ev_ix hu (ev_fn h_law_names hr rfl tk rfl (ea_cons (ev_var (pv 0)) (ea_nil)) (gCons_len gNil_len)) (ev_con pe_int) (fun _ _ => rfl)))) (sb_cons (ss_asg (ps_set (i := 5) nd rfl (Or.inl rfl) (ev_lst (el_cons (ev_lst (el_cons (ev_var (pv 3)) (el_nil))) (el_cons (ev_lst (el_cons (ev_ix hu (ev_fn h_law_names hr rfl tk rfl (ea_cons (ev_var (pv 0)) (ea_nil)) (gCons_len gNil_len)) (ev_con pe_int) (fun _ _ => rfl)) (el_nil))) (el_cons (ev_lst (el_cons (ev_var (pv 4)) (el_nil))) (el_cons (ev_lst (el_nil)) (el_cons (ev_lst (el_cons (ev_var (pv 4)) (el_cons (ev_con pe_int) (el_nil)))) (el_cons (ev_lst (el_cons (ev_var (pv 3)) (el_cons (ev_con pe_str) (el_nil)))) (el_cons (ev_lst (el_cons (ev_var (pv 4)) (el_cons (ev_con pe_int) (el_nil)))) (el_nil))))))))))) (sb_one (ss_ret (ps_ret (ev_callTy call_listV rfl T.b_list (by decide +kernel) (ea_cons (ev_ix hu (ev_op op_addV (ev_op op_addV (ev_var (pv 5)) (ev_lst (el_cons (ev_lst (el_cons (ev_var (pv 3)) (el_cons (ev_con pe_int) (el_nil)))) (el_cons (ev_lst (el_cons (ev_con pe_str) (el_nil))) (el_cons (ev_lst (el_cons (ev_var (pv 4)) (el_cons (ev_con pe_int) (el_cons (ev_con pe_str) (el_nil))))) (el_nil)))))) (ev_sl (ev_var (pv 5)) prt_none (prt_some (ev_con pe_int)))) (ev_op op_modV (ev_var (pv 2)) (ev_con pe_int)) (fun _ _ => rfl)) (ea_nil)))))))))
/-! law_led -/
abbrev s_law_led : Stmt := top 33
theorem sc_law_led : FnScope ["_law_thing", "_law_path_here", "_law_step"] ["_law_thing", "_law_path_here"] (defScope s_law_led) := ⟨rfl, rfl, rfl, by decide +kernel, rfl, by decide +kernel, by decide +kernel⟩
def g_law_led  : GS := gSeq (gFor [1] [2] (gItL (gVar 1)) t1 (gIfS [0, 2] (gAndT (gTest (gIsi "dict" (gVar 0))) (gAndT (gTest (gIsi "str" (gVar 2))) (gTest (g2 (gVar 2) (gVar 0) (fun x y => ofO ((fB inD) x.2 y.2)))))) (gSet 0 [0, 2] (g2 (gVar 0) (gVar 2) (fun x y => ofO (ixD x.2 y.2)))) (gIfS [0, 2] (gAndT (gTest (gIsi "list" (gVar 0))) (gAndT (gNotT (gTest (gIsi "str" (gVar 2)))) (gTest (g2 (gVar 2) (gCall (gCons (gVar 0) (gNil)) (fun ds => ofO (lenD ds))) (fun x y => ofO ((fB ltD) x.2 y.2)))))) (gSet 0 [0, 2] (g2 (gVar 0) (gVar 2) (fun x y => ofO (ixD x.2 y.2)))) (gRet [] (gLst (lCons (gCon (.bl false)) (lCons (gCon .non) (lNil)))))))) (gRet [0] (gLst (lCons (gCon (.bl true)) (lCons (gVar 0) (lNil)))))
theorem ok_law_led (T : Txt K mg cO) {f : Addr} {fd : FuncData} (d : Dfn K mg "_law_led" s_law_led ["_law_thing", "_law_path_here"] f fd) : Cal P w K mg base (k + 1) "_law_led" ["_law_thing", "_law_path_here"] (runG 3 g_law_led) := by
  refine Cal.of d sc_law_led fun cdv A outer s H E hr => ?_
  have nd := sc_law_led.nd
  have hu : (cxOf (L2.CX P w) P w K mg base ["_law_thing", "_law_path_here", "_law_step"] "_law_led" (defScope s_law_led) f cdv A outer s H E).A.units + 64 < cLine := hr.units
  have hc : (cxOf (L2.CX P w) P w K mg base ["_law_thing", "_law_path_here", "_law_step"] "_law_led" (defScope s_law_led) f cdv A outer s H E).calm = true := rfl
  have tk : Takes (cxOf (L2.CX P w) P w K mg base ["_law_thing", "_law_path_here", "_law_step"] "_law_led" (defScope s_law_led) f cdv A outer s H E) (WofE E) := takes_of rfl rfl rfl rfl
  have hp := passes_of (X := cxOf (L2.CX P w) P w K mg base ["_law_thing", "_law_path_here", "_law_step"] "_law_led" (defScope s_law_led) f cdv A outer s H E) rfl
  exact sb_cons (ss_for hp hc (ei_list (ev_var (pv 1))) (pg_name (i := 2) nd rfl (Or.inl rfl)) tgt1 (sb_one (ss_if (PW.pt (ew_and (et_val (ev_isi rfl T.b_isinstance rfl T.b_dict (by decide +kernel) (by decide +kernel) (ev_var (pv 0)))) (ew_and (et_val (ev_isi rfl T.b_isinstance rfl T.b_str (by decide +kernel) (by decide +kernel) (ev_var (pv 2)))) (ew_and1 (et_cmp (op_inV hu) (ev_var (pv 2)) (ev_var (pv 0)) rfl))))) (sb_one (ss_asg (ps_set (i := 0) nd rfl (Or.inl rfl) (ev_ix hu (ev_var (pv 0)) (ev_var (pv 2)) (fun _ _ => rfl))))) (sb_one (ss_if (PW.pt (ew_and (et_val (ev_isi rfl T.b_isinstance rfl T.b_list (by decide +kernel) (by decide +kernel) (ev_var (pv 0)))) (ew_and (et_not (et_val (ev_isi rfl T.b_isinstance rfl T.b_str (by decide +kernel) (by decide +kernel) (ev_var (pv 2))))) (ew_and1 (et_cmp op_ltV (ev_var (pv 2)) (ev_callB call_lenV rfl T.b_len (by decide +kernel) (ea_cons (ev_var (pv 0)) (ea_nil))) (nomark _)))))) (sb_one (ss_asg (ps_set (i := 0) nd rfl (Or.inl rfl) (ev_ix hu (ev_var (pv 0)) (ev_var (pv 2)) (fun _ _ => rfl))))) (sb_one (ss_ret (ps_ret (ev_lst (el_cons (ev_con pe_bl) (el_cons (ev_con pe_non) (el_nil)))))))))))) (sb_one (ss_ret (ps_ret (ev_lst (el_cons (ev_con pe_bl) (el_cons (ev_var (pv 0)) (el_nil)))))))
/-! law_rows_due -/
abbrev s_law_rows_due : Stmt := top 34
theorem sc_law_rows_due : FnScope ["_law_kept", "_law_path_here", "_law_result", "_law_key", "_law_pair", "_law_at"] ["_law_kept", "_law_path_here"] (defScope s_law_rows_due) := ⟨rfl, rfl, rfl, by decide +kernel, rfl, by decide +kernel, by decide +kernel⟩
def g_law_rows_due (m_law_led : List D → Res FD) (m_law_compare : List D → Res FD) (m_law_held : List D → Res FD) : GS := gSeq (gSet 2 [] (gLst (lNil))) (gSeq (gFor [0] [3] (gItL (gCall (gCons (gVar 0) (gNil)) (fun ds => ofO (sortD ds)))) t1 (gSeq (gSet 4 [0, 1, 3] (gCall (gCons (g2 (gVar 0) (gVar 3) (fun x y => ofO (ixD x.2 y.2))) (gCons (gVar 1) (gNil))) m_law_led)) (gSeq (gSet 5 [] (gCon (.int 0))) (gSeq (whL [2, 4, 5] (gAndT (gTest (g2 (gVar 4) (gCon (.int 0)) (fun x y => ofO (ixD x.2 y.2)))) (gAndT (gTest (g2 (gVar 5) (gCall (gCons (gVar 2) (gNil)) (fun ds => ofO (lenD ds))) (fun x y => ofO ((fB ltD) x.2 y.2)))) (gTest (g2 (gCall (gCons (g2 (g2 (gVar 2) (gVar 5) (fun x y => ofO (ixD x.2 y.2))) (gCon (.int 0)) (fun x y => ofO (ixD x.2 y.2))) (gCons (g2 (gVar 4) (gCon (.int 1)) (fun x y => ofO (ixD x.2 y.2))) (gNil))) m_law_compare) (gCon (.int 1)) (fun x y => ofO ((fB ltD) x.2 y.2)))))) (gSet 5 [5] (g2 (gVar 5) (gCon (.int 1)) (fun x y => ofO (addD x.2 y.2)))) 1000) (gIfS [4] (gTest (g2 (gVar 4) (gCon (.int 0)) (fun x y => ofO (ixD x.2 y.2)))) (gIns 2 [3, 4, 5] (gVar 5) (gLst (lCons (gCall (gCons (g2 (gVar 4) (gCon (.int 1)) (fun x y => ofO (ixD x.2 y.2))) (gNil)) m_law_held) (lCons (gVar 3) (lNil))))) (gPass)))))) (gRetV 2))
theorem ok_law_rows_due (T : Txt K mg cO) {f : Addr} {fd : FuncData} (d : Dfn K mg "_law_rows_due" s_law_rows_due ["_law_kept", "_law_path_here"] f fd) {m_law_led : List D → Res FD} (h_law_led : Cal P w K mg base k "_law_led" ["_law_thing", "_law_path_here"] m_law_led) {m_law_compare : List D → Res FD} (h_law_compare : Cal P w K mg base k "_law_compare" ["_law_one", "_law_other"] m_law_compare) {m_law_held : List D → Res FD} (h_law_held : Cal P w K mg base k "_law_held" ["_law_thing"] m_law_held) : Cal P w K mg base (k + 1) "_law_rows_due" ["_law_kept", "_law_path_here"] (runG 6 (g_law_rows_due m_law_led m_law_compare m_law_held)) := by
  refine Cal.of d sc_law_rows_due fun cdv A outer s H E hr => ?_
  have nd := sc_law_rows_due.nd
  have hu : (cxOf (L2.CX P w) P w K mg base ["_law_kept", "_law_path_here", "_law_result", "_law_key", "_law_pair", "_law_at"] "_law_rows_due" (defScope s_law_rows_due) f cdv A outer s H E).A.units + 64 < cLine := hr.units
  have hc : (cxOf (L2.CX P w) P w K mg base ["_law_kept", "_law_path_here", "_law_result", "_law_key", "_law_pair", "_law_at"] "_law_rows_due" (defScope s_law_rows_due) f cdv A outer s H E).calm = true := rfl
  have tk : Takes (cxOf (L2.CX P w) P w K mg base ["_law_kept", "_law_path_here", "_law_result", "_law_key", "_law_pair", "_law_at"] "_law_rows_due" (defScope s_law_rows_due) f cdv A outer s H E) (WofE E) := takes_of rfl rfl rfl rfl
  have hp := passes_of (X := cxOf (L2.CX P w) P w K mg base ["_law_kept", "_law_path_here", "_law_result", "_law_key", "_law_pair", "_law_at"] "_law_rows_due" (defScope s_law_rows_due) f cdv A outer s H E) rfl
  exact sb_cons (ss_asg (ps_set (i := 2) nd rfl (Or.inl rfl) (ev_lst (el_nil)))) (sb_cons (ss_for hp hc (ei_list (ev_callB (call_sortV hc) rfl T.b_sorted (by decide +kernel) (ea_cons (ev_var (pv 0)) (ea_nil)))) (pg_name (i := 3) nd rfl (Or.inl rfl)) tgt1 (sb_cons (ss_asg (ps_set (i := 4) nd rfl (Or.inl rfl) (ev_fn h_law_led hr rfl tk rfl (ea_cons (ev_ix hu (ev_var (pv 0)) (ev_var (pv 3)) (fun _ _ => rfl)) (ea_cons (ev_var (pv 1)) (ea_nil))) (gCons_len (gCons_len gNil_len))))) (sb_cons (ss_asg (ps_set (i := 5) nd rfl (Or.inl rfl) (ev_con pe_int))) (sb_cons (ss_while (n := 1000) (ps_while hp (PW.pt (ew_and (et_val (ev_ix hu (ev_var (pv 4)) (ev_con pe_int) (fun _ _ => rfl))) (ew_and (et_cmp op_ltV (ev_var (pv 5)) (ev_callB call_lenV rfl T.b_len (by decide +kernel) (ea_cons (ev_var (pv 2)) (ea_nil))) (nomark _)) (ew_and1 (et_cmp op_ltV (ev_fn h_law_compare hr rfl tk rfl (ea_cons (ev_ix hu (ev_ix hu (ev_var (pv 2)) (ev_var (pv 5)) (fun _ _ => rfl)) (ev_con pe_int) (fun _ _ => rfl)) (ea_cons (ev_ix hu (ev_var (pv 4)) (ev_con pe_int) (fun _ _ => rfl)) (ea_nil))) (gCons_len (gCons_len gNil_len))) (ev_con pe_int) (nomark _)))))) (sb_one (ss_asg (ps_set (i := 5) nd rfl (Or.inl rfl) (ev_op op_addV (ev_var (pv 5)) (ev_con pe_int))))))) (sb_one (ss_if (et_val (ev_ix hu (ev_var (pv 4)) (ev_con pe_int) (fun _ _ => rfl))) (sb_one (ss_ins (ps_expr (pe_bm PySem.F.plainAttrs_list PySem.F.slot_list_insert PySem.F.type_list_insert mt_insert (pv 2) (pa_cons (ev_var (pv 5)) (pa_cons (ev_lst (el_cons (ev_fn h_law_held hr rfl tk rfl (ea_cons (ev_ix hu (ev_var (pv 4)) (ev_con pe_int) (fun _ _ => rfl)) (ea_nil)) (gCons_len gNil_len)) (el_cons (ev_var (pv 3)) (el_nil)))) pa_nil)))))) (sb_nil))))))) (sb_one (ss_retV (ps_ret (pv 2)))))
/-! law_end -/
abbrev s_law_end : Stmt := top 35
theorem sc_law_end : FnScope ["_law_script", "_law_k", "_law_rows", "_law_more"] ["_law_script", "_law_k", "_law_rows"] (defScope s_law_end) := ⟨rfl, rfl, rfl, by decide +kernel, rfl, by decide +kernel, by decide +kernel⟩
def g_law_end (m_law_cell : List D → Res FD) (m_law_held : List D → Res FD) (m_law_small : List D → Res FD) : GS := gSeq (gSet 3 [0, 1] (gCall (gCons (gVar 0) (gCons (gVar 1) (gNil))) m_law_cell)) (gSeq (gIfS [2, 3] (gAndT (gTest (g2 (g2 (gVar 3) (gCon (.int 3)) (fun x y => ofO (modD x.2 y.2))) (gCon (.int 0)) (fun x y => ofO ((fB gtD) x.2 y.2)))) (gTest (g2 (gVar 2) (gLst (lNil)) (fun x y => ofO ((fB fun a b => (eqN 32 a b).map (!·)) x.2 y.2))))) (gRet [2, 3] (gCall (gCons (g2 (g2 (gVar 2) (g2 (g2 (gVar 3) (gCon (.int 3)) (fun x y => ofO (divD x.2 y.2))) (gCall (gCons (gVar 2) (gNil)) (fun ds => ofO (lenD ds))) (fun x y => ofO (modD x.2 y.2))) (fun x y => ofO (ixD x.2 y.2))) (gCon (.int 0)) (fun x y => ofO (ixD x.2 y.2))) (gNil)) m_law_held)) (gPass)) (gRet [0, 1] (gCall (gCons (gVar 0) (gCons (g2 (gVar 1) (gCon (.int 1)) (fun x y => ofO (addD x.2 y.2))) (gNil))) m_law_small)))
theorem ok_law_end (T : Txt K mg cO) {f : Addr} {fd : FuncData} (d : Dfn K mg "_law_end" s_law_end ["_law_script", "_law_k", "_law_rows"] f fd) {m_law_cell : List D → Res FD} (h_law_cell : Cal P w K mg base k "_law_cell" ["_law_script", "_law_k"] m_law_cell) {m_law_held : List D → Res FD} (h_law_held : Cal P w K mg base k "_law_held" ["_law_thing"] m_law_held) {m_law_small : List D → Res FD} (h_law_small : Cal P w K mg base k "_law_small" ["_law_script", "_law_k"] m_law_small) : Cal P w K mg base (k + 1) "_law_end" ["_law_script", "_law_k", "_law_rows"] (runG 4 (g_law_end m_law_cell m_law_held m_law_small)) := by
  refine Cal.of d sc_law_end fun cdv A outer s H E hr => ?_
  have nd := sc_law_end.nd
  have hu : (cxOf (L2.CX P w) P w K mg base ["_law_script", "_law_k", "_law_rows", "_law_more"] "_law_end" (defScope s_law_end) f cdv A outer s H E).A.units + 64 < cLine := hr.units
  have hc : (cxOf (L2.CX P w) P w K mg base ["_law_script", "_law_k", "_law_rows", "_law_more"] "_law_end" (defScope s_law_end) f cdv A outer s H E).calm = true := rfl
  have tk : Takes (cxOf (L2.CX P w) P w K mg base ["_law_script", "_law_k", "_law_rows", "_law_more"] "_law_end" (defScope s_law_end) f cdv A outer s H E) (WofE E) := takes_of rfl rfl rfl rfl
  exact sb_cons (ss_asg (ps_set (i := 3) nd rfl (Or.inl rfl) (ev_fn h_law_cell hr rfl tk rfl (ea_cons (ev_var (pv 0)) (ea_cons (ev_var (pv 1)) (ea_nil))) (gCons_len (gCons_len gNil_len))))) (sb_cons (ss_if (PW.pt (ew_and (et_cmp op_gtV (ev_op op_modV (ev_var (pv 3)) (ev_con pe_int)) (ev_con pe_int) (nomark _)) (ew_and1 (et_cmp (op_neV hu) (ev_var (pv 2)) (ev_lst (el_nil)) (nomark _))))) (sb_one (ss_ret (ps_ret (ev_fn h_law_held hr rfl tk rfl (ea_cons (ev_ix hu (ev_ix hu (ev_var (pv 2)) (ev_op op_modV (ev_op op_divV (ev_var (pv 3)) (ev_con pe_int)) (ev_callB call_lenV rfl T.b_len (by decide +kernel) (ea_cons (ev_var (pv 2)) (ea_nil)))) (fun _ _ => rfl)) (ev_con pe_int) (fun _ _ => rfl)) (ea_nil)) (gCons_len gNil_len))))) (sb_nil)) (sb_one (ss_ret (ps_ret (ev_fn h_law_small hr rfl tk rfl (ea_cons (ev_var (pv 0)) (ea_cons (ev_op op_addV (ev_var (pv 1)) (ev_con pe_int)) (ea_nil))) (gCons_len (gCons_len gNil_len)))))))
/-! law_keys_due -/
abbrev s_law_keys_due : Stmt := top 36
theorem sc_law_keys_due : FnScope ["_law_rows", "_law_low", "_law_high", "_law_keys", "_law_row", "_law_good"] ["_law_rows", "_law_low", "_law_high"] (defScope s_law_keys_due) := ⟨rfl, rfl, rfl, by decide +kernel, rfl, by decide +kernel, by decide +kernel⟩
def g_law_keys_due (m_law_compare : List D → Res FD) : GS := gSeq (gSet 3 [] (gLst (lNil))) (gSeq (gFor [0] [4] (gItL (gVar 0)) t1 (gSeq (gSet 5 [1, 4] (gOrV (gIsN (gVar 1)) (g2 (gCall (gCons (g2 (gVar 4) (gCon (.int 0)) (fun x y => ofO (ixD x.2 y.2))) (gCons (gVar 1) (gNil))) m_law_compare) (fun ρ => ((gCon (.int 1)) ρ).bind fun x => ofO (negD x.2)) (fun x y => ofO ((fB gtD) x.2 y.2))))) (gIfS [2, 4, 5] (gAndT (gTest (gVar 5)) (gOrT (gTest (gIsN (gVar 2))) (gTest (g2 (gCall (gCons (g2 (gVar 4) (gCon (.int 0)) (fun x y => ofO (ixD x.2 y.2))) (gCons (gVar 2) (gNil))) m_law_compare) (gCon (.int 1)) (fun x y => ofO ((fB ltD) x.2 y.2)))))) (gApp 3 [4] (g2 (gVar 4) (gCon (.int 1)) (fun x y => ofO (ixD x.2 y.2)))) (gPass)))) (gRetV 3))
theorem ok_law_keys_due (T : Txt K mg cO) {f : Addr} {fd : FuncData} (d : Dfn K mg "_law_keys_due" s_law_keys_due ["_law_rows", "_law_low", "_law_high"] f fd) {m_law_compare : List D → Res FD} (h_law_compare : Cal P w K mg base k "_law_compare" ["_law_one", "_law_other"] m_law_compare) : Cal P w K mg base (k + 1) "_law_keys_due" ["_law_rows", "_law_low", "_law_high"] (runG 6 (g_law_keys_due m_law_compare)) := by
  refine Cal.of d sc_law_keys_due fun cdv A outer s H E hr => ?_
  have nd := sc_law_keys_due.nd
  have hu : (cxOf (L2.CX P w) P w K mg base ["_law_rows", "_law_low", "_law_high", "_law_keys", "_law_row", "_law_good"] "_law_keys_due" (defScope s_law_keys_due) f cdv A outer s H E).A.units + 64 < cLine := hr.units
  have hc : (cxOf (L2.CX P w) P w K mg base ["_law_rows", "_law_low", "_law_high", "_law_keys", "_law_row", "_law_good"] "_law_keys_due" (defScope s_law_keys_due) f cdv A outer s H E).calm = true := rfl
  have tk : Takes (cxOf (L2.CX P w) P w K mg base ["_law_rows", "_law_low", "_law_high", "_law_keys", "_law_row", "_law_good"] "_law_keys_due" (defScope s_law_keys_due) f cdv A outer s H E) (WofE E) := takes_of rfl rfl rfl rfl
  have hp := passes_of (X := cxOf (L2.CX P w) P w K mg base ["_law_rows", "_law_low", "_law_high", "_law_keys", "_law_row", "_law_good"] "_law_keys_due" (defScope s_law_keys_due) f cdv A outer s H E) rfl
  exact sb_cons (ss_asg (ps_set (i := 3) nd rfl (Or.inl rfl) (ev_lst (el_nil)))) (sb_cons (ss_for hp hc (ei_list (ev_var (pv 0))) (pg_name (i := 4) nd rfl (Or.inl rfl)) tgt1 (sb_cons (ss_asg (ps_set (i := 5) nd rfl (Or.inl rfl) (ev_or (ev_pc (ec_isN (ev_var (pv 1))) rfl) (ev_one (ev_cmp op_gtV (ev_fn h_law_compare hr rfl tk rfl (ea_cons (ev_ix hu (ev_var (pv 4)) (ev_con pe_int) (fun _ _ => rfl)) (ea_cons (ev_var (pv 1)) (ea_nil))) (gCons_len (gCons_len gNil_len))) (ev_neg (ev_con pe_int)) (nomark _)))))) (sb_one (ss_if (PW.pt (ew_and (et_val (ev_var (pv 5))) (ew_and1 (PW.pt (ew_or (et_pc (ec_isN (ev_var (pv 2))) rfl) (ew_or1 (et_cmp op_ltV (ev_fn h_law_compare hr rfl tk rfl (ea_cons (ev_ix hu (ev_var (pv 4)) (ev_con pe_int) (fun _ _ => rfl)) (ea_cons (ev_var (pv 2)) (ea_nil))) (gCons_len (gCons_len gNil_len))) (ev_con pe_int) (nomark _)))))))) (sb_one (ss_app (ps_expr (pe_bm PySem.F.plainAttrs_list PySem.F.slot_list_append PySem.F.type_list_append mt_append (pv 3) (pa_cons (ev_ix hu (ev_var (pv 4)) (ev_con pe_int) (fun _ _ => rfl)) pa_nil))))) (sb_nil))))) (sb_one (ss_retV (ps_ret (pv 3)))))
/-! law -/
abbrev s_law : Stmt := top 37
theorem sc_law : FnScope ["_law_script", "_law_path_here", "_law_records_here", "_law_order", "_law_key", "_law_rows", "_law_low", "_law_high", "_law_held_here", "_law_row"] ["_law_script"] (defScope s_law) := ⟨rfl, rfl, rfl, by decide +kernel, rfl, by decide +kernel, by decide +kernel⟩
noncomputable def g_law (cO : Addr) (m_law_path : List D → Res FD) (m_law_records : List D → Res FD) (R_Order : MR) (R_o_put : MR) (m_law_rows_due : List D → Res FD) (m_law_end : List D → Res FD) (m_law_held : List D → Res FD) (m_o_between : List D → Res FD) (m_law_keys_due : List D → Res FD) (m_law_same : List D → Res FD) : GS := gSeq (gSet 1 [0] (gCall (gCons (gVar 0) (gCons (gCon (.int 1)) (gNil))) m_law_path)) (gSeq (gSet 2 [0] (gCall (gCons (gVar 0) (gCons (gCon (.int 10)) (gNil))) m_law_records)) (gSeq (gSet 3 [1] (gMake cO R_Order (gCons (gVar 1) (gNil)))) (gSeq (gForD 2 [2] [4] keysD t1 (gMethS cO 3 "put" R_o_put [2, 4] (gCons (gVar 4) (gCons (g2 (gVar 2) (gVar 4) (fun x y => ofO (ixD x.2 y.2))) (gNil))))) (gSeq (gSet 5 [1, 2] (gCall (gCons (gVar 2) (gCons (gVar 1) (gNil))) m_law_rows_due)) (gSeq (gSet 6 [0, 5] (gCall (gCons (gVar 0) (gCons (gCon (.int 5)) (gCons (gVar 5) (gNil)))) m_law_end)) (gSeq (gSet 7 [0, 5] (gCall (gCons (gVar 0) (gCons (gCon (.int 8)) (gCons (gVar 5) (gNil)))) m_law_end)) (gSeq (gSet 8 [6, 7] (gCall (gCons (gLst (lCons (gVar 6) (lCons (gVar 7) (lNil)))) (gNil)) m_law_held)) (gSeq (gDropApp [3, 6, 7] (gMethV cO "between" (gVar 3) (gCons (gVar 6) (gCons (gVar 7) (gNil))) (fun ds => m_o_between (ds ++ List.replicate 0 D.non))) (gCon (.int 0))) (gSeq (gIfS [3, 5, 6, 7] (gTest (g2 (gMethV cO "between" (gVar 3) (gCons (gVar 6) (gCons (gVar 7) (gNil))) (fun ds => m_o_between (ds ++ List.replicate 0 D.non))) (gCall (gCons (gVar 5) (gCons (gVar 6) (gCons (gVar 7) (gNil)))) m_law_keys_due) (fun x y => ofO ((fB fun a b => (eqN 32 a b).map (!·)) x.2 y.2)))) (gRet [] (gCon (.bl false))) (gPass)) (gSeq (gIfS [3, 5, 6] (gTest (g2 (gMethV cO "between" (gVar 3) (gCons (gVar 6) (gNil)) (fun ds => m_o_between (ds ++ List.replicate 1 D.non))) (gCall (gCons (gVar 5) (gCons (gVar 6) (gCons (gCon .non) (gNil)))) m_law_keys_due) (fun x y => ofO ((fB fun a b => (eqN 32 a b).map (!·)) x.2 y.2)))) (gRet [] (gCon (.bl false))) (gPass)) (gSeq (gIfS [3, 5, 6, 7] (gOrT (gTest (g2 (gMethK cO "between" (gVar 3) (gCons (gVar 7) gNil) (fun ds => D.non :: ds) m_o_between) (gCall (gCons (gVar 5) (gCons (gCon .non) (gCons (gVar 7) (gNil)))) m_law_keys_due) (fun x y => ofO ((fB fun a b => (eqN 32 a b).map (!·)) x.2 y.2)))) (gTest (g2 (gMethK cO "between" (gVar 3) (gCons (gVar 6) gNil) (fun ds => ds ++ [D.non]) m_o_between) (gMethV cO "between" (gVar 3) (gCons (gVar 6) (gNil)) (fun ds => m_o_between (ds ++ List.replicate 1 D.non))) (fun x y => ofO ((fB fun a b => (eqN 32 a b).map (!·)) x.2 y.2))))) (gRet [] (gCon (.bl false))) (gPass)) (gSeq (gIfS [3, 7] (gTest (g2 (gMethV cO "between" (gVar 3) (gCons (gCon .non) (gCons (gVar 7) (gNil))) (fun ds => m_o_between (ds ++ List.replicate 0 D.non))) (gMethK cO "between" (gVar 3) (gCons (gVar 7) gNil) (fun ds => D.non :: ds) m_o_between) (fun x y => ofO ((fB fun a b => (eqN 32 a b).map (!·)) x.2 y.2)))) (gRet [] (gCon (.bl false))) (gPass)) (gRet [3, 5, 6, 7, 8] (gAndV (g2 (gMethV cO "between" (gVar 3) gNil (fun ds => m_o_between (ds ++ List.replicate 2 D.non))) (gComp [9] [9] (gItL (gVar 5)) t1 (cYes) (g2 (gVar 9) (gCon (.int 1)) (fun x y => ofO (ixD x.2 y.2)))) (fun x y => ofO ((fB (eqN 32)) x.2 y.2))) (gCall (gCons (gVar 8) (gCons (gLst (lCons (gVar 6) (lCons (gVar 7) (lNil)))) (gNil))) m_law_same)))))))))))))))
theorem fn_law (T : Txt K mg cO) {f : Addr} {fd : FuncData} (F : Fun K "law" "law" s_law f fd) {m_law_path : List D → Res FD} (h_law_path : Cal P w K mg base k "_law_path" ["_law_script", "_law_k"] m_law_path) {m_law_records : List D → Res FD} (h_law_records : Cal P w K mg base k "_law_records" ["_law_script", "_law_high"] m_law_records) {R_Order : MR} (h_Order : CalK P w K mg base cO k0 ["self", "path"] 1 R_Order) (hk0 : k0 + 1 ≤ k) {R_o_put : MR} (h_o_put : CalM P w K mg base cO k "put" ["self", "key", "thing"] 2 R_o_put) {m_law_rows_due : List D → Res FD} (h_law_rows_due : Cal P w K mg base k "_law_rows_due" ["_law_kept", "_law_path_here"] m_law_rows_due) {m_law_end : List D → Res FD} (h_law_end : Cal P w K mg base k "_law_end" ["_law_script", "_law_k", "_law_rows"] m_law_end) {m_law_held : List D → Res FD} (h_law_held : Cal P w K mg base k "_law_held" ["_law_thing"] m_law_held) {m_o_between : List D → Res FD} (h_o_between : CalV P w K mg base cO k "between" 3 2 m_o_between) {m_law_keys_due : List D → Res FD} (h_law_keys_due : Cal P w K mg base k "_law_keys_due" ["_law_rows", "_law_low", "_law_high"] m_law_keys_due) (h_o_between_most : CalW P w K mg base cO k "between" 3 "most" (fun vs zs => vs ++ [.non] ++ zs) m_o_between) (h_o_between_least : CalW P w K mg base cO k "between" 3 "least" (fun vs zs => vs ++ zs ++ [.non]) m_o_between) {m_law_same : List D → Res FD} (h_law_same : Cal P w K mg base k "_law_same" ["_law_one", "_law_other"] m_law_same) : FnOk P w K mg base (L2.CX P w) (k + 1) f fd ["_law_script"] (spD ⟨K, mg⟩ 1 (runG 10 (g_law cO m_law_path m_law_records R_Order R_o_put m_law_rows_due m_law_end m_law_held m_o_between m_law_keys_due m_law_same))) := by
  refine ok_def F sc_law fun cdv A outer s H E hr => ?_
  have nd := sc_law.nd
  have hu : (cxOf (L2.CX P w) P w K mg base ["_law_script", "_law_path_here", "_law_records_here", "_law_order", "_law_key", "_law_rows", "_law_low", "_law_high", "_law_held_here", "_law_row"] "law" (defScope s_law) f cdv A outer s H E).A.units + 64 < cLine := hr.units
  have hc : (cxOf (L2.CX P w) P w K mg base ["_law_script", "_law_path_here", "_law_records_here", "_law_order", "_law_key", "_law_rows", "_law_low", "_law_high", "_law_held_here", "_law_row"] "law" (defScope s_law) f cdv A outer s H E).calm = true := rfl
  have tk : Takes (cxOf (L2.CX P w) P w K mg base ["_law_script", "_law_path_here", "_law_records_here", "_law_order", "_law_key", "_law_rows", "_law_low", "_law_high", "_law_held_here", "_law_row"] "law" (defScope s_law) f cdv A outer s H E) (WofE E) := takes_of rfl rfl rfl rfl
  have hp := passes_of (X := cxOf (L2.CX P w) P w K mg base ["_law_script", "_law_path_here", "_law_records_here", "_law_order", "_law_key", "_law_rows", "_law_low", "_law_high", "_law_held_here", "_law_row"] "law" (defScope s_law) f cdv A outer s H E) rfl
  exact sb_cons (ss_asg (ps_set (i := 1) nd rfl (Or.inl rfl) (ev_fn h_law_path hr rfl tk rfl (ea_cons (ev_var (pv 0)) (ea_cons (ev_con pe_int) (ea_nil))) (gCons_len (gCons_len gNil_len))))) (sb_cons (ss_asg (ps_set (i := 2) nd rfl (Or.inl rfl) (ev_fn h_law_records hr rfl tk rfl (ea_cons (ev_var (pv 0)) (ea_cons (ev_con pe_int) (ea_nil))) (gCons_len (gCons_len gNil_len))))) (sb_cons (ss_asg (ps_set (i := 3) nd rfl (Or.inl rfl) (ev_makeC h_Order (hr.mono hk0) rfl T.g_Order (ea_cons (ev_var (pv 1)) (ea_nil)) (gCons_len gNil_len)))) (sb_cons (ss_forD hp hc (pi_keys (pv 2)) wk_keys (pg_name (i := 4) nd rfl (Or.inl rfl)) tgt1 (sb_one (ss_callM h_o_put T.cls hr (pv 3) (ea_cons (ev_var (pv 4)) (ea_cons (ev_ix hu (ev_var (pv 2)) (ev_var (pv 4)) (fun _ _ => rfl)) (ea_nil))) (gCons_len (gCons_len gNil_len))))) (sb_cons (ss_asg (ps_set (i := 5) nd rfl (Or.inl rfl) (ev_fn h_law_rows_due hr rfl tk rfl (ea_cons (ev_var (pv 2)) (ea_cons (ev_var (pv 1)) (ea_nil))) (gCons_len (gCons_len gNil_len))))) (sb_cons (ss_asg (ps_set (i := 6) nd rfl (Or.inl rfl) (ev_fn h_law_end hr rfl tk rfl (ea_cons (ev_var (pv 0)) (ea_cons (ev_con pe_int) (ea_cons (ev_var (pv 5)) (ea_nil)))) (gCons_len (gCons_len (gCons_len gNil_len)))))) (sb_cons (ss_asg (ps_set (i := 7) nd rfl (Or.inl rfl) (ev_fn h_law_end hr rfl tk rfl (ea_cons (ev_var (pv 0)) (ea_cons (ev_con pe_int) (ea_cons (ev_var (pv 5)) (ea_nil)))) (gCons_len (gCons_len (gCons_len gNil_len)))))) (sb_cons (ss_asg (ps_set (i := 8) nd rfl (Or.inl rfl) (ev_fn h_law_held hr rfl tk rfl (ea_cons (ev_lst (el_cons (ev_var (pv 6)) (el_cons (ev_var (pv 7)) (el_nil)))) (ea_nil)) (gCons_len gNil_len)))) (sb_cons (ss_dropApp (ps_expr (pe_bm PySem.F.plainAttrs_list PySem.F.slot_list_append PySem.F.type_list_append mt_append (ev_callV (i := 0) h_o_between T.cls hr (by decide) (ev_var (pv 3)) (ea_cons (ev_var (pv 6)) (ea_cons (ev_var (pv 7)) (ea_nil))) rfl (gCons_len (gCons_len gNil_len))) (pa_cons (ev_con pe_int) pa_nil)))) (sb_cons (ss_if (et_cmp (op_neV hu) (ev_callV (i := 0) h_o_between T.cls hr (by decide) (ev_var (pv 3)) (ea_cons (ev_var (pv 6)) (ea_cons (ev_var (pv 7)) (ea_nil))) rfl (gCons_len (gCons_len gNil_len))) (ev_fn h_law_keys_due hr rfl tk rfl (ea_cons (ev_var (pv 5)) (ea_cons (ev_var (pv 6)) (ea_cons (ev_var (pv 7)) (ea_nil)))) (gCons_len (gCons_len (gCons_len gNil_len)))) (nomark _)) (sb_one (ss_ret (ps_ret (ev_con pe_bl)))) (sb_nil)) (sb_cons (ss_if (et_cmp (op_neV hu) (ev_callV (i := 1) h_o_between T.cls hr (by decide) (ev_var (pv 3)) (ea_cons (ev_var (pv 6)) (ea_nil)) rfl (gCons_len gNil_len)) (ev_fn h_law_keys_due hr rfl tk rfl (ea_cons (ev_var (pv 5)) (ea_cons (ev_var (pv 6)) (ea_cons (ev_con pe_non) (ea_nil)))) (gCons_len (gCons_len (gCons_len gNil_len)))) (nomark _)) (sb_one (ss_ret (ps_ret (ev_con pe_bl)))) (sb_nil)) (sb_cons (ss_if (PW.pt (ew_or (et_cmp (op_neV hu) (ev_callW h_o_between_most T.cls hr (fun H d v x z h1 h2 => ⟨v, _, rfl, h1, .non, _, rfl, rfl, z, _, rfl, h2, rfl⟩) (fun _ => rfl) (ev_var (pv 3)) (ev_var (pv 7))) (ev_fn h_law_keys_due hr rfl tk rfl (ea_cons (ev_var (pv 5)) (ea_cons (ev_con pe_non) (ea_cons (ev_var (pv 7)) (ea_nil)))) (gCons_len (gCons_len (gCons_len gNil_len)))) (nomark _)) (ew_or1 (et_cmp (op_neV hu) (ev_callW h_o_between_least T.cls hr (fun H d v x z h1 h2 => ⟨v, _, rfl, h1, z, _, rfl, h2, .non, _, rfl, rfl, rfl⟩) (fun _ => rfl) (ev_var (pv 3)) (ev_var (pv 6))) (ev_callV (i := 1) h_o_between T.cls hr (by decide) (ev_var (pv 3)) (ea_cons (ev_var (pv 6)) (ea_nil)) rfl (gCons_len gNil_len)) (nomark _))))) (sb_one (ss_ret (ps_ret (ev_con pe_bl)))) (sb_nil)) (sb_cons (ss_if (et_cmp (op_neV hu) (ev_callV (i := 0) h_o_between T.cls hr (by decide) (ev_var (pv 3)) (ea_cons (ev_con pe_non) (ea_cons (ev_var (pv 7)) (ea_nil))) rfl (gCons_len (gCons_len gNil_len))) (ev_callW h_o_between_most T.cls hr (fun H d v x z h1 h2 => ⟨v, _, rfl, h1, .non, _, rfl, rfl, z, _, rfl, h2, rfl⟩) (fun _ => rfl) (ev_var (pv 3)) (ev_var (pv 7))) (nomark _)) (sb_one (ss_ret (ps_ret (ev_con pe_bl)))) (sb_nil)) (sb_one (ss_ret (ps_ret (ev_and (ev_cmp (op_eqV hu) (ev_callV0 (i := 2) h_o_between T.cls hr (by decide) (ev_var (pv 3)) rfl) (ev_comp (own := [("_law_row", 9)]) hc nd (ei_list (ev_var (pv 5))) (blkOk_by (by kernel_rfl)) tgt1 (by decide) (fun _ _ _ _ _ => pg_name (i := 9) nd rfl (Or.inl rfl)) tt_yes (fun _ _ _ _ _ => pts_nil) (fun _ _ _ _ _ => ev_ix hu (ev_var (pv 9)) (ev_con pe_int) (fun _ _ => rfl))) (nomark _)) (ev_one (ev_fn h_law_same hr rfl tk rfl (ea_cons (ev_var (pv 8)) (ea_cons (ev_lst (el_cons (ev_var (pv 6)) (el_cons (ev_var (pv 7)) (el_nil)))) (ea_nil))) (gCons_len (gCons_len gNil_len))))))))))))))))))))
end
end G
end

section
set_option Elab.async false
set_option maxRecDepth 100000
set_option linter.all false
set_option maxHeartbeats 4000000
namespace G
open PySem PySem.Spec PyProof.Rows L2 VL
/-! the defs, one behind the other -/
def m_copied : Nat → List D → Res FD
  | 0 => fun _ => .bad
  | n + 1 => runG 4 (g_copied (m_copied n))
def m_rank : Nat → List D → Res FD
  | 0 => fun _ => .bad
  | n + 1 => runG 3 (g_rank (m_rank n))
def m_before : List D → Res FD := runG 2 (g_before (m_rank 12))
def m_leads_on : List D → Res FD := runG 2 g_leads_on
def m_reached : List D → Res FD := runG 4 (g_reached m_leads_on)
def m_thing_at : List D → Res FD := runG 2 (g_thing_at (m_copied 12) m_reached)
def m_has : List D → Res FD := runG 4 (g_has m_leads_on)
def R_init (cO : Addr) : MR := MOk 2 (g_o_init cO) cO
def R_cleared (cO : Addr) : MR := MOk 3 (g_o_cleared cO) cO
noncomputable def R_put (cO : Addr) : MR := MOk 3 (g_o_put cO (R_cleared cO) m_has m_thing_at) cO
noncomputable def m_keys (cO : Addr) : List D → Res FD := runG 5 (g_o_keys_in_order cO (m_rank 12))
noncomputable def m_between (cO : Addr) : List D → Res FD := runG 5 (g_o_between cO (m_keys cO) m_before)
def m_cell : List D → Res FD := runG 3 g_law_cell
def m_name_by : List D → Res FD := runG 8 g_law_name_by
def m_signs : List D → Res FD := runG 1 g_law_signs
def m_text_by : List D → Res FD := runG 7 (g_law_text_by m_signs)
def m_number_by : List D → Res FD := runG 1 g_law_number_by
def m_thing_by : Nat → List D → Res FD
  | 0 => fun _ => .bad
  | n + 1 => runG 8 (g_law_thing_by m_cell m_number_by m_text_by (m_thing_by n) m_name_by)
def m_kind : List D → Res FD := runG 1 g_law_kind
def m_compare : Nat → List D → Res FD
  | 0 => fun _ => .bad
  | n + 1 => runG 8 (g_law_compare m_kind (runG 4 (g_law_rows_compare (m_compare n))))
def m_same : List D → Res FD := runG 2 (g_law_same m_kind (m_compare 24))
def m_held : Nat → List D → Res FD
  | 0 => fun _ => .bad
  | n + 1 => runG 3 (g_law_held (m_held n))
def m_small : List D → Res FD := runG 4 (g_law_small m_cell (m_thing_by 4))
def m_names : List D → Res FD := runG 4 (g_law_names m_cell m_name_by)
def m_record : List D → Res FD := runG 5 (g_law_record m_cell m_small m_names)
def m_records : List D → Res FD := runG 6 (g_law_records m_cell m_record)
def m_path : List D → Res FD := runG 6 (g_law_path m_cell m_names)
def m_led : List D → Res FD := runG 3 g_law_led
def m_rows_due : List D → Res FD := runG 6 (g_law_rows_due m_led (m_compare 24) (m_held 12))
def m_end : List D → Res FD := runG 4 (g_law_end m_cell (m_held 12) m_small)
def m_keys_due : List D → Res FD := runG 6 (g_law_keys_due (m_compare 24))
noncomputable def m_law (cO : Addr) : List D → Res FD := runG 10 (g_law cO m_path m_records (R_init cO) (R_put cO) m_rows_due m_end (m_held 12) (m_between cO) m_keys_due m_same)
end G
end

section
set_option Elab.async false
set_option maxRecDepth 100000
set_option linter.all false
set_option maxHeartbeats 4000000
namespace G
open PySem PySem.Spec PyProof.Rows L2 VL
/-! things -/
def TD (b : Nat) : Nat → D → Prop
  | _, .non => True
  | _, .bl _ => True
  | _, .int _ => True
  | _, .str _ => True
  | n + 1, .lst ds => ds.length < b ∧ ∀ d ∈ ds, TD b n d
  | n + 1, .dct kds => kds.length < b ∧ (kds.map (·.1)).Nodup ∧ (∃ ks : List Str, kds.map (·.1) = ks.map Sum.inr) ∧ ∀ kv ∈ kds, TD b n kv.2
  | _, _ => False
theorem TD.mono {b b' : Nat} (hb : b ≤ b') : ∀ {n m : Nat} {d : D}, n ≤ m → TD b n d → TD b' m d
  | n, m, .non, _, _ => by cases m <;> trivial
  | n, m, .bl _, _, _ => by cases m <;> trivial
  | n, m, .int _, _, _ => by cases m <;> trivial
  | n, m, .str _, _, _ => by cases m <;> trivial
  | n + 1, m + 1, .lst ds, h, ⟨h1, h2⟩ => ⟨Nat.lt_of_lt_of_le h1 hb, fun d hd => TD.mono hb (Nat.le_of_succ_le_succ h) (h2 d hd)⟩
  | n + 1, m + 1, .dct ds, h, ⟨h1, h2, h3, h4⟩ => ⟨Nat.lt_of_lt_of_le h1 hb, h2, h3, fun d hd => TD.mono hb (Nat.le_of_succ_le_succ h) (h4 d hd)⟩
  | 0, m, .lst _, _, h => h.elim
  | 0, m, .dct _, _, h => h.elim
  | 0, m, .tup _, _, h => h.elim
  | 0, m, .scr _, _, h => h.elim
  | 0, m, .ins _ _ _, _, h => h.elim
  | n + 1, m, .tup _, _, h => h.elim
  | n + 1, m, .scr _, _, h => h.elim
  | n + 1, m, .ins _ _ _, _, h => h.elim
theorem td_sz {b : Nat} {x : Nat} (h : x < b) (hb : b ≤ 1000) : x ≤ sizeLine := Nat.le_trans (Nat.le_of_lt (Nat.lt_of_lt_of_le h hb)) (by decide)
theorem compL_map {t : D → Option (List D)} {is : List Nat} {g : GE} {ρ : List (Option D)} {f : FD → FD} : ∀ {xs : List FD}, (∀ x ∈ xs, ∃ as, t x.2 = some as ∧ g (setsD ρ is as) = .ok (f x)) → compL t is cYes g ρ xs = .ok (xs.map f)
  | [], _ => rfl
  | x :: xs, h => by
    obtain ⟨as, h1, h2⟩ := h x List.mem_cons_self
    unfold compL
    rw [h1]
    simp only [cYes, Res.nox_ok, Res.bind_ok, if_true]
    rw [h2, compL_map fun y hy => h y (List.mem_cons_of_mem _ hy)]
    rfl
theorem allT_map {ds : List D} : allT (ds.map fun d => (Fl.T, d)) = true := by unfold allT; simp
theorem isT_list (ds : List D) : isT "list" (.lst ds) = true := rfl
theorem isT_dict (ds : List (Key × D)) : isT "dict" (.dct ds) = true := rfl
theorem putD_new {kds : List (Key × D)} {k : Key} {d : D} (h : k ∉ kds.map (·.1)) : putD kds k d = kds ++ [(k, d)] := by
  unfold putD
  rw [if_neg]
  intro h'
  exact h (any_key.mp h')
theorem keyOf_kD (k : Key) : keyOf (kD k) = some k := by cases k <;> rfl
theorem kD_atom (k : Key) : (kD k).atom = true := by cases k <;> rfl
theorem sh_kD (k : Key) : sh (kD k) = (.T, kD k) := by unfold sh; rw [kD_atom]; rfl
theorem sh_lst (ds : List D) : sh (.lst ds) = (.S, .lst ds) := rfl
theorem sh_dct (ds : List (Key × D)) : sh (.dct ds) = (.S, .dct ds) := rfl
theorem sh_scr (ns : List Int) : sh (.scr ns) = (.S, .scr ns) := rfl
theorem sh_int (i : Int) : sh (.int i) = (.T, .int i) := rfl
theorem sh_str (i : Str) : sh (.str i) = (.T, .str i) := rfl
theorem sh_bl (i : Bool) : sh (.bl i) = (.T, .bl i) := rfl
theorem sh_non : sh .non = (.T, .non) := rfl
theorem copied_dct {n : Nat} {d0 : D} : ∀ {suf pre : List (Key × D)} {x y : Option FD}, (∀ kv ∈ suf, m_copied n [kv.2] = .ok (.T, kv.2)) → ((pre ++ suf).map (·.1)).Nodup → (pre ++ suf).length < 1000 → d0.atom = false →
    ∃ x' y', forL t2 [2, 3] (gSetIt 1 [2, 3] (gVar 2) (gCall (VL.gCons (gVar 3) VL.gNil) (m_copied n))) (itemsD suf) [some (.S, d0), some (.T, .dct pre), x, y] = .nx [some (.S, d0), some (.T, .dct (pre ++ suf)), x', y']
  | [], pre, x, y, _, _, _, _ => ⟨x, y, by simp [itemsD, forL]⟩
  | (k, v) :: suf, pre, x, y, h, nd, hl, ha => by
    obtain ⟨x', y', e⟩ := copied_dct (n := n) (d0 := d0) (suf := suf) (pre := pre ++ [(k, v)]) (x := some (sh (kD k))) (y := some (sh v)) (fun kv hkv => h kv (List.mem_cons_of_mem _ hkv)) (by simpa using nd) (by simpa using hl) ha
    refine ⟨x', y', ?_⟩
    have hk : k ∉ pre.map (·.1) := by
      simp only [List.map_append, List.map_cons] at nd
      intro hk
      exact (List.nodup_append.mp nd).2.2 k hk k List.mem_cons_self rfl
    have hlen : pre.length < sizeLine := by
      have : pre.length < 1000 := by simp at hl; omega
      exact Nat.lt_of_lt_of_le this (by decide)
    have hm := h (k, v) List.mem_cons_self
    have hm : m_copied n [v] = .ok (.T, v) := hm
    have h2 : sh v = ((if v.atom = true then Fl.T else Fl.S), v) := rfl
    simp only [itemsD, List.map_cons, forL, t2]
    simp only [setsF, List.set_cons_succ, List.set_cons_zero, gSetIt, List.getElem?_cons_succ, List.getElem?_cons_zero, sh_kD, h2]
    simp [viewF, gCall, VL.gCons, gVar, VL.gNil, hm, viaE, sh_kD, setD, keyOf_kD, hlen, putD_new hk, mutV]
    rw [← List.append_cons] at e
    simp only [itemsD, sh_kD, h2] at e
    rw [← e]
theorem copied_ok : ∀ {n m : Nat} {d : D}, TD 60 n d → n < m → m_copied m [d] = .ok (.T, d)
  | n, 0, d, _, h => absurd h (Nat.not_lt_zero _)
  | n, m + 1, .non, _, _ => rfl
  | n, m + 1, .bl _, _, _ => rfl
  | n, m + 1, .int _, _, _ => rfl
  | n, m + 1, .str _, _, _ => rfl
  | n, m + 1, .tup _, h, _ => by cases n <;> exact h.elim
  | n, m + 1, .scr _, h, _ => by cases n <;> exact h.elim
  | n, m + 1, .ins _ _ _, h, _ => by cases n <;> exact h.elim
  | 0, m + 1, .lst _, h, _ => h.elim
  | 0, m + 1, .dct _, h, _ => h.elim
  | n + 1, m + 1, .lst ds, ⟨h1, h2⟩, h => by
    have e1 : (compL t1 [3] cYes (gCall (VL.gCons (gVar 3) VL.gNil) (m_copied m)) [some (.lst ds), none, none, none] (ds.map sh)) = .ok ((ds.map sh).map fun x => (.T, x.2)) := compL_map (f := fun x => (.T, x.2)) fun x hx => by
      obtain ⟨d, hd, rfl⟩ := List.mem_map.mp hx
      refine ⟨[d], rfl, ?_⟩
      simp [setsD, gCall, VL.gCons, gVar, VL.gNil, copied_ok (h2 d hd) (Nat.lt_of_succ_lt_succ h)]
    have e2 : (ds.map sh).map (fun x => ((.T, x.2) : FD)) = ds.map fun d => (.T, d) := by simp
    show runG 4 (g_copied (m_copied m)) [.lst ds] = _
    simp [runG, g_copied, gSeq, gIfS, gTest, gIsi, gVar, enter, viewF, viaE, isT_list, toB, gRet, gComp, gItL, itemsL, sh_lst, wipeD, td_sz h1]
    rw [e1, e2]
    simp [mkL, allT_map]
    exact List.map_id _
  | n + 1, m + 1, .dct kds, ⟨h1, h2, h3, h4⟩, h => by
    obtain ⟨x, y, e⟩ := copied_dct (n := m) (d0 := .dct kds) (suf := kds) (pre := []) (x := none) (y := none) (fun kv hkv => copied_ok (h4 kv hkv) (Nat.lt_of_succ_lt_succ h)) (by simpa using h2) (by simp; omega) rfl
    show runG 4 (g_copied (m_copied m)) [.dct kds] = _
    have hn : isT "list" (.dct kds) = false := rfl
    simp [runG, g_copied, gSeq, gIfS, gTest, gIsi, gVar, enter, viewF, viaE, isT_dict, hn, toB, gSet, gCon, putV, gForD, leakF, sh_dct, gPass]
    simp at e
    rw [e]
    simp [Fo.nox, gRetV]
end G
end

section
set_option Elab.async false
set_option maxRecDepth 100000
set_option linter.all false
set_option maxHeartbeats 4000000
namespace G
open PySem PySem.Spec PyProof.Rows L2 VL
theorem i_bool_non : isT "bool" .non = false := show (kitB "NoneType" "bool").getD false = false by decide +kernel
theorem i_bool_bl (x : Bool) : isT "bool" (.bl x) = true := show (kitB "bool" "bool").getD false = true by decide +kernel
theorem i_bool_int (x : Int) : isT "bool" (.int x) = false := show (kitB "int" "bool").getD false = false by decide +kernel
theorem i_bool_str (x : Str) : isT "bool" (.str x) = false := show (kitB "str" "bool").getD false = false by decide +kernel
theorem i_bool_lst (x : List D) : isT "bool" (.lst x) = false := show (kitB "list" "bool").getD false = false by decide +kernel
theorem i_bool_tup (x : List D) : isT "bool" (.tup x) = false := show (kitB "tuple" "bool").getD false = false by decide +kernel
theorem i_bool_dct (x : List (Key × D)) : isT "bool" (.dct x) = false := show (kitB "dict" "bool").getD false = false by decide +kernel
theorem i_bool_scr (x : List Int) : isT "bool" (.scr x) = false := show (kitB "list" "bool").getD false = false by decide +kernel
theorem i_int_non : isT "int" .non = false := show (kitB "NoneType" "int").getD false = false by decide +kernel
theorem i_int_bl (x : Bool) : isT "int" (.bl x) = true := show (kitB "bool" "int").getD false = true by decide +kernel
theorem i_int_int (x : Int) : isT "int" (.int x) = true := show (kitB "int" "int").getD false = true by decide +kernel
theorem i_int_str (x : Str) : isT "int" (.str x) = false := show (kitB "str" "int").getD false = false by decide +kernel
theorem i_int_lst (x : List D) : isT "int" (.lst x) = false := show (kitB "list" "int").getD false = false by decide +kernel
theorem i_int_tup (x : List D) : isT "int" (.tup x) = false := show (kitB "tuple" "int").getD false = false by decide +kernel
theorem i_int_dct (x : List (Key × D)) : isT "int" (.dct x) = false := show (kitB "dict" "int").getD false = false by decide +kernel
theorem i_int_scr (x : List Int) : isT "int" (.scr x) = false := show (kitB "list" "int").getD false = false by decide +kernel
theorem i_str_non : isT "str" .non = false := show (kitB "NoneType" "str").getD false = false by decide +kernel
theorem i_str_bl (x : Bool) : isT "str" (.bl x) = false := show (kitB "bool" "str").getD false = false by decide +kernel
theorem i_str_int (x : Int) : isT "str" (.int x) = false := show (kitB "int" "str").getD false = false by decide +kernel
theorem i_str_str (x : Str) : isT "str" (.str x) = true := show (kitB "str" "str").getD false = true by decide +kernel
theorem i_str_lst (x : List D) : isT "str" (.lst x) = false := show (kitB "list" "str").getD false = false by decide +kernel
theorem i_str_tup (x : List D) : isT "str" (.tup x) = false := show (kitB "tuple" "str").getD false = false by decide +kernel
theorem i_str_dct (x : List (Key × D)) : isT "str" (.dct x) = false := show (kitB "dict" "str").getD false = false by decide +kernel
theorem i_str_scr (x : List Int) : isT "str" (.scr x) = false := show (kitB "list" "str").getD false = false by decide +kernel
theorem i_list_non : isT "list" .non = false := show (kitB "NoneType" "list").getD false = false by decide +kernel
theorem i_list_bl (x : Bool) : isT "list" (.bl x) = false := show (kitB "bool" "list").getD false = false by decide +kernel
theorem i_list_int (x : Int) : isT "list" (.int x) = false := show (kitB "int" "list").getD false = false by decide +kernel
theorem i_list_str (x : Str) : isT "list" (.str x) = false := show (kitB "str" "list").getD false = false by decide +kernel
theorem i_list_lst (x : List D) : isT "list" (.lst x) = true := show (kitB "list" "list").getD false = true by decide +kernel
theorem i_list_tup (x : List D) : isT "list" (.tup x) = false := show (kitB "tuple" "list").getD false = false by decide +kernel
theorem i_list_dct (x : List (Key × D)) : isT "list" (.dct x) = false := show (kitB "dict" "list").getD false = false by decide +kernel
theorem i_list_scr (x : List Int) : isT "list" (.scr x) = true := show (kitB "list" "list").getD false = true by decide +kernel
theorem i_dict_non : isT "dict" .non = false := show (kitB "NoneType" "dict").getD false = false by decide +kernel
theorem i_dict_bl (x : Bool) : isT "dict" (.bl x) = false := show (kitB "bool" "dict").getD false = false by decide +kernel
theorem i_dict_int (x : Int) : isT "dict" (.int x) = false := show (kitB "int" "dict").getD false = false by decide +kernel
theorem i_dict_str (x : Str) : isT "dict" (.str x) = false := show (kitB "str" "dict").getD false = false by decide +kernel
theorem i_dict_lst (x : List D) : isT "dict" (.lst x) = false := show (kitB "list" "dict").getD false = false by decide +kernel
theorem i_dict_tup (x : List D) : isT "dict" (.tup x) = false := show (kitB "tuple" "dict").getD false = false by decide +kernel
theorem i_dict_dct (x : List (Key × D)) : isT "dict" (.dct x) = true := show (kitB "dict" "dict").getD false = true by decide +kernel
theorem i_dict_scr (x : List Int) : isT "dict" (.scr x) = false := show (kitB "list" "dict").getD false = false by decide +kernel
theorem i_tuple_non : isT "tuple" .non = false := show (kitB "NoneType" "tuple").getD false = false by decide +kernel
theorem i_tuple_bl (x : Bool) : isT "tuple" (.bl x) = false := show (kitB "bool" "tuple").getD false = false by decide +kernel
theorem i_tuple_int (x : Int) : isT "tuple" (.int x) = false := show (kitB "int" "tuple").getD false = false by decide +kernel
theorem i_tuple_str (x : Str) : isT "tuple" (.str x) = false := show (kitB "str" "tuple").getD false = false by decide +kernel
theorem i_tuple_lst (x : List D) : isT "tuple" (.lst x) = false := show (kitB "list" "tuple").getD false = false by decide +kernel
theorem i_tuple_tup (x : List D) : isT "tuple" (.tup x) = true := show (kitB "tuple" "tuple").getD false = true by decide +kernel
theorem i_tuple_dct (x : List (Key × D)) : isT "tuple" (.dct x) = false := show (kitB "dict" "tuple").getD false = false by decide +kernel
theorem i_tuple_scr (x : List Int) : isT "tuple" (.scr x) = false := show (kitB "list" "tuple").getD false = false by decide +kernel
theorem eqN_int (i j : Int) : eqN 32 (.int i) (.int j) = some (i == j) := rfl
theorem le2 : (2 : Nat) ≤ sizeLine := by decide
theorem compL_on {α : Type} {t : D → Option (List D)} {is : List Nat} {g : GE} {ρ : List (Option D)} {xf yf : α → FD} : ∀ {l : List α}, (∀ a ∈ l, ∃ as, t (xf a).2 = some as ∧ g (setsD ρ is as) = .ok (yf a)) → compL t is cYes g ρ (l.map xf) = .ok (l.map yf)
  | [], _ => rfl
  | x :: xs, h => by
    obtain ⟨as, h1, h2⟩ := h x List.mem_cons_self
    rw [List.map_cons]
    unfold compL
    rw [h1]
    simp only [cYes, Res.nox_ok, Res.bind_ok, if_true]
    rw [h2, compL_on fun y hy => h y (List.mem_cons_of_mem _ hy)]
    rfl
theorem forL_inv {t : D → Option (List D)} {is : List Nat} {g : GS} (P : DE → Prop) : ∀ {xs : List FD} {ρ : DE}, (∀ x ∈ xs, ∀ ρ, P ρ → ∃ as ρ', t x.2 = some as ∧ g (setsF ρ is as) = .nx ρ' ∧ P ρ') → P ρ → ∃ ρ', forL t is g xs ρ = .nx ρ' ∧ P ρ'
  | [], ρ, _, h => ⟨ρ, rfl, h⟩
  | x :: xs, ρ, hs, h => by
    obtain ⟨as, ρ1, h1, h2, h3⟩ := hs x List.mem_cons_self ρ h
    obtain ⟨ρ2, h4, h5⟩ := forL_inv P (fun y hy => hs y (List.mem_cons_of_mem _ hy)) h3
    refine ⟨ρ2, ?_, h5⟩
    unfold forL
    rw [h1]
    simp only [h2]
    exact h4
theorem look_mem {kds : List (Key × D)} (nd : (kds.map (·.1)).Nodup) {kv : Key × D} (h : kv ∈ kds) : look kds kv.1 = some kv.2 := by
  induction kds with
  | nil => cases h
  | cons x xs ih =>
    simp only [List.map_cons, List.nodup_cons] at nd
    unfold look
    rw [List.find?_cons]
    rcases List.mem_cons.mp h with rfl | h
    · simp
    · have hx : ¬ x.1 = kv.1 := fun e => nd.1 (List.mem_map.mpr ⟨kv, h, e.symm⟩)
      simp only [decide_eq_true_eq, hx, decide_false]
      exact ih nd.2 h
theorem look_key {kds : List (Key × D)} {k : Key} (h : k ∈ kds.map (·.1)) : ∃ v, look kds k = some v ∧ (k, v) ∈ kds := by
  cases hf : kds.find? fun kv => decide (kv.1 = k) with
  | none =>
    obtain ⟨kv, h1, h2⟩ := List.mem_map.mp h
    have := List.find?_eq_none.mp hf kv h1
    simp [h2] at this
  | some p =>
    have h1 := List.find?_some hf
    simp only [decide_eq_true_eq] at h1
    exact ⟨p.2, by unfold look; rw [hf]; rfl, by rw [← h1]; exact List.mem_of_find?_eq_some hf⟩
theorem asPairs_map : ∀ (kds : List (Key × D)), asPairs (kds.map fun kv => .tup [kD kv.1, kv.2]) = some kds
  | [] => rfl
  | (k, v) :: kds => by
    rw [List.map_cons]
    unfold asPairs
    simp only [keyOf_kD, Option.bind_some, asPairs_map kds, Option.map_some]
theorem mergeD_self : ∀ {suf pre : List (Key × D)}, ((pre ++ suf).map (·.1)).Nodup → mergeD pre suf = pre ++ suf
  | [], pre, _ => by simp [mergeD]
  | (k, v) :: suf, pre, nd => by
    have hk : k ∉ pre.map (·.1) := by
      simp only [List.map_append, List.map_cons] at nd
      intro hk
      exact (List.nodup_append.mp nd).2.2 k hk k List.mem_cons_self rfl
    show mergeD (putD pre k v) suf = _
    rw [putD_new hk, mergeD_self (by simpa using nd)]
    simp
theorem held_ok {b : Nat} (hb : b ≤ 1000) : ∀ {n m : Nat} {d : D}, TD b n d → n < m → m_held m [d] = .ok (.T, d)
  | n, 0, d, _, h => absurd h (Nat.not_lt_zero _)
  | n, m + 1, .non, _, _ => rfl
  | n, m + 1, .bl _, _, _ => rfl
  | n, m + 1, .int _, _, _ => rfl
  | n, m + 1, .str _, _, _ => rfl
  | n, m + 1, .tup _, h, _ => by cases n <;> exact h.elim
  | n, m + 1, .scr _, h, _ => by cases n <;> exact h.elim
  | n, m + 1, .ins _ _ _, h, _ => by cases n <;> exact h.elim
  | 0, m + 1, .lst _, h, _ => h.elim
  | 0, m + 1, .dct _, h, _ => h.elim
  | n + 1, m + 1, .lst ds, ⟨h1, h2⟩, h => by
    have e1 : (compL t1 [1] cYes (gCall (VL.gCons (gVar 1) VL.gNil) (m_held m)) [some (.lst ds), none, none] (ds.map sh)) = .ok (ds.map fun d => (.T, d)) := compL_on fun d hd => ⟨[d], rfl, by
      simp [setsD, gCall, VL.gCons, gVar, VL.gNil, held_ok hb (h2 d hd) (Nat.lt_of_succ_lt_succ h)]⟩
    show runG 3 (g_law_held (m_held m)) [.lst ds] = _
    simp [runG, g_law_held, gSeq, gIfS, gTest, gIsi, gVar, enter, viewF, viaE, isT_list, toB, gRet, gComp, gItL, itemsL, sh_lst, wipeD, td_sz h1 hb]
    rw [e1]
    simp [mkL, allT_map]
    exact List.map_id _
  | n + 1, m + 1, .dct kds, ⟨h1, h2, h3, h4⟩, h => by
    have e1 : (compL t1 [2] cYes (gTpl (lCons (gVar 2) (lCons (gCall (VL.gCons (g2 (gVar 0) (gVar 2) (fun x y => ofO (ixD x.2 y.2))) VL.gNil) (m_held m)) lNil))) [some (.dct kds), none, none] (keysD kds)) = .ok (kds.map fun kv => (.T, .tup [kD kv.1, kv.2])) := compL_on fun kv hkv => ⟨[kD kv.1], rfl, by
      simp [setsD, gCall, VL.gCons, gVar, VL.gNil, held_ok hb (h4 kv hkv) (Nat.lt_of_succ_lt_succ h), gTpl, lCons, lNil, g2, ixD, sh_kD, keyOf_kD, look_mem h2 hkv, chk, le2, mkT, allT]⟩
    have hn := i_list_dct kds
    have hl : (keysD kds).length ≤ sizeLine := by unfold keysD; rw [List.length_map]; exact td_sz h1 hb
    have hT : allT (kds.map fun kv => ((.T, .tup [kD kv.1, kv.2]) : FD)) = true := by unfold allT; simp
    have ep : asPairs (List.map ((fun x : FD => x.2) ∘ fun kv : Key × D => ((.T, .tup [kD kv.1, kv.2]) : FD)) kds) = some kds := asPairs_map kds
    show runG 3 (g_law_held (m_held m)) [.dct kds] = _
    simp [runG, g_law_held, gSeq, gIfS, gTest, gIsi, gVar, enter, viewF, viaE, isT_dict, hn, toB, gRet, gPass, gDictT, gComp, gDct, sh_dct, wipeD, hl]
    rw [e1]
    simp [mkL, hT, ep, mergeD_self (pre := []) (suf := kds) (by simpa using h2)]
theorem kind_non : m_kind [.non] = .ok (.T, .str "nothing") := by
  cases h : sh .non with | mk f v =>
  have hv : v = .non := (congrArg Prod.snd h).symm
  subst hv
  simp [m_kind, runG, g_law_kind, gSeq, gIfS, gTest, gIsi, gIsN, isN, gVar, gCon, enter, h, viewF, viaE, toB, gRet, gPass, i_bool_non, i_int_non, i_str_non, i_list_non, i_dict_non]
theorem kind_bl (x : Bool) : m_kind [(.bl x)] = .ok (.T, .str "truth") := by
  cases h : sh (.bl x) with | mk f v =>
  have hv : v = (.bl x) := (congrArg Prod.snd h).symm
  subst hv
  simp [m_kind, runG, g_law_kind, gSeq, gIfS, gTest, gIsi, gIsN, isN, gVar, gCon, enter, h, viewF, viaE, toB, gRet, gPass, i_bool_bl, i_int_bl, i_str_bl, i_list_bl, i_dict_bl]
theorem kind_int (x : Int) : m_kind [(.int x)] = .ok (.T, .str "number") := by
  cases h : sh (.int x) with | mk f v =>
  have hv : v = (.int x) := (congrArg Prod.snd h).symm
  subst hv
  simp [m_kind, runG, g_law_kind, gSeq, gIfS, gTest, gIsi, gIsN, isN, gVar, gCon, enter, h, viewF, viaE, toB, gRet, gPass, i_bool_int, i_int_int, i_str_int, i_list_int, i_dict_int]
theorem kind_str (x : Str) : m_kind [(.str x)] = .ok (.T, .str "text") := by
  cases h : sh (.str x) with | mk f v =>
  have hv : v = (.str x) := (congrArg Prod.snd h).symm
  subst hv
  simp [m_kind, runG, g_law_kind, gSeq, gIfS, gTest, gIsi, gIsN, isN, gVar, gCon, enter, h, viewF, viaE, toB, gRet, gPass, i_bool_str, i_int_str, i_str_str, i_list_str, i_dict_str]
theorem kind_lst (x : List D) : m_kind [(.lst x)] = .ok (.T, .str "row") := by
  cases h : sh (.lst x) with | mk f v =>
  have hv : v = (.lst x) := (congrArg Prod.snd h).symm
  subst hv
  simp [m_kind, runG, g_law_kind, gSeq, gIfS, gTest, gIsi, gIsN, isN, gVar, gCon, enter, h, viewF, viaE, toB, gRet, gPass, i_bool_lst, i_int_lst, i_str_lst, i_list_lst, i_dict_lst]
theorem kind_dct (x : List (Key × D)) : m_kind [(.dct x)] = .ok (.T, .str "record") := by
  cases h : sh (.dct x) with | mk f v =>
  have hv : v = (.dct x) := (congrArg Prod.snd h).symm
  subst hv
  simp [m_kind, runG, g_law_kind, gSeq, gIfS, gTest, gIsi, gIsN, isN, gVar, gCon, enter, h, viewF, viaE, toB, gRet, gPass, i_bool_dct, i_int_dct, i_str_dct, i_list_dct, i_dict_dct]
theorem atI_nat2 {α : Type} {xs : List α} {k : Nat} (h : k < xs.length) : atI xs (k : Int) = some xs[k] := atI_nat (by rw [List.getElem?_eq_getElem h])
theorem okR_small {n : Nat} (h : n < 1000) : okR 0 (n : Int) = true := by
  have : (1000 : Nat) ≤ sizeLine := by decide
  unfold okR; simp; omega

/-! a statement at a time -/
def fin : Fo → Res FD
  | .rt x => .ok x
  | .nx _ => .ok (.T, .non)
  | .xc c fs _ => .xc c fs
  | _ => .bad
theorem run_of {n : Nat} {g : GS} {ds : List D} {o : Fo} {r : Res FD} (h : g (enter n ds) = o) (hr : fin o = r) : runG n g ds = r := by
  unfold runG; rw [h, ← hr]; cases o <;> rfl
theorem q_seq {g k : GS} {ρ ρ1 : DE} {o : Fo} (h : g ρ = .nx ρ1) (h2 : k ρ1 = o) : gSeq g k ρ = o := by unfold gSeq; rw [h]; exact h2
theorem q_rt {g k : GS} {ρ : DE} {x : FD} (h : g ρ = .rt x) : gSeq g k ρ = .rt x := by unfold gSeq; rw [h]
theorem q_set {i : Nat} {vs : List Nat} {g : GE} {ρ ρ1 : DE} {x : FD} (h : g (viewF vs 0 ρ) = .ok x) (h2 : putV vs i ρ x = ρ1) : gSet i vs g ρ = .nx ρ1 := by unfold gSet; rw [h]; subst h2; rfl
theorem q_ret {vs : List Nat} {g : GE} {ρ : DE} {x : FD} (h : g (viewF vs 0 ρ) = .ok x) : gRet vs g ρ = .rt x := by unfold gRet; rw [h]; rfl
theorem q_ift {vs : List Nat} {c : GT} {g k : GS} {ρ : DE} {o : Fo} (h : c (viewF vs 0 ρ) = .ok true) (h2 : g ρ = o) : gIfS vs c g k ρ = o := by unfold gIfS; rw [h]; exact h2
theorem q_iff {vs : List Nat} {c : GT} {g k : GS} {ρ : DE} {o : Fo} (h : c (viewF vs 0 ρ) = .ok false) (h2 : k ρ = o) : gIfS vs c g k ρ = o := by unfold gIfS; rw [h]; exact h2
theorem q_for {vs is : List Nat} {k : GA} {t : D → Option (List D)} {g : GS} {ρ ρ0 : DE} {xs : List FD} {o : Fo} (h : k (viewF vs 0 ρ) = .ok xs) (h0 : leakF vs 0 ρ = ρ0) (h2 : forL t is g xs ρ0 = o) : gFor vs is k t g ρ = o := by unfold gFor; rw [h, h0]; exact h2
theorem q_rng0 {g : GE} {ρ : List (Option D)} {fl : Fl} {i : Int} (h : g ρ = .ok (fl, .int i)) : gItR1 g ρ = itemsR 0 i := by unfold gItR1; rw [h]; rfl
theorem q_rng1 {i : Int} (h : okR 0 i = true) : itemsR 0 i = .ok (rngD 0 i) := by unfold itemsR; rw [if_pos h]
theorem q_rng {g : GE} {ρ : List (Option D)} {fl : Fl} {n : Nat} {i : Int} (h : g ρ = .ok (fl, .int i)) (hi : i = n) (hn : n < 1000) : gItR1 g ρ = .ok (rngD 0 n) :=
  (q_rng0 h).trans (hi ▸ q_rng1 (hi ▸ okR_small hn))
theorem rows_ok {b : Nat} (hb : b ≤ 1000) {mc : List D → Res FD} {ds : List D} (hl : ds.length < b) (h : ∀ d ∈ ds, mc [d, d] = .ok (.T, .int 0)) : runG 4 (g_law_rows_compare mc) [.lst ds, .lst ds] = .ok (.T, .int 0) := by
  obtain ⟨ρ', e1, x, y, e2⟩ := forL_inv (t := t1) (is := [2]) (g := gSeq (gSet 3 [0, 1, 2] (gCall (VL.gCons (g2 (gVar 0) (gVar 2) (fun x y => ofO (ixD x.2 y.2))) (VL.gCons (g2 (gVar 1) (gVar 2) (fun x y => ofO (ixD x.2 y.2))) VL.gNil)) mc)) (gIfS [3] (gTest (g2 (gVar 3) (gCon (.int 0)) (fun x y => ofO ((fB fun a b => (eqN 32 a b).map (!·)) x.2 y.2)))) (gRetV 3) gPass))
    (fun ρ => ∃ x y, ρ = [some (.S, .lst ds), some (.S, .lst ds), x, y]) (xs := rngD 0 ds.length) (ρ := [some (.S, .lst ds), some (.S, .lst ds), none, none]) (fun x hx ρ hρ => by
      obtain ⟨x1, y1, rfl⟩ := hρ
      unfold rngD at hx
      obtain ⟨k, hk, rfl⟩ := List.mem_map.mp hx
      have hk : k < ds.length := by simpa using hk
      refine ⟨[.int (0 + (k : Int))], _, rfl, ?_, some (.T, .int (0 + (k : Int))), some (.T, .int 0), rfl⟩
      have hm := h ds[k] (List.getElem_mem hk)
      simp [setsF, gSeq, gSet, gCall, VL.gCons, VL.gNil, g2, gVar, viewF, sh_lst, sh_int, ixD, atI_nat2 hk, hm, viaE, putV, gIfS, gTest, gCon, fB, eqN_int, toB, gPass]) ⟨none, none, rfl⟩
  subst e2
  unfold g_law_rows_compare
  refine run_of (q_seq (q_for ?_ ?_ e1) (q_ret (x := (.T, .int 0)) ?_)) rfl
  · exact q_rng (fl := .T) (by simp [gCall, VL.gCons, VL.gNil, gVar, enter, viewF, sh_lst, lenD, oT, minD]) rfl (Nat.lt_of_lt_of_le hl hb)
  · simp [enter, leakF, sh_lst]
  · simp [viewF, g2, gCall, VL.gCons, VL.gNil, gVar, sh_lst, lenD, oT, fB, gtD, ltD, VL.intD, subD]
end G
end

section
set_option Elab.async false
set_option maxRecDepth 100000
set_option linter.all false
set_option maxHeartbeats 4000000
namespace G
open PySem PySem.Spec
open PyProof.Rows hiding intD
open L2 hiding gCons gNil gLst
open VL
abbrev words : List D := [.str "nothing", .str "truth", .str "number", .str "text", .str "row", .str "record"]
theorem idx_non : idxD (.lst words) (.str "nothing") = some (.T, .int 0) := by kernel_rfl
theorem idx_bl : idxD (.lst words) (.str "truth") = some (.T, .int 1) := by kernel_rfl
theorem idx_int : idxD (.lst words) (.str "number") = some (.T, .int 2) := by kernel_rfl
theorem idx_str : idxD (.lst words) (.str "text") = some (.T, .int 3) := by kernel_rfl
theorem idx_lst : idxD (.lst words) (.str "row") = some (.T, .int 4) := by kernel_rfl
theorem idx_dct : idxD (.lst words) (.str "record") = some (.T, .int 5) := by kernel_rfl
theorem le6 : (6 : Nat) ≤ sizeLine := by decide
theorem str_irr (s : Str) : ¬ s.cps.toList < s.cps.toList := List.lt_irrefl _
theorem compare_head {mk mr : List D → Res FD} {d : D} {s : Str} {i : Int} {r : Res FD} (hk : mk [d] = .ok (.T, .str s)) (hi : idxD (.lst words) (.str s) = some (.T, .int i)) (hd : d.atom = false ∨ d.atom = true)
    (h : ∀ f, sh d = (f, d) → fin (gSeq (gIfS [3] (gTest (g2 (gVar 3) (gCon (.int 0)) (fun x y => ofO ((fB (eqN 32)) x.2 y.2)))) (gRet [] (gCon (.int 0))) (gPass)) (gSeq (gIfS [3] (gTest (g2 (gVar 3) (gCon (.int 4)) (fun x y => ofO ((fB ltD) x.2 y.2)))) (gRet [0, 1] (g2 (gCall (gCons (g2 (gVar 0) (gVar 1) (fun x y => ofO ((fB gtD) x.2 y.2))) (gNil)) (fun ds => ofO (intD ds))) (gCall (gCons (g2 (gVar 0) (gVar 1) (fun x y => ofO ((fB ltD) x.2 y.2))) (gNil)) (fun ds => ofO (intD ds))) (fun x y => ofO (subD x.2 y.2)))) (gPass)) (gSeq (gIfS [3] (gTest (g2 (gVar 3) (gCon (.int 4)) (fun x y => ofO ((fB (eqN 32)) x.2 y.2)))) (gRet [0, 1] (gCall (gCons (gVar 0) (gCons (gVar 1) (gNil))) mr)) (gPass)) (gSeq (gSet 5 [0] (gComp [7] [7] (gItL (gCall (gCons (gVar 0) (gNil)) (fun ds => ofO (sortD ds)))) t1 (cYes) (gLst (lCons (gVar 7) (lCons (g2 (gVar 0) (gVar 7) (fun x y => ofO (ixD x.2 y.2))) (lNil)))))) (gSeq (gSet 6 [1] (gComp [7] [7] (gItL (gCall (gCons (gVar 1) (gNil)) (fun ds => ofO (sortD ds)))) t1 (cYes) (gLst (lCons (gVar 7) (lCons (g2 (gVar 1) (gVar 7) (fun x y => ofO (ixD x.2 y.2))) (lNil)))))) (gRet [5, 6] (gCall (gCons (gVar 5) (gCons (gVar 6) (gNil))) mr)))))) [some (f, d), some (f, d), some (.T, .lst words), some (.T, .int i), some (.T, .int i), none, none, none]) = r) :
    runG 8 (g_law_compare mk mr) [d, d] = r := by
  obtain ⟨f, hf⟩ : ∃ f, sh d = (f, d) := ⟨_, rfl⟩
  refine run_of (o := gSeq _ _ _) ?_ (h f hf)
  unfold g_law_compare
  refine q_seq (ρ1 := [some (f, d), some (f, d), some (.T, .lst words), none, none, none, none, none]) ?_ (q_seq (ρ1 := [some (f, d), some (f, d), some (.T, .lst words), some (.T, .int i), none, none, none, none]) ?_ (q_seq (ρ1 := [some (f, d), some (f, d), some (.T, .lst words), some (.T, .int i), some (.T, .int i), none, none, none]) ?_ (q_seq (ρ1 := [some (f, d), some (f, d), some (.T, .lst words), some (.T, .int i), some (.T, .int i), none, none, none]) ?_ rfl)))
  · simp [gSet, enter, gLst, lCons, lNil, gCon, chk, le6, mkL, allT, viaE, putV, hf]
  · simp [gSet, viewF, gMt, gVar, sh_lst, gCall, gCons, gNil, hf, hk, hi, viaE, putV]
  · simp [gSet, viewF, gMt, gVar, sh_lst, gCall, gCons, gNil, hf, hk, hi, viaE, putV]
  · simp [gIfS, viewF, gTest, g2, gVar, sh_int, fB, eqN_int, toB, viaE, gPass]

theorem sortD_dct {kds : List (Key × D)} {ks : List Str} (h : kds.map (·.1) = ks.map Sum.inr) (hl : kds.length < 60) : sortD [.dct kds] = some (.T, .lst ((sortStr ks).map D.str)) := by
  have e : ∀ ks : List Str, keyStrs (ks.map Sum.inr) = some ks := by
    intro ks
    induction ks with
    | nil => rfl
    | cons k ks ih => rw [List.map_cons]; unfold keyStrs; rw [ih]; rfl
  have hl2 : ks.length < 64 := by
    have := congrArg List.length h
    simp at this; omega
  unfold sortD
  simp only [h, e, if_pos hl2]; rfl
theorem compare_ok {b : Nat} (hb : b ≤ 60) : ∀ {n m : Nat} {d : D}, TD b n d → 2 * n < m → m_compare m [d, d] = .ok (.T, .int 0)
  | n, 0, d, _, h => absurd h (Nat.not_lt_zero _)
  | n, m + 1, .non, _, _ => compare_head kind_non idx_non (.inr rfl) fun f hf => by
    simp [fin, gSeq, gIfS, viewF, gTest, g2, gVar, sh_int, gCon, fB, eqN_int, toB, viaE, gRet]
  | n, m + 1, .bl b, _, _ => compare_head (kind_bl b) idx_bl (.inr rfl) fun f hf => by
    rw [sh_bl] at hf
    cases hf
    simp [fin, gSeq, gIfS, viewF, gTest, g2, gVar, sh_int, sh_bl, gCon, fB, eqN_int, toB, viaE, gRet, gPass, ltD, gtD, gCall, gCons, gNil, intD, oT, subD]
  | n, m + 1, .int i, _, _ => compare_head (kind_int i) idx_int (.inr rfl) fun f hf => by
    rw [sh_int] at hf
    cases hf
    simp [fin, gSeq, gIfS, viewF, gTest, g2, gVar, sh_int, gCon, fB, eqN_int, toB, viaE, gRet, gPass, ltD, gtD, gCall, gCons, gNil, intD, oT, subD]
  | n, m + 1, .str s, _, _ => compare_head (kind_str s) idx_str (.inr rfl) fun f hf => by
    rw [sh_str] at hf
    cases hf
    have := str_irr s
    simp [fin, gSeq, gIfS, viewF, gTest, g2, gVar, sh_int, sh_str, gCon, fB, eqN_int, toB, viaE, gRet, gPass, ltD, gtD, gCall, gCons, gNil, intD, oT, subD]
  | n, m + 1, .tup _, h, _ => by cases n <;> exact h.elim
  | n, m + 1, .scr _, h, _ => by cases n <;> exact h.elim
  | n, m + 1, .ins _ _ _, h, _ => by cases n <;> exact h.elim
  | 0, m + 1, .lst _, h, _ => h.elim
  | 0, m + 1, .dct _, h, _ => h.elim
  | n + 1, m + 1, .lst ds, ⟨h1, h2⟩, h => compare_head (kind_lst ds) idx_lst (.inl rfl) fun f hf => by
    rw [sh_lst] at hf
    cases hf
    have hr := rows_ok (mc := m_compare m) (Nat.le_trans hb (by decide)) h1 fun d hd => compare_ok hb (h2 d hd) (by omega)
    simp [fin, gSeq, gIfS, viewF, gTest, g2, gVar, sh_int, sh_lst, gCon, fB, eqN_int, toB, viaE, gRet, gPass, ltD, gtD, gCall, gCons, gNil, hr]
  | n + 1, m + 1, .dct kds, ⟨h1, h2, ⟨ks, h3⟩, h4⟩, h => compare_head (kind_dct kds) idx_dct (.inl rfl) fun f hf => by
    rw [sh_dct] at hf
    cases hf
    have hm : ∀ s ∈ sortStr ks, ∃ v, look kds (.inr s) = some v ∧ TD b n v := fun s hs => by
      have hs : s ∈ ks := (List.mergeSort_perm ks leStr).mem_iff.mp hs
      obtain ⟨v, hv, hm⟩ := look_key (kds := kds) (k := .inr s) (by rw [h3]; exact List.mem_map.mpr ⟨s, hs, rfl⟩)
      exact ⟨v, hv, h4 _ hm⟩
    have hsl : (sortStr ks).length < b := by
      rw [sortStr_length]
      have := congrArg List.length h3
      simp at this; omega
    obtain ⟨fr, hfr⟩ : ∃ fr : Fl, ∀ l : List Str, True := ⟨.T, fun _ => trivial⟩
    let val : Str → D := fun s => (look kds (.inr s)).getD .non
    have hrow : ∀ s ∈ sortStr ks, look kds (.inr s) = some (val s) := fun s hs => by
      obtain ⟨v, hv, _⟩ := hm s hs
      show _ = some ((look kds (.inr s)).getD .non)
      rw [hv]; rfl
    let rows : List D := (sortStr ks).map fun s => .lst [.str s, val s]
    have hr := rows_ok (mc := m_compare m) (ds := rows) (Nat.le_trans hb (by decide)) (by simpa [rows] using hsl) fun d hd => by
      obtain ⟨s, hs, rfl⟩ := List.mem_map.mp hd
      obtain ⟨v, hv, tv⟩ := hm s hs
      have hval : val s = v := by show (look kds (.inr s)).getD .non = v; rw [hv]; rfl
      rw [hval]
      cases m with
      | zero => omega
      | succ m' =>
        refine compare_head (kind_lst _) idx_lst (.inl rfl) fun f hf => ?_
        rw [sh_lst] at hf
        cases hf
        have hr := rows_ok (b := 60) (mc := m_compare m') (ds := [.str s, v]) (by decide) (by simp) fun d hd => by
          rcases List.mem_cons.mp hd with rfl | hd
          · exact compare_ok hb (n := n) (by cases n <;> trivial) (by omega)
          · rw [List.mem_singleton.mp hd]; exact compare_ok hb tv (by omega)
        simp [fin, gSeq, gIfS, viewF, gTest, g2, gVar, sh_int, sh_lst, gCon, fB, eqN_int, toB, viaE, gRet, gPass, ltD, gtD, gCall, gCons, gNil, hr]
    have hs := sortD_dct h3 (Nat.lt_of_lt_of_le h1 hb)
    have hsz : (sortStr ks).length ≤ sizeLine := td_sz hsl (Nat.le_trans hb (by decide))
    obtain ⟨fl, hfl⟩ : ∃ fl : Fl, mkL ((sortStr ks).map fun s => mkL [((.T, .str s) : FD), sh (val s)]) = (fl, .lst rows) := ⟨_, by unfold mkL; simp [rows, allT]; rfl⟩
    have hc : ∀ (i : Nat) (ρ : List (Option D)), ρ[i]? = some (some (.dct kds)) → ρ.length = 8 → i < 7 → gComp [7] [7] (gItL (gCall (gCons (gVar i) gNil) (fun ds => ofO (sortD ds)))) t1 cYes (gLst (lCons (gVar 7) (lCons (g2 (gVar i) (gVar 7) (fun x y => ofO (ixD x.2 y.2))) lNil))) ρ = .ok (fl, .lst rows) := fun i ρ hi hl h7 => by
      have e1 : compL t1 [7] cYes (gLst (lCons (gVar 7) (lCons (g2 (gVar i) (gVar 7) (fun x y => ofO (ixD x.2 y.2))) lNil))) (wipeD ρ [7]) ((sortStr ks).map fun s => sh (.str s)) = .ok ((sortStr ks).map fun s => mkL [((.T, .str s) : FD), sh (val s)]) := compL_on fun s hs => ⟨[.str s], rfl, by
        have h7' : (wipeD ρ [7]).length = 8 := by simp [wipeD, hl]
        have a7 : ((wipeD ρ [7]).set 7 (some (.str s)))[7]? = some (some (.str s)) := List.getElem?_set_self (by omega)
        have ai : ((wipeD ρ [7]).set 7 (some (.str s)))[i]? = some (some (.dct kds)) := by
          rw [List.getElem?_set_ne (by omega)]
          show (ρ.set 7 none)[i]? = _
          rw [List.getElem?_set_ne (by omega)]; exact hi
        simp [setsD, gLst, lCons, lNil, gVar, a7, ai, g2, sh_str, sh_dct, ixD, keyOf, hrow s hs, chk, le2]⟩
      have e2 : List.map sh (List.map D.str (sortStr ks)) = (sortStr ks).map fun s => sh (.str s) := by simp
      simp [gComp, gItL, gCall, gCons, gNil, gVar, hi, sh_dct, hs, itemsL, hsz, wipeD] 
      rw [show ρ.set 7 none = wipeD ρ [7] from rfl]
      simp only [Function.comp_def] 
      rw [e1]
      simp [hfl]
    have fin_of : ∀ {o : Fo} {x : FD}, o = .rt x → fin o = .ok x := fun h => by rw [h]; rfl
    refine fin_of ?_
    refine q_seq (q_iff ?_ rfl) (q_seq (q_iff ?_ rfl) (q_seq (q_iff ?_ rfl) ?_))
    · simp [viewF, gTest, g2, gVar, gCon, sh_int, fB, eqN_int, toB]
    · simp [viewF, gTest, g2, gVar, gCon, sh_int, fB, ltD, toB]
    · simp [viewF, gTest, g2, gVar, gCon, sh_int, fB, eqN_int, toB]
    · refine q_seq (q_set (hc 0 _ rfl rfl (by decide)) rfl) ?_
      cases fl
      · refine q_seq (q_set (hc 1 _ rfl rfl (by decide)) rfl) (q_ret ?_)
        simp [viewF, putV, leakF, gCall, gCons, gNil, gVar, sh_lst, sh_dct, sh_int, hr]
      · refine q_seq (q_set (hc 1 _ rfl rfl (by decide)) rfl) (q_ret ?_)
        simp [viewF, putV, leakF, gCall, gCons, gNil, gVar, sh_lst, sh_dct, sh_int, hr]
      · refine q_seq (q_set (hc 1 _ rfl rfl (by decide)) rfl) (q_ret ?_)
        simp [viewF, putV, leakF, gCall, gCons, gNil, gVar, sh_lst, sh_dct, sh_int, hr]
theorem same_ok {b n : Nat} (hb : b ≤ 60) (hn : n ≤ 11) {d : D} (h : TD b n d) : m_same [d, d] = .ok (.T, .bl true) := by
  have hc := compare_ok hb (m := 24) h (by omega)
  have key : ∀ s : Str, m_kind [d] = .ok (.T, .str s) → m_same [d, d] = .ok (.T, .bl true) := fun s hk => by
    have he : eqN 32 (.str s) (.str s) = some (s == s) := rfl
    unfold m_same
    cases hd : d.atom <;> simp [runG, g_law_same, gRet, enter, viewF, sh, hd, gAndV, gNotN, gCall, gCons, gNil, gVar, hk, isN, toB, g2, fB, he, hc, gCon, eqN_int, viaE]
  cases d with
  | non => exact key _ kind_non
  | bl x => exact key _ (kind_bl x)
  | int x => exact key _ (kind_int x)
  | str x => exact key _ (kind_str x)
  | lst x => exact key _ (kind_lst x)
  | dct x => exact key _ (kind_dct x)
  | tup x => cases n <;> exact h.elim
  | scr x => cases n <;> exact h.elim
  | ins x y z => cases n <;> exact h.elim
end G
end

section
set_option Elab.async false
set_option maxRecDepth 100000
set_option linter.all false
set_option maxHeartbeats 4000000
namespace G
open PySem PySem.Spec
open PyProof.Rows hiding intD
open L2 hiding gCons gNil gLst
open VL
theorem look_nil (k : Key) : look [] k = none := rfl
theorem look_cons_pos {x : Key × D} {xs : List (Key × D)} {k : Key} (h : x.1 = k) : look (x :: xs) k = some x.2 := by unfold look; simp [List.find?_cons, h]
theorem look_cons_neg {x : Key × D} {xs : List (Key × D)} {k : Key} (h : ¬ x.1 = k) : look (x :: xs) k = look xs k := by unfold look; simp [List.find?_cons, h]
theorem look_repl {k k' : Key} {d : D} (h : k ≠ k') : ∀ kds : List (Key × D), look (kds.map fun kv => if kv.1 = k then (kv.1, d) else kv) k' = look kds k'
  | [] => rfl
  | x :: xs => by
    rw [List.map_cons]
    by_cases hx : x.1 = k
    · rw [if_pos hx, look_cons_neg (by rw [hx]; exact h), look_cons_neg (by rw [hx]; exact h), look_repl h xs]
    · rw [if_neg hx]
      by_cases hx2 : x.1 = k'
      · rw [look_cons_pos hx2, look_cons_pos hx2]
      · rw [look_cons_neg hx2, look_cons_neg hx2, look_repl h xs]
theorem look_app {k k' : Key} {d : D} (h : k ≠ k') : ∀ kds : List (Key × D), look (kds ++ [(k, d)]) k' = look kds k'
  | [] => by show look [(k, d)] k' = _; rw [look_cons_neg h]
  | x :: xs => by
    rw [List.cons_append]
    by_cases hx2 : x.1 = k'
    · rw [look_cons_pos hx2, look_cons_pos hx2]
    · rw [look_cons_neg hx2, look_cons_neg hx2, look_app h xs]
theorem look_put_ne {k k' : Key} {d : D} {kds : List (Key × D)} (h : k ≠ k') : look (putD kds k d) k' = look kds k' := by
  unfold putD
  split
  · exact look_repl h kds
  · exact look_app h kds
theorem mem_put {k : Key} {d : D} {kds : List (Key × D)} {kv : Key × D} (h : kv ∈ putD kds k d) : kv ∈ kds ∨ kv.2 = d := by
  unfold putD at h
  split at h
  · obtain ⟨x, hx, e⟩ := List.mem_map.mp h
    split at e
    · right; rw [← e]
    · left; rw [← e]; exact hx
  · rcases List.mem_append.mp h with h | h
    · exact .inl h
    · right; rw [List.mem_singleton.mp h]
theorem keyStrs_map (ks : List Str) : keyStrs (ks.map Sum.inr) = some ks := by
  induction ks with
  | nil => rfl
  | cons k ks ih => rw [List.map_cons]; unfold keyStrs; rw [ih]; rfl
theorem lt_size {n b : Nat} (h : n < b) (hb : b ≤ 1000) : n < sizeLine := Nat.lt_of_lt_of_le h (Nat.le_trans hb (by decide))
end G
end

section
set_option Elab.async false
set_option maxRecDepth 100000
set_option linter.all false
set_option maxHeartbeats 4000000
namespace G
open PySem PySem.Spec
open PyProof.Rows hiding intD
open L2 hiding gCons gNil gLst
open VL
/-! paths -/
def Stp (p : D) : Prop := (∃ s, p = .str s) ∨ ∃ k : Nat, p = .int k
def step (d p : D) : Option D := match d, p with
  | .dct kds, .str s => look kds (.inr s)
  | .lst ds, .int i => if 0 ≤ i then ds[i.toNat]? else none
  | _, _ => none
def walk : D → List D → Option D
  | d, [] => some d
  | d, p :: ps => (step d p).bind fun e => walk e ps
theorem sh_stp {p : D} (h : Stp p) : sh p = (.T, p) := by
  rcases h with ⟨s, rfl⟩ | ⟨k, rfl⟩ <;> rfl
theorem step_td {b n : Nat} {d p e : D} (h : TD b n d) (hs : step d p = some e) : TD b n e := by
  unfold step at hs
  split at hs
  · rename_i kds s
    cases n with
    | zero => exact h.elim
    | succ n =>
      obtain ⟨_, _, _, h4⟩ := h
      have : ∃ kv ∈ kds, kv.2 = e := by
        unfold look at hs
        obtain ⟨kv, h1, h2⟩ := Option.map_eq_some_iff.mp hs
        exact ⟨kv, List.mem_of_find?_eq_some h1, h2⟩
      obtain ⟨kv, h1, rfl⟩ := this
      exact TD.mono (Nat.le_refl b) (Nat.le_succ n) (h4 kv h1)
  · rename_i ds i
    cases n with
    | zero => exact h.elim
    | succ n =>
      obtain ⟨_, h4⟩ := h
      split at hs
      · exact TD.mono (Nat.le_refl b) (Nat.le_succ n) (h4 e (List.mem_of_getElem? hs))
      · cases hs
  · cases hs
theorem step_ix {d p e : D} (hs : step d p = some e) : ixD d p = some (sh e) := by
  unfold step at hs
  split at hs
  · rename_i kds s
    simp [ixD, keyOf, hs]
  · rename_i ds i
    split at hs
    · rename_i h0
      obtain ⟨k, rfl⟩ := Int.eq_ofNat_of_zero_le h0
      have hs : ds[k]? = some e := hs
      simp only [ixD]
      rw [atI_nat hs]; rfl
    · cases hs
  · cases hs
theorem step_len {d : D} {ds : List D} {k : Nat} (hd : d = .lst ds) : (step d (.int k)).isSome = decide (k < ds.length) := by
  subst hd
  have : step (.lst ds) (.int (k : Int)) = ds[k]? := by
    unfold step
    simp
  rw [this]
  by_cases h : k < ds.length
  · simp [h]
  · simp [h]
theorem isT_dict_ne {b n : Nat} {d : D} (h : TD b n d) (hd : ∀ kds, d ≠ .dct kds) : isT "dict" d = false := by
  cases d with
  | dct kds => exact absurd rfl (hd kds)
  | non => exact i_dict_non
  | bl x => exact i_dict_bl x
  | int x => exact i_dict_int x
  | str x => exact i_dict_str x
  | lst x => exact i_dict_lst x
  | tup x => exact i_dict_tup x
  | scr x => exact i_dict_scr x
  | ins x y z => cases n <;> exact h.elim
theorem isT_list_ne {b n : Nat} {d : D} (h : TD b n d) (hd : ∀ kds, d ≠ .lst kds) : isT "list" d = false := by
  cases d with
  | lst kds => exact absurd rfl (hd kds)
  | non => exact i_list_non
  | bl x => exact i_list_bl x
  | int x => exact i_list_int x
  | str x => exact i_list_str x
  | dct x => exact i_list_dct x
  | tup x => exact i_list_tup x
  | scr x => cases n <;> exact h.elim
  | ins x y z => cases n <;> exact h.elim
theorem td_isO {b n : Nat} {d : D} (h : TD b n d) : isO d = false := by
  cases d with
  | ins x y z => cases n <;> exact h.elim
  | _ => rfl
theorem leads_ok {b n : Nat} {d p : D} (h : TD b n d) (hp : Stp p) : m_leads_on [d, p] = .ok (.T, .bl (step d p).isSome) := by
  obtain ⟨f, hf⟩ : ∃ f, sh d = (f, d) := ⟨_, rfl⟩
  unfold m_leads_on
  rcases hp with ⟨s, rfl⟩ | ⟨k, rfl⟩
  · by_cases hd : ∃ kds, d = .dct kds
    · obtain ⟨kds, rfl⟩ := hd
      rw [sh_dct] at hf; cases hf
      simp [runG, g_leads_on, enter, gSeq, gIfS, gTest, gIsi, gVar, viewF, sh_dct, sh_str, i_str_str, i_dict_dct, toB, viaE, gRet, gAndV, g2, fB, inD, keyOf, step]
    · have h1 := isT_dict_ne h fun kds e => hd ⟨kds, e⟩
      have h2 : step d (.str s) = none := by
        unfold step
        split
        · rename_i kds s _; exact absurd ⟨_, rfl⟩ hd
        · rename_i ds i hh; cases hh
        · rfl
      simp [runG, g_leads_on, enter, gSeq, gIfS, gTest, gIsi, gVar, viewF, hf, sh_str, i_str_str, h1, toB, viaE, gRet, gAndV, h2, isi_go (T := "dict") (td_isO h)]
  · by_cases hd : ∃ kds, d = .lst kds
    · obtain ⟨kds, rfl⟩ := hd
      rw [sh_lst] at hf; cases hf
      rw [step_len rfl]
      simp [runG, g_leads_on, enter, gSeq, gIfS, gTest, gIsi, gVar, viewF, sh_lst, sh_int, i_str_int, i_list_lst, toB, viaE, gRet, gPass, gAndV, g2, fB, gCall, gCons, gNil, lenD, oT, ltD]
    · have h1 := isT_list_ne h fun kds e => hd ⟨kds, e⟩
      have h2 : step d (.int k) = none := by
        unfold step
        split
        · rename_i ds i hh; cases hh
        · rename_i ds i h; exact absurd ⟨_, rfl⟩ hd
        · rfl
      simp [runG, g_leads_on, enter, gSeq, gIfS, gTest, gIsi, gVar, viewF, hf, sh_int, i_str_int, h1, toB, viaE, gRet, gPass, gAndV, h2, isi_go (T := "list") (td_isO h)]
theorem has_loop {b n : Nat} {d : D} {l : List D} : ∀ {ps : List D} {e : D} {x : Option FD}, TD b n e → (∀ p ∈ ps, Stp p) →
    (∀ r, walk e ps = some r → ∃ x', forL t1 [3] (gSeq (gIfS [2, 3] (gNotT (gTest (gCall (gCons (gVar 2) (gCons (gVar 3) (gNil))) m_leads_on))) (gRet [] (gCon (.bl false))) (gPass)) (gSet 2 [2, 3] (g2 (gVar 2) (gVar 3) (fun x y => ofO (ixD x.2 y.2))))) (ps.map sh) [some (sh d), some (.S, .lst l), some (sh e), x] = .nx [some (sh d), some (.S, .lst l), some (sh r), x']) ∧
    (walk e ps = none → forL t1 [3] (gSeq (gIfS [2, 3] (gNotT (gTest (gCall (gCons (gVar 2) (gCons (gVar 3) (gNil))) m_leads_on))) (gRet [] (gCon (.bl false))) (gPass)) (gSet 2 [2, 3] (g2 (gVar 2) (gVar 3) (fun x y => ofO (ixD x.2 y.2))))) (ps.map sh) [some (sh d), some (.S, .lst l), some (sh e), x] = .rt (.T, .bl false))
  | [], e, x, _, _ => ⟨fun r h => by cases h; exact ⟨x, rfl⟩, fun h => by cases h⟩
  | p :: ps, e, x, ht, hp => by
    have hl := leads_ok ht (hp p List.mem_cons_self)
    have hs := sh_stp (hp p List.mem_cons_self)
    obtain ⟨f, hf⟩ : ∃ f, sh e = (f, e) := ⟨_, rfl⟩
    cases hst : step e p with
    | none =>
      rw [hst] at hl
      refine ⟨fun r h => by simp [walk, hst] at h, fun _ => ?_⟩
      rw [List.map_cons]
      unfold forL
      simp [t1, setsF, hs, hf, gSeq, gIfS, gNotT, gTest, gCall, gCons, gNil, gVar, viewF, hl, toB, viaE, gRet, gCon]
    | some e' =>
      rw [hst] at hl
      have hx := step_ix hst
      obtain ⟨ih1, ih2⟩ := has_loop (d := d) (l := l) (ps := ps) (e := e') (x := some (.T, p)) (step_td ht hst) fun q hq => hp q (List.mem_cons_of_mem _ hq)
      have hstep : ∀ xs, forL t1 [3] (gSeq (gIfS [2, 3] (gNotT (gTest (gCall (gCons (gVar 2) (gCons (gVar 3) (gNil))) m_leads_on))) (gRet [] (gCon (.bl false))) (gPass)) (gSet 2 [2, 3] (g2 (gVar 2) (gVar 3) (fun x y => ofO (ixD x.2 y.2))))) (sh p :: xs) [some (sh d), some (.S, .lst l), some (sh e), x] = forL t1 [3] (gSeq (gIfS [2, 3] (gNotT (gTest (gCall (gCons (gVar 2) (gCons (gVar 3) (gNil))) m_leads_on))) (gRet [] (gCon (.bl false))) (gPass)) (gSet 2 [2, 3] (g2 (gVar 2) (gVar 3) (fun x y => ofO (ixD x.2 y.2))))) xs [some (sh d), some (.S, .lst l), some (sh e'), some (.T, p)] := fun xs => by
        obtain ⟨f0, hf0⟩ : ∃ f, sh d = (f, d) := ⟨_, rfl⟩
        have e1 : (gSeq (gIfS [2, 3] (gNotT (gTest (gCall (gCons (gVar 2) (gCons (gVar 3) (gNil))) m_leads_on))) (gRet [] (gCon (.bl false))) (gPass)) (gSet 2 [2, 3] (g2 (gVar 2) (gVar 3) (fun x y => ofO (ixD x.2 y.2))))) [some (f0, d), some (.S, .lst l), some (f, e), some (.T, p)] = .nx [some (f0, d), some (.S, .lst l), some (sh e'), some (.T, p)] := by
          obtain ⟨f2, hf2⟩ : ∃ f, sh e' = (f, e') := ⟨_, rfl⟩
          refine q_seq (q_iff ?_ rfl) (q_set (x := sh e') ?_ ?_)
          · simp [gNotT, gTest, gCall, gCons, gNil, gVar, viewF, hs, hf, hl, toB]
          · simp [g2, gVar, viewF, hs, hf, hx]
          · rw [hf2]; cases f2 <;> simp [putV, leakF, hf, hs]
        rw [forL.eq_2]
        simp only [t1, setsF, hs, hf, hf0, List.set_cons_succ, List.set_cons_zero, e1]
      rw [List.map_cons]
      refine ⟨fun r h => ?_, fun h => ?_⟩
      · rw [hstep]
        exact ih1 r (by simpa [walk, hst] using h)
      · rw [hstep]
        exact ih2 (by simpa [walk, hst] using h)
theorem has_ok {b n : Nat} {d : D} {ps : List D} (h : TD b n d) (hp : ∀ p ∈ ps, Stp p) : m_has [d, .lst ps] = .ok (.T, .bl (walk d ps).isSome) := by
  obtain ⟨f, hf⟩ : ∃ f, sh d = (f, d) := ⟨_, rfl⟩
  have hv : gSet 2 [0] (gVar 0) (enter 4 [d, .lst ps]) = .nx [some (sh d), some (.S, .lst ps), some (sh d), none] := by
    simp only [enter, gSet, List.map_cons, List.map_nil, hf, sh_lst]
    cases f <;> simp [viewF, gVar, hf, viaE, putV, leakF]
  have hL := has_loop (d := d) (l := ps) (ps := ps) (e := d) (x := none) h hp
  unfold m_has g_has
  cases hw : walk d ps with
  | none =>
    refine run_of (q_seq hv (q_rt (q_for (xs := ps.map sh) ?_ ?_ (hL.2 hw)))) rfl
    · simp only [hf]; cases f <;> simp [gItL, gVar, viewF, sh_lst, itemsL]
    · simp [leakF, sh_lst]; rfl
  | some r =>
    obtain ⟨x', e⟩ := hL.1 r hw
    refine run_of (q_seq hv (q_seq (q_for (xs := ps.map sh) ?_ ?_ e) (q_ret (x := (.T, .bl true)) rfl))) rfl
    · simp only [hf]; cases f <;> simp [gItL, gVar, viewF, sh_lst, itemsL]
    · simp [leakF, sh_lst]; rfl

theorem forL_idx {t : D → Option (List D)} {is : List Nat} {g : GS} (P : Nat → DE → Prop) : ∀ {xs : List FD} {i : Nat} {ρ : DE}, (∀ j x, xs[j]? = some x → ∀ ρ, P (i + j) ρ → ∃ as ρ', t x.2 = some as ∧ g (setsF ρ is as) = .nx ρ' ∧ P (i + j + 1) ρ') → P i ρ → ∃ ρ', forL t is g xs ρ = .nx ρ' ∧ P (i + xs.length) ρ'
  | [], i, ρ, _, h => ⟨ρ, rfl, h⟩
  | x :: xs, i, ρ, hs, h => by
    obtain ⟨as, ρ1, h1, h2, h3⟩ := hs 0 x rfl ρ h
    obtain ⟨ρ2, h4, h5⟩ := forL_idx P (xs := xs) (i := i + 1) (ρ := ρ1) (fun j y hy ρ hρ => by
      have := hs (j + 1) y hy ρ (by rw [show i + (j + 1) = i + 1 + j by omega]; exact hρ)
      rw [show i + 1 + j + 1 = i + (j + 1) + 1 by omega]; exact this) h3
    refine ⟨ρ2, ?_, by rw [List.length_cons, show i + (xs.length + 1) = i + 1 + xs.length by omega]; exact h5⟩
    rw [forL.eq_2]
    simp only [h1, h2, h4]
theorem forL_rng {is : List Nat} {g : GS} {n : Nat} {ρ : DE} (P : Nat → DE → Prop) (hs : ∀ j, j < n → ∀ ρ, P j ρ → ∃ ρ', g (setsF ρ is [.int (j : Int)]) = .nx ρ' ∧ P (j + 1) ρ') (h : P 0 ρ) : ∃ ρ', forL t1 is g (rngD 0 n) ρ = .nx ρ' ∧ P n ρ' := by
  have hl : (rngD 0 (n : Int)).length = n := by unfold rngD; simp
  obtain ⟨ρ', h1, h2⟩ := forL_idx (t := t1) (is := is) (g := g) P (xs := rngD 0 n) (i := 0) (ρ := ρ) (fun j x hx ρ hρ => by
    have hj : j < n := by rw [← hl]; exact (List.getElem?_eq_some_iff.mp hx).1
    have ex : x = (.T, .int (j : Int)) := by
      unfold rngD at hx
      simp at hx
      obtain ⟨w, hw, rfl⟩ := hx
      rw [List.getElem?_range hj] at hw
      cases hw; rfl
    subst ex
    rw [Nat.zero_add] at hρ ⊢
    obtain ⟨ρ', h1, h2⟩ := hs j hj ρ hρ
    exact ⟨[.int j], ρ', rfl, h1, h2⟩) h
  exact ⟨ρ', h1, by rw [hl, Nat.zero_add] at h2; exact h2⟩
theorem ixD_lst (ds : List D) (i : Int) : ixD (.lst ds) (.int i) = (atI ds i).map sh := rfl
theorem reached_ok {b n : Nat} {d : D} {ps : List D} {e : D} (h : TD b n d) (hp : ∀ p ∈ ps, Stp p) (hl : ps.length < 1000) (hw : walk d ps = some e) : ∃ f, m_reached [d, .lst ps] = .ok (f, e) := by
  obtain ⟨f, hf⟩ : ∃ f, sh d = (f, d) := ⟨_, rfl⟩
  have hv : gSet 2 [0] (gVar 0) (enter 4 [d, .lst ps]) = .nx [some (sh d), some (.S, .lst ps), some (sh d), none] := by
    simp only [enter, gSet, List.map_cons, List.map_nil, hf, sh_lst]
    cases f <;> simp [viewF, gVar, hf, viaE, putV, leakF]
  obtain ⟨ρ', e1, here, x, e2, htd, e3⟩ := forL_rng (is := [3]) (g := gSeq (gIfS [1, 2, 3] (gNotT (gTest (gCall (gCons (gVar 2) (gCons (g2 (gVar 1) (gVar 3) (fun x y => ofO (ixD x.2 y.2))) (gNil))) m_leads_on))) (gNever) (gPass)) (gSet 2 [1, 2, 3] (g2 (gVar 2) (g2 (gVar 1) (gVar 3) (fun x y => ofO (ixD x.2 y.2))) (fun x y => ofO (ixD x.2 y.2)))))
    (n := ps.length) (ρ := [some (sh d), some (.S, .lst ps), some (sh d), none]) (fun i ρ => ∃ here x, ρ = [some (sh d), some (.S, .lst ps), some (sh here), x] ∧ TD b n here ∧ walk here (ps.drop i) = some e) (fun j hj ρ hρ => by
      obtain ⟨here, x, rfl, ht, hw⟩ := hρ
      rw [List.drop_eq_getElem_cons hj] at hw
      obtain ⟨e', he', hw'⟩ := Option.bind_eq_some_iff.mp hw
      have hpj := hp ps[j] (List.getElem_mem hj)
      have hl := leads_ok ht hpj
      rw [he'] at hl
      have hs := sh_stp hpj
      have hx := step_ix he'
      obtain ⟨f1, hf1⟩ : ∃ f, sh here = (f, here) := ⟨_, rfl⟩
      obtain ⟨f2, hf2⟩ : ∃ f, sh e' = (f, e') := ⟨_, rfl⟩
      obtain ⟨f0, hf0⟩ : ∃ f, sh d = (f, d) := ⟨_, rfl⟩
      refine ⟨[some (sh d), some (.S, .lst ps), some (sh e'), some (.T, .int (j : Int))], ?_, e', _, rfl, step_td ht he', hw'⟩
      refine q_seq (q_iff ?_ rfl) (q_set (x := sh e') ?_ ?_)
      · simp [setsF, gNotT, gTest, gCall, gCons, gNil, g2, gVar, viewF, sh_lst, sh_int, hf0, hf1, ixD_lst, atI_nat2 hj, hs, hl, toB]
      · simp [setsF, g2, gVar, viewF, sh_lst, sh_int, hf0, hf1, ixD_lst, atI_nat2 hj, hs]
        rw [hx]; rfl
      · rw [hf2, hf0, hf1]; cases f2 <;> simp [setsF, putV, leakF, hf1, sh_lst, sh_int]) ⟨d, none, rfl, h, hw⟩
  subst e2
  rw [List.drop_length] at e3
  cases e3
  refine ⟨(sh e).1, ?_⟩
  unfold m_reached g_reached
  refine run_of (q_seq hv (q_seq (q_for (q_rng (fl := .T) (n := ps.length) ?_ rfl hl) ?_ e1) rfl)) rfl
  · simp only [hf]; cases f <;> simp [gCall, gCons, gNil, gVar, viewF, sh_lst, lenD, oT]
  · simp [leakF, sh_lst]; rfl
end G
end

section
set_option Elab.async false
set_option maxRecDepth 100000
set_option linter.all false
set_option maxHeartbeats 4000000
namespace G
open PySem PySem.Spec
open PyProof.Rows hiding intD
open L2 hiding gCons gNil gLst
open VL
abbrev b_led : GS := gIfS [0, 2] (gAndT (gTest (gIsi "dict" (gVar 0))) (gAndT (gTest (gIsi "str" (gVar 2))) (gTest (g2 (gVar 2) (gVar 0) (fun x y => ofO ((fB inD) x.2 y.2)))))) (gSet 0 [0, 2] (g2 (gVar 0) (gVar 2) (fun x y => ofO (ixD x.2 y.2)))) (gIfS [0, 2] (gAndT (gTest (gIsi "list" (gVar 0))) (gAndT (gNotT (gTest (gIsi "str" (gVar 2)))) (gTest (g2 (gVar 2) (gCall (gCons (gVar 0) (gNil)) (fun ds => ofO (lenD ds))) (fun x y => ofO ((fB ltD) x.2 y.2)))))) (gSet 0 [0, 2] (g2 (gVar 0) (gVar 2) (fun x y => ofO (ixD x.2 y.2)))) (gRet [] (gLst (lCons (gCon (.bl false)) (lCons (gCon .non) (lNil))))))
theorem led_set {d p e : D} {l : List D} (hp : Stp p) (hs : step d p = some e) : gSet 0 [0, 2] (g2 (gVar 0) (gVar 2) (fun x y => ofO (ixD x.2 y.2))) [some (sh d), some (.S, .lst l), some (.T, p)] = .nx [some (sh e), some (.S, .lst l), some (.T, p)] := by
  obtain ⟨f, hf⟩ : ∃ f, sh d = (f, d) := ⟨_, rfl⟩
  obtain ⟨f2, hf2⟩ : ∃ f, sh e = (f, e) := ⟨_, rfl⟩
  have h1 := sh_stp hp
  have hx := step_ix hs
  refine q_set (x := sh e) ?_ ?_
  · simp [g2, gVar, viewF, hf, h1, hx]
  · rw [hf2, hf]; cases f2 <;> simp [putV, leakF, hf, h1]
theorem led_ret {ρ : DE} : gRet [] (gLst (lCons (gCon (.bl false)) (lCons (gCon .non) (lNil)))) ρ = .rt (.T, .lst [.bl false, .non]) := by
  simp [gRet, gLst, lCons, lNil, gCon, chk, le2, mkL, allT, viaE]
theorem led_body {b n : Nat} {d p : D} {l : List D} (h : TD b n d) (hp : Stp p) :
    (∀ e, step d p = some e → b_led [some (sh d), some (.S, .lst l), some (.T, p)] = .nx [some (sh e), some (.S, .lst l), some (.T, p)]) ∧
    (step d p = none → b_led [some (sh d), some (.S, .lst l), some (.T, p)] = .rt (.T, .lst [.bl false, .non])) := by
  obtain ⟨f, hf⟩ : ∃ f, sh d = (f, d) := ⟨_, rfl⟩
  rcases hp with ⟨s, rfl⟩ | ⟨k, rfl⟩
  · by_cases hd : ∃ kds, d = .dct kds
    · obtain ⟨kds, rfl⟩ := hd
      refine ⟨fun e he => q_ift ?_ (led_set (.inl ⟨s, rfl⟩) he), fun he => q_iff ?_ (q_iff ?_ led_ret)⟩
      · have he : look kds (.inr s) = some e := he
        simp [viewF, sh_dct, sh_str, gAndT, gTest, gIsi, gVar, i_dict_dct, i_str_str, toB, g2, fB, inD, keyOf, he]
      · have he : look kds (.inr s) = none := he
        simp [viewF, sh_dct, sh_str, gAndT, gTest, gIsi, gVar, i_dict_dct, i_str_str, toB, g2, fB, inD, keyOf, he]
      · simp [viewF, sh_dct, sh_str, gAndT, gTest, gIsi, gVar, i_list_dct, toB]
    · have h1 := isT_dict_ne h fun kds e => hd ⟨kds, e⟩
      have h2 : step d (.str s) = none := by
        unfold step
        split
        · rename_i kds s _; exact absurd ⟨_, rfl⟩ hd
        · rename_i ds i hh; cases hh
        · rfl
      refine ⟨fun e he => by rw [h2] at he; (cases he), fun he => q_iff ?_ (q_iff ?_ led_ret)⟩
      · simp [viewF, hf, sh_str, gAndT, gTest, gIsi, gVar, h1, toB, isi_go (T := "dict") (td_isO h), isi_go (T := "list") (td_isO h)]
      · cases hl : isT "list" d <;> simp [viewF, hf, sh_str, gAndT, gNotT, gTest, gIsi, gVar, hl, i_str_str, toB, isi_go (T := "dict") (td_isO h), isi_go (T := "list") (td_isO h)]
  · by_cases hd : ∃ kds, d = .lst kds
    · obtain ⟨kds, rfl⟩ := hd
      have hsl := step_len (d := .lst kds) (k := k) rfl
      refine ⟨fun e he => q_iff ?_ (q_ift ?_ (led_set (.inr ⟨k, rfl⟩) he)), fun he => q_iff ?_ (q_iff ?_ led_ret)⟩
      · simp [viewF, sh_lst, sh_int, gAndT, gTest, gIsi, gVar, i_dict_lst, toB]
      · rw [he] at hsl
        have hk : k < kds.length := by simpa using hsl.symm
        simp [viewF, sh_lst, sh_int, gAndT, gNotT, gTest, gIsi, gVar, i_list_lst, i_str_int, toB, g2, fB, gCall, gCons, gNil, lenD, oT, ltD, hk]
      · simp [viewF, sh_lst, sh_int, gAndT, gTest, gIsi, gVar, i_dict_lst, toB]
      · rw [he] at hsl
        have hk : ¬ k < kds.length := by simpa using hsl.symm
        simp [viewF, sh_lst, sh_int, gAndT, gNotT, gTest, gIsi, gVar, i_list_lst, i_str_int, toB, g2, fB, gCall, gCons, gNil, lenD, oT, ltD]
        omega
    · have h1 := isT_list_ne h fun kds e => hd ⟨kds, e⟩
      have h2 : step d (.int k) = none := by
        unfold step
        split
        · rename_i kds s hh; cases hh
        · rename_i ds i h; exact absurd ⟨_, rfl⟩ hd
        · rfl
      refine ⟨fun e he => by rw [h2] at he; (cases he), fun he => q_iff ?_ (q_iff ?_ led_ret)⟩
      · cases hl : isT "dict" d <;> simp [viewF, hf, sh_int, gAndT, gTest, gIsi, gVar, hl, i_str_int, toB, isi_go (T := "dict") (td_isO h), isi_go (T := "list") (td_isO h)]
      · simp [viewF, hf, sh_int, gAndT, gTest, gIsi, gVar, h1, toB, isi_go (T := "dict") (td_isO h), isi_go (T := "list") (td_isO h)]
theorem led_loop {b n : Nat} {l : List D} : ∀ {ps : List D} {d : D} {x : Option FD}, TD b n d → (∀ p ∈ ps, Stp p) →
    (∀ e, walk d ps = some e → ∃ x', forL t1 [2] b_led (ps.map sh) [some (sh d), some (.S, .lst l), x] = .nx [some (sh e), some (.S, .lst l), x']) ∧
    (walk d ps = none → forL t1 [2] b_led (ps.map sh) [some (sh d), some (.S, .lst l), x] = .rt (.T, .lst [.bl false, .non]))
  | [], d, x, _, _ => ⟨fun e h => by cases h; exact ⟨x, rfl⟩, fun h => by cases h⟩
  | p :: ps, d, x, ht, hp => by
    have hs := sh_stp (hp p List.mem_cons_self)
    have hb := led_body (l := l) ht (hp p List.mem_cons_self)
    cases hst : step d p with
    | none =>
      refine ⟨fun e h => by simp [walk, hst] at h, fun _ => ?_⟩
      rw [List.map_cons, forL.eq_2]
      simp only [t1, setsF, hs, List.set_cons_succ, List.set_cons_zero, hb.2 hst]
    | some e' =>
      obtain ⟨ih1, ih2⟩ := led_loop (l := l) (ps := ps) (d := e') (x := some (.T, p)) (step_td ht hst) fun q hq => hp q (List.mem_cons_of_mem _ hq)
      have hstep : forL t1 [2] b_led ((p :: ps).map sh) [some (sh d), some (.S, .lst l), x] = forL t1 [2] b_led (ps.map sh) [some (sh e'), some (.S, .lst l), some (.T, p)] := by
        rw [List.map_cons, forL.eq_2]
        simp only [t1, setsF, hs, List.set_cons_succ, List.set_cons_zero, hb.1 e' hst]
      rw [hstep]
      exact ⟨fun e h => ih1 e (by simpa [walk, hst] using h), fun h => ih2 (by simpa [walk, hst] using h)⟩
theorem led_ok {b n : Nat} {d : D} {ps : List D} (h : TD b n d) (hp : ∀ p ∈ ps, Stp p) : ∃ fl x, m_led [d, .lst ps] = .ok (fl, .lst [x, (walk d ps).getD .non]) := by
  have hL := led_loop (l := ps) (ps := ps) (d := d) (x := none) h hp
  obtain ⟨f, hf⟩ : ∃ f, sh d = (f, d) := ⟨_, rfl⟩
  unfold m_led g_law_led
  cases hw : walk d ps with
  | none =>
    refine ⟨.T, .bl false, run_of (q_rt (q_for (xs := ps.map sh) ?_ ?_ (hL.2 hw))) rfl⟩
    · simp [enter, gItL, gVar, viewF, sh_lst, itemsL]
    · simp [enter, leakF, sh_lst]; rfl
  | some e =>
    obtain ⟨x', e1⟩ := hL.1 e hw
    obtain ⟨f2, hf2⟩ : ∃ f, sh e = (f, e) := ⟨_, rfl⟩
    refine ⟨_, .bl true, run_of (q_seq (q_for (xs := ps.map sh) ?_ ?_ e1) (q_ret (x := mkL [((.T, .bl true) : FD), sh e]) ?_)) rfl⟩
    · simp [enter, gItL, gVar, viewF, sh_lst, itemsL]
    · simp [enter, leakF, sh_lst]; rfl
    · simp [hf2, gLst, lCons, lNil, gCon, gVar, viewF, chk, le2]
end G
end

section
set_option Elab.async false
set_option maxRecDepth 100000
set_option linter.all false
set_option maxHeartbeats 4000000
namespace G
open PySem PySem.Spec
open PyProof.Rows hiding intD
open L2 hiding gCons gNil gLst
open VL
theorem dv_of {i j : Int} (h : 0 < j) (h2 : j.natAbs.log2 < 9000) : divD (.int i) (.int j) = some (.T, .int (i / j)) := by simp only [divD]; rw [if_pos ⟨h, h2⟩]
theorem md_of {i j : Int} (h : 0 < j) : modD (.int i) (.int j) = some (.T, .int (i % j)) := by simp only [modD]; rw [if_pos h]
theorem pw_of {i j : Int} (h : 0 ≤ j ∧ j ≤ 1000000 ∧ i.natAbs < 2 ^ 64) : powD (.int i) (.int j) = some (.T, .int (i ^ j.toNat)) := by simp only [powD]; rw [if_pos h]
theorem ml_of {i j : Int} (h : (-(2 ^ 64) < i ∧ i < 2 ^ 64) ∨ (-(2 ^ 64) < j ∧ j < 2 ^ 64)) : mulD (.int i) (.int j) = some (.T, .int (i * j)) := by simp only [mulD]; rw [if_pos h]
theorem dv_2 (i : Int) : divD (.int i) (.int 2) = some (.T, .int (i / 2)) := dv_of (by decide +kernel) (by decide +kernel)
theorem md_2 (i : Int) : modD (.int i) (.int 2) = some (.T, .int (i % 2)) := md_of (by decide +kernel)
theorem dv_3 (i : Int) : divD (.int i) (.int 3) = some (.T, .int (i / 3)) := dv_of (by decide +kernel) (by decide +kernel)
theorem md_3 (i : Int) : modD (.int i) (.int 3) = some (.T, .int (i % 3)) := md_of (by decide +kernel)
theorem dv_4 (i : Int) : divD (.int i) (.int 4) = some (.T, .int (i / 4)) := dv_of (by decide +kernel) (by decide +kernel)
theorem md_4 (i : Int) : modD (.int i) (.int 4) = some (.T, .int (i % 4)) := md_of (by decide +kernel)
theorem dv_5 (i : Int) : divD (.int i) (.int 5) = some (.T, .int (i / 5)) := dv_of (by decide +kernel) (by decide +kernel)
theorem md_5 (i : Int) : modD (.int i) (.int 5) = some (.T, .int (i % 5)) := md_of (by decide +kernel)
theorem dv_7 (i : Int) : divD (.int i) (.int 7) = some (.T, .int (i / 7)) := dv_of (by decide +kernel) (by decide +kernel)
theorem md_7 (i : Int) : modD (.int i) (.int 7) = some (.T, .int (i % 7)) := md_of (by decide +kernel)
theorem dv_8 (i : Int) : divD (.int i) (.int 8) = some (.T, .int (i / 8)) := dv_of (by decide +kernel) (by decide +kernel)
theorem md_8 (i : Int) : modD (.int i) (.int 8) = some (.T, .int (i % 8)) := md_of (by decide +kernel)
theorem dv_9 (i : Int) : divD (.int i) (.int 9) = some (.T, .int (i / 9)) := dv_of (by decide +kernel) (by decide +kernel)
theorem md_9 (i : Int) : modD (.int i) (.int 9) = some (.T, .int (i % 9)) := md_of (by decide +kernel)
theorem dv_10 (i : Int) : divD (.int i) (.int 10) = some (.T, .int (i / 10)) := dv_of (by decide +kernel) (by decide +kernel)
theorem md_10 (i : Int) : modD (.int i) (.int 10) = some (.T, .int (i % 10)) := md_of (by decide +kernel)
theorem dv_11 (i : Int) : divD (.int i) (.int 11) = some (.T, .int (i / 11)) := dv_of (by decide +kernel) (by decide +kernel)
theorem md_11 (i : Int) : modD (.int i) (.int 11) = some (.T, .int (i % 11)) := md_of (by decide +kernel)
theorem dv_12 (i : Int) : divD (.int i) (.int 12) = some (.T, .int (i / 12)) := dv_of (by decide +kernel) (by decide +kernel)
theorem md_12 (i : Int) : modD (.int i) (.int 12) = some (.T, .int (i % 12)) := md_of (by decide +kernel)
theorem dv_13 (i : Int) : divD (.int i) (.int 13) = some (.T, .int (i / 13)) := dv_of (by decide +kernel) (by decide +kernel)
theorem md_13 (i : Int) : modD (.int i) (.int 13) = some (.T, .int (i % 13)) := md_of (by decide +kernel)
theorem dv_17 (i : Int) : divD (.int i) (.int 17) = some (.T, .int (i / 17)) := dv_of (by decide +kernel) (by decide +kernel)
theorem md_17 (i : Int) : modD (.int i) (.int 17) = some (.T, .int (i % 17)) := md_of (by decide +kernel)
theorem dv_18 (i : Int) : divD (.int i) (.int 18) = some (.T, .int (i / 18)) := dv_of (by decide +kernel) (by decide +kernel)
theorem md_18 (i : Int) : modD (.int i) (.int 18) = some (.T, .int (i % 18)) := md_of (by decide +kernel)
theorem dv_26 (i : Int) : divD (.int i) (.int 26) = some (.T, .int (i / 26)) := dv_of (by decide +kernel) (by decide +kernel)
theorem md_26 (i : Int) : modD (.int i) (.int 26) = some (.T, .int (i % 26)) := md_of (by decide +kernel)
theorem dv_27 (i : Int) : divD (.int i) (.int 27) = some (.T, .int (i / 27)) := dv_of (by decide +kernel) (by decide +kernel)
theorem md_27 (i : Int) : modD (.int i) (.int 27) = some (.T, .int (i % 27)) := md_of (by decide +kernel)
theorem dv_35 (i : Int) : divD (.int i) (.int 35) = some (.T, .int (i / 35)) := dv_of (by decide +kernel) (by decide +kernel)
theorem md_35 (i : Int) : modD (.int i) (.int 35) = some (.T, .int (i % 35)) := md_of (by decide +kernel)
theorem dv_36 (i : Int) : divD (.int i) (.int 36) = some (.T, .int (i / 36)) := dv_of (by decide +kernel) (by decide +kernel)
theorem md_36 (i : Int) : modD (.int i) (.int 36) = some (.T, .int (i % 36)) := md_of (by decide +kernel)
theorem dv_41 (i : Int) : divD (.int i) (.int 41) = some (.T, .int (i / 41)) := dv_of (by decide +kernel) (by decide +kernel)
theorem md_41 (i : Int) : modD (.int i) (.int 41) = some (.T, .int (i % 41)) := md_of (by decide +kernel)
theorem dv_72 (i : Int) : divD (.int i) (.int 72) = some (.T, .int (i / 72)) := dv_of (by decide +kernel) (by decide +kernel)
theorem md_72 (i : Int) : modD (.int i) (.int 72) = some (.T, .int (i % 72)) := md_of (by decide +kernel)
theorem dv_81 (i : Int) : divD (.int i) (.int 81) = some (.T, .int (i / 81)) := dv_of (by decide +kernel) (by decide +kernel)
theorem md_81 (i : Int) : modD (.int i) (.int 81) = some (.T, .int (i % 81)) := md_of (by decide +kernel)
theorem dv_93 (i : Int) : divD (.int i) (.int 93) = some (.T, .int (i / 93)) := dv_of (by decide +kernel) (by decide +kernel)
theorem md_93 (i : Int) : modD (.int i) (.int 93) = some (.T, .int (i % 93)) := md_of (by decide +kernel)
theorem dv_94 (i : Int) : divD (.int i) (.int 94) = some (.T, .int (i / 94)) := dv_of (by decide +kernel) (by decide +kernel)
theorem md_94 (i : Int) : modD (.int i) (.int 94) = some (.T, .int (i % 94)) := md_of (by decide +kernel)
theorem dv_155 (i : Int) : divD (.int i) (.int 155) = some (.T, .int (i / 155)) := dv_of (by decide +kernel) (by decide +kernel)
theorem md_155 (i : Int) : modD (.int i) (.int 155) = some (.T, .int (i % 155)) := md_of (by decide +kernel)
theorem dv_243 (i : Int) : divD (.int i) (.int 243) = some (.T, .int (i / 243)) := dv_of (by decide +kernel) (by decide +kernel)
theorem md_243 (i : Int) : modD (.int i) (.int 243) = some (.T, .int (i % 243)) := md_of (by decide +kernel)
theorem dv_465 (i : Int) : divD (.int i) (.int 465) = some (.T, .int (i / 465)) := dv_of (by decide +kernel) (by decide +kernel)
theorem md_465 (i : Int) : modD (.int i) (.int 465) = some (.T, .int (i % 465)) := md_of (by decide +kernel)
theorem dv_729 (i : Int) : divD (.int i) (.int 729) = some (.T, .int (i / 729)) := dv_of (by decide +kernel) (by decide +kernel)
theorem md_729 (i : Int) : modD (.int i) (.int 729) = some (.T, .int (i % 729)) := md_of (by decide +kernel)
theorem dv_864 (i : Int) : divD (.int i) (.int 864) = some (.T, .int (i / 864)) := dv_of (by decide +kernel) (by decide +kernel)
theorem md_864 (i : Int) : modD (.int i) (.int 864) = some (.T, .int (i % 864)) := md_of (by decide +kernel)
theorem dv_31 (i : Int) : divD (.int i) (.int 31) = some (.T, .int (i / 31)) := dv_of (by decide +kernel) (by decide +kernel)
theorem md_31 (i : Int) : modD (.int i) (.int 31) = some (.T, .int (i % 31)) := md_of (by decide +kernel)
theorem dv_6 (i : Int) : divD (.int i) (.int 6) = some (.T, .int (i / 6)) := dv_of (by decide +kernel) (by decide +kernel)
theorem md_6 (i : Int) : modD (.int i) (.int 6) = some (.T, .int (i % 6)) := md_of (by decide +kernel)
theorem dv_1000003 (i : Int) : divD (.int i) (.int 1000003) = some (.T, .int (i / 1000003)) := dv_of (by decide +kernel) (by decide +kernel)
theorem md_1000003 (i : Int) : modD (.int i) (.int 1000003) = some (.T, .int (i % 1000003)) := md_of (by decide +kernel)
theorem sz_1 : (1 : Nat) ≤ sizeLine := by decide +kernel
theorem sz_2 : (2 : Nat) ≤ sizeLine := by decide +kernel
theorem sz_3 : (3 : Nat) ≤ sizeLine := by decide +kernel
theorem sz_4 : (4 : Nat) ≤ sizeLine := by decide +kernel
theorem sz_7 : (7 : Nat) ≤ sizeLine := by decide +kernel
theorem sz_8 : (8 : Nat) ≤ sizeLine := by decide +kernel
theorem sz_18 : (18 : Nat) ≤ sizeLine := by decide +kernel
theorem ml_r {i j : Int} (h : -(2 ^ 64) < j ∧ j < 2 ^ 64) : mulD (.int i) (.int j) = some (.T, .int (i * j)) := ml_of (.inr h)
theorem ml_l {i j : Int} (h : -(2 ^ 64) < i ∧ i < 2 ^ 64) : mulD (.int i) (.int j) = some (.T, .int (i * j)) := ml_of (.inl h)
theorem ad_i (i j : Int) : addD (.int i) (.int j) = some (.T, .int (i + j)) := rfl
theorem sb_i (i j : Int) : subD (.int i) (.int j) = some (.T, .int (i - j)) := rfl
theorem ix_lst {ds : List D} {i : Int} (h0 : 0 ≤ i) (h : i < ds.length) : ∃ d, d ∈ ds ∧ ixD (.lst ds) (.int i) = some (sh d) := by
  obtain ⟨k, rfl⟩ := Int.eq_ofNat_of_zero_le h0
  have hk : k < ds.length := by omega
  exact ⟨ds[k], List.getElem_mem hk, by rw [ixD_lst]; show (atI ds (k : Int)).map sh = _; rw [atI_nat2 hk]; rfl⟩
theorem ix_str {z : Str} {i : Int} (hz : z.length ≤ sizeLine) (h0 : 0 ≤ i) (h : i < z.length) : ∃ c, ixD (.str z) (.int i) = some (.T, .str ⟨#[c]⟩) := by
  obtain ⟨k, rfl⟩ := Int.eq_ofNat_of_zero_le h0
  have hk : k < z.cps.toList.length := by rw [Array.length_toList]; have : z.length = z.cps.size := rfl; omega
  refine ⟨z.cps.toList[k], ?_⟩
  show (if z.length ≤ sizeLine then (atI z.cps.toList (k : Int)).map fun c => ((.T, .str ⟨#[c]⟩) : FD) else none) = _
  rw [if_pos hz, atI_nat2 hk]; rfl
theorem eq_int (i j : Int) : (fB (eqN 32)) (.int i) (.int j) = some (.T, .bl (i == j)) := rfl
end G
end

section
set_option Elab.async false
set_option maxRecDepth 100000
set_option linter.all false
set_option maxHeartbeats 4000000
namespace G
open PySem PySem.Spec
open PyProof.Rows hiding intD
open L2 hiding gCons gNil gLst
open VL
/-! cells -/
theorem cell_ok {ns : List Int} (hn : ns.length ≤ 1000) {k : Int} (h0 : 0 ≤ k) (h1 : k < 2 ^ 50) : ∃ c, m_cell [.scr ns, .int k] = .ok (.T, .int c) ∧ 0 ≤ c ∧ c < 1000003 := by
  have tail : ∀ m : Int, 0 ≤ m → m < 2 ^ 64 → ∃ c, gRet [2] (g2 (g2 (g2 (g2 (gVar 2) (gVar 2) (fun x y => ofO (mulD x.2 y.2))) (gCon (.int 11)) (fun x y => ofO (divD x.2 y.2))) (g2 (gCon (.int 13)) (gVar 2) (fun x y => ofO (mulD x.2 y.2))) (fun x y => ofO (addD x.2 y.2))) (gCon (.int 1000003)) (fun x y => ofO (modD x.2 y.2))) [some (.S, .scr ns), some (.T, .int k), some (.T, .int m)] = .rt (.T, .int c) ∧ 0 ≤ c ∧ c < 1000003 := fun m hm0 hm1 => by
    refine ⟨(m * m / 11 + 13 * m) % 1000003, q_ret ?_, Int.emod_nonneg _ (by decide), Int.emod_lt_of_pos _ (by decide)⟩
    simp [viewF, g2, gVar, gCon, sh_int, ml_l (i := m) (j := m) ⟨by omega, by omega⟩, ml_l (i := 13) (j := m) ⟨by decide, by decide⟩, dv_11, md_1000003, ad_i]
  have e1 : gSet 2 [1] (g2 (gVar 1) (gCon (.int 7919)) (fun x y => ofO (mulD x.2 y.2))) (enter 3 [.scr ns, .int k]) = .nx [some (.S, .scr ns), some (.T, .int k), some (.T, .int (k * 7919))] := by
    refine q_set (x := (.T, .int (k * 7919))) ?_ rfl
    simp [enter, viewF, g2, gVar, gCon, sh_int, sh_scr, ml_r (i := k) (j := 7919) ⟨by decide, by decide⟩]
  have hq : eqN 32 (.scr ns) (.lst []) = some ns.isEmpty := rfl
  unfold m_cell g_law_cell
  cases hns : ns with
  | nil =>
    subst hns
    obtain ⟨c, hc, b1, b2⟩ := tail (k * 7919) (by omega) (by omega)
    refine ⟨c, run_of (q_seq e1 (q_seq (q_iff ?_ rfl) hc)) rfl, b1, b2⟩
    simp [viewF, gTest, g2, gVar, sh_scr, gLst, lNil, chk, mkL, allT, fB, hq, toB]
  | cons a r =>
    rw [← hns]
    have hl : 0 < ns.length := by rw [hns]; simp
    have hlog : ns.length.log2 < 9000 := Nat.lt_of_le_of_lt (Nat.log2_le_self _) (by omega)
    have hd : divD (.int k) (.int (ns.length : Int)) = some (.T, .int (k / ns.length)) := dv_of (by omega) (by simpa using hlog)
    have hm : modD (.int k) (.int (ns.length : Int)) = some (.T, .int (k % ns.length)) := md_of (by omega)
    obtain ⟨x, hx⟩ : ∃ x, ixD (.scr ns) (.int (k % ns.length)) = some (.T, .int x) := by
      obtain ⟨j, hj⟩ := Int.eq_ofNat_of_zero_le (Int.emod_nonneg k (b := (ns.length : Int)) (by omega))
      have hjl : j < ns.length := by have := Int.emod_lt_of_pos k (b := (ns.length : Int)) (by omega); omega
      refine ⟨ns[j], ?_⟩
      rw [hj]
      show (atI ns (j : Int)).map _ = _
      rw [atI_nat2 hjl]; rfl
    obtain ⟨c, hc, b1, b2⟩ := tail ((k * 7919 + k / ns.length * 104729 + x * 48271) % 1000003) (Int.emod_nonneg _ (by decide)) (Int.lt_trans (Int.emod_lt_of_pos _ (by decide)) (by decide))
    refine ⟨c, run_of (q_seq e1 (q_seq (q_ift ?_ (q_seq (q_set (x := (.T, .int (k * 7919 + k / ns.length * 104729))) ?_ rfl) (q_set (x := (.T, .int ((k * 7919 + k / ns.length * 104729 + x * 48271) % 1000003))) ?_ rfl))) hc)) rfl, b1, b2⟩
    · have : ns.isEmpty = false := by rw [hns]; rfl
      simp [viewF, gTest, g2, gVar, sh_scr, gLst, lNil, chk, mkL, allT, fB, hq, this, toB]
    · simp [viewF, g2, gVar, gCon, gCall, gCons, gNil, sh_scr, sh_int, lenD, oT, hd, ml_r (i := k / ns.length) (j := 104729) ⟨by decide, by decide⟩, ad_i]
    · simp [viewF, putV, g2, gVar, gCon, gCall, gCons, gNil, sh_scr, sh_int, lenD, oT, hm, hx, ml_r (i := x) (j := 48271) ⟨by decide, by decide⟩, ad_i, md_1000003]
end G
end

section
set_option Elab.async false
set_option maxRecDepth 100000
set_option linter.all false
set_option maxHeartbeats 4000000
namespace G
open PySem PySem.Spec
open PyProof.Rows hiding intD
open L2 hiding gCons gNil gLst
open VL
/-! numbers -/
theorem pw_12 : powD (.int 10) (.int 12) = some (.T, .int 1000000000000) := pw_of (by decide +kernel)
theorem pw_11 : powD (.int 10) (.int 11) = some (.T, .int 100000000000) := pw_of (by decide +kernel)
theorem num_ok {c : Int} (h0 : 0 ≤ c) (h1 : c < 2 ^ 60) : ∃ i, m_number_by [.int c] = .ok (.T, .int i) := by
  have p4 : powD (.int c) (.int 4) = some (.T, .int (c ^ 4)) := pw_of ⟨by decide, by decide, by omega⟩
  have pbig : modD (.int (c ^ 4)) (.int (2 * 1000000000000 + 1)) = some (.T, .int (c ^ 4 % (2 * 1000000000000 + 1))) := md_of (by decide +kernel)
  have m2 : mulD (.int 2) (.int 1000000000000) = some (.T, .int (2 * 1000000000000)) := ml_l ⟨by decide, by decide⟩
  unfold m_number_by g_law_number_by
  by_cases a : c % 3 = 0
  · refine ⟨_, run_of (q_rt (q_ift ?_ (q_ret (x := (.T, .int (c / 3 % 41 - 20))) ?_))) rfl⟩
    · simp [enter, viewF, gTest, g2, gVar, gCon, sh_int, md_3, eq_int, a, toB]
    · simp [enter, viewF, g2, gVar, gCon, sh_int, dv_3, md_41, sb_i]
  · by_cases b : c % 3 = 1
    · refine ⟨_, run_of (q_seq (q_iff ?_ rfl) (q_rt (q_ift ?_ (q_ret (x := (.T, .int (c ^ 4 % (2 * 1000000000000 + 1) - 1000000000000))) ?_)))) rfl⟩
      · simp [enter, viewF, gTest, g2, gVar, gCon, sh_int, md_3, eq_int, a, toB]
      · simp [enter, viewF, gTest, g2, gVar, gCon, sh_int, md_3, eq_int, b, toB]
      · simp only [enter, viewF, g2, gVar, gCon, sh_int, List.map_cons, List.map_nil, List.cons_append, List.nil_append, List.getElem?_cons_zero, p4, pw_12, m2, ad_i, pbig, sb_i, Res.bind_ok, ofO_some, List.contains_cons, BEq.rfl, Bool.true_or, or_true, if_true]
    · obtain ⟨d, hd, hx⟩ := ix_lst (ds := [.int 1000000000000, .int (-1000000000000), .int (1000000000000 - 1), .int 0, .int 1, .int (-1), .int 100000000000, .int 999]) (i := c / 3 % 8) (Int.emod_nonneg _ (by decide)) (Int.emod_lt_of_pos _ (by decide))
      have hi : ∃ i, d = .int i := by
        simp only [List.mem_cons, List.not_mem_nil, or_false] at hd
        rcases hd with h | h | h | h | h | h | h | h <;> exact ⟨_, h⟩
      obtain ⟨i, rfl⟩ := hi
      refine ⟨i, run_of (q_seq (q_iff ?_ rfl) (q_seq (q_iff ?_ rfl) (q_ret (x := (.T, .int i)) ?_))) rfl⟩
      · simp [enter, viewF, gTest, g2, gVar, gCon, sh_int, md_3, eq_int, a, toB]
      · simp [enter, viewF, gTest, g2, gVar, gCon, sh_int, md_3, eq_int, b, toB]
      · simp only [enter, viewF, g2, gVar, gCon, sh_int, List.map_cons, List.map_nil, List.cons_append, List.nil_append, List.getElem?_cons_zero, pw_12, pw_11, negD, ad_i, sb_i, Res.bind_ok, ofO_some, List.contains_cons, BEq.rfl, Bool.true_or, or_true, if_true, gLst, lCons, lNil, chk, List.length_cons, List.length_nil, mkL, dv_3, md_8]
        rw [if_pos]
        · simp only [Res.bind_ok, hx, ofO_some, sh_int]
        · decide +kernel
end G
end

section
set_option Elab.async false
set_option maxRecDepth 100000
set_option linter.all false
set_option maxHeartbeats 4000000
namespace G
open PySem PySem.Spec
open PyProof.Rows hiding intD
open L2 hiding gCons gNil gLst
open VL
theorem compL_ex {t : D → Option (List D)} {is : List Nat} {g : GE} {ρ : List (Option D)} (P : FD → Prop) : ∀ {xs : List FD}, (∀ x ∈ xs, ∃ as y, t x.2 = some as ∧ g (setsD ρ is as) = .ok y ∧ P y) → ∃ ys, compL t is cYes g ρ xs = .ok ys ∧ ys.length = xs.length ∧ ∀ y ∈ ys, P y
  | [], _ => ⟨[], rfl, rfl, by simp⟩
  | x :: xs, h => by
    obtain ⟨as, y, h1, h2, h3⟩ := h x List.mem_cons_self
    obtain ⟨ys, e1, e2, e3⟩ := compL_ex P (xs := xs) fun z hz => h z (List.mem_cons_of_mem _ hz)
    refine ⟨y :: ys, ?_, by simp [e2], fun z hz => ?_⟩
    · unfold compL
      rw [h1]
      simp only [cYes, Res.nox_ok, Res.bind_ok, if_true]
      rw [h2, e1]
      rfl
    · rcases List.mem_cons.mp hz with rfl | hz
      · exact h3
      · exact e3 z hz
theorem mem_rng {n : Nat} {x : FD} (h : x ∈ rngD 0 (n : Int)) : ∃ j : Nat, j < n ∧ x = (.T, .int (j : Int)) := by
  unfold rngD at h
  obtain ⟨j, hj, rfl⟩ := List.mem_map.mp h
  refine ⟨j, by simpa using hj, by simp⟩
theorem rng_len (n : Nat) : (rngD 0 (n : Int)).length = n := by unfold rngD; simp
def Sgn (y : FD) : Prop := ∃ c, y = (Fl.T, D.str ⟨#[c]⟩)
theorem signs_list : ∀ {ys : List FD}, (∀ y ∈ ys, Sgn y) → ∃ ss : List Str, ys.map (·.2) = ss.map D.str ∧ (∀ z ∈ ss, z.length = 1) ∧ allT ys = true ∧ ss.length = ys.length
  | [], _ => ⟨[], rfl, by simp, rfl, rfl⟩
  | y :: ys, h => by
    obtain ⟨c, rfl⟩ := h y List.mem_cons_self
    obtain ⟨ss, h1, h2, h3, h4⟩ := signs_list (ys := ys) fun z hz => h z (List.mem_cons_of_mem _ hz)
    refine ⟨⟨#[c]⟩ :: ss, by simp [h1], fun z hz => ?_, by unfold allT at h3 ⊢; simpa using h3, by simp [h4]⟩
    rcases List.mem_cons.mp hz with rfl | hz
    · rfl
    · exact h2 z hz
theorem joinL_len : ∀ {ps : List (List Nat)}, (∀ p ∈ ps, p.length = 1) → (TL.joinL [] ps).length = ps.length
  | [], _ => rfl
  | [p], h => h p List.mem_cons_self
  | p :: q :: r, h => by
    show (p ++ ([] ++ TL.joinL [] (q :: r))).length = _
    rw [List.nil_append, List.length_append, joinL_len fun x hx => h x (List.mem_cons_of_mem _ hx), h p List.mem_cons_self]
    simp; omega
theorem asStrs_map (ss : List Str) : asStrs (ss.map D.str) = some ss := by
  induction ss with
  | nil => rfl
  | cons s ss ih => rw [List.map_cons]; unfold asStrs; rw [ih]; rfl
theorem join_ok {ss : List Str} (h : ∀ z ∈ ss, z.length = 1) (hl : ss.length ≤ 1000) : ∃ s : Str, joinD (.str "") (.lst (ss.map D.str)) = some (.T, .str s) ∧ s.length = ss.length := by
  have hsum : ∀ {l : List Str}, (∀ z ∈ l, z.length = 1) → (l.map fun x => x.length).sum = l.length := by
    intro l
    induction l with
    | nil => intro _; rfl
    | cons a l ih => intro h; simp [h a List.mem_cons_self, ih fun z hz => h z (List.mem_cons_of_mem _ hz)]; omega
  have h0 : ("" : Str).length = 0 := by decide +kernel
  have ht : TL.tl ("" : Str) = [] := by decide +kernel
  refine ⟨Txt.join "" ss, ?_, ?_⟩
  · simp only [joinD, asStrs_map, Option.bind_some, h0, hsum h, Nat.mul_zero, Nat.add_zero]
    rw [if_pos (by omega)]
  · have e := TL.tl_join "" ss
    rw [ht, ← TL.join_eq] at e
    have e2 := congrArg List.length e
    rw [joinL_len (by
      intro p hp
      obtain ⟨z, hz, rfl⟩ := List.mem_map.mp hp
      have := h z hz
      rw [← this]; exact Array.length_toList), List.length_map] at e2
    rw [← e2]; exact (Array.length_toList).symm
theorem rep_ok {z : Str} {n : Int} (hz : z.length ≤ 1) (h0 : 0 ≤ n) (h1 : n ≤ 100) : ∃ s : Str, mulD (.str z) (.int n) = some (.T, .str s) ∧ (s.length : Int) ≤ n := by
  refine ⟨repS z n.toNat, by simp only [mulD]; rw [if_pos ⟨h0, by omega, by omega⟩], ?_⟩
  have e : (repS z n.toNat).length = n.toNat * z.length := by
    show (repS z n.toNat).cps.size = _
    unfold repS
    rw [repS_length]; simp
  rw [e]
  have : n.toNat * z.length ≤ n.toNat * 1 := Nat.mul_le_mul_left _ hz
  omega
theorem cat_ok {a b : Str} (h : a.length + b.length ≤ 1000) : ∃ s : Str, addD (.str a) (.str b) = some (.T, .str s) ∧ s.length = a.length + b.length := by
  refine ⟨a ++ b, ?_, Str.length_append a b⟩
  simp only [addD]; rw [if_pos (Nat.le_trans h (by decide))]
theorem comp_signs {i : Nat} {own : List Nat} {e idx : GE} {ρ : List (Option D)} {z : Str} {n : Nat} {m : Int} (hown : own = [i]) (hi : i < ρ.length) (he : ∃ fl, e ρ = .ok (fl, .int n)) (hn : n < 1000) (hz : z.length ≤ sizeLine) (hm : m = z.length)
    (hv : ∀ j : Nat, j < n → gVar 1 ((wipeD ρ own).set i (some (.int (j : Int)))) = .ok (.T, .str z)) (hx : ∀ j : Nat, j < n → ∃ fl k, idx ((wipeD ρ own).set i (some (.int (j : Int)))) = .ok (fl, .int (k % m))) (hpos : 0 < m) :
    ∃ ss : List Str, gComp own [i] (gItR1 e) t1 cYes (g2 (gVar 1) idx (fun x y => ofO (ixD x.2 y.2))) ρ = .ok (.T, .lst (ss.map D.str)) ∧ (∀ z ∈ ss, z.length = 1) ∧ ss.length = n := by
  obtain ⟨fl, he⟩ := he
  obtain ⟨ys, e1, e2, e3⟩ := compL_ex (t := t1) (is := [i]) (g := g2 (gVar 1) idx (fun x y => ofO (ixD x.2 y.2))) (ρ := wipeD ρ own) Sgn (xs := rngD 0 n) fun x hx' => by
    obtain ⟨j, hj, rfl⟩ := mem_rng hx'
    obtain ⟨fl, k, hk⟩ := hx j hj
    obtain ⟨c, hc⟩ := ix_str (z := z) (i := k % m) hz (Int.emod_nonneg _ (by omega)) (by rw [← hm]; exact Int.emod_lt_of_pos _ hpos)
    refine ⟨[.int (j : Int)], (.T, .str ⟨#[c]⟩), rfl, ?_, c, rfl⟩
    simp only [setsD, g2, hv j hj, hk, Res.bind_ok, hc, ofO_some]
  rw [rng_len] at e2
  obtain ⟨ss, h1, h2, h3, h4⟩ := signs_list e3
  refine ⟨ss, ?_, h2, by omega⟩
  unfold gComp
  rw [q_rng he rfl hn]
  simp only [Res.bind_ok, rng_len, if_pos (td_sz (b := 1000) hn (by decide)), e1, mkL, h3, h1, if_true]
end G
end

section
set_option Elab.async false
set_option maxRecDepth 100000
set_option linter.all false
set_option maxHeartbeats 4000000
namespace G
open PySem PySem.Spec
open PyProof.Rows hiding intD
open L2 hiding gCons gNil gLst
open VL
abbrev letters : Str := "abcdefghijklmnopqrstuvwxyz0123456789"
theorem letters_len : letters.length = 36 := by decide +kernel
theorem sz1q : decide (0 + 1 ≤ sizeLine) = true := by decide +kernel
theorem sz2q : decide (0 + 1 + 1 ≤ sizeLine) = true := by decide +kernel
theorem sz3q : decide (0 + 1 + 1 + 1 ≤ sizeLine) = true := by decide +kernel
theorem fin_rt {o : Fo} {x : FD} (h : o = .rt x) : fin o = .ok x := by rw [h]; rfl
theorem one_len {c : Nat} : (⟨#[c]⟩ : Str).length = 1 := rfl
theorem name_ok {c : Int} (h0 : 0 ≤ c) (h1 : c < 2 ^ 60) : ∃ s : Str, s.length ≤ 12 ∧ m_name_by [.int c] = .ok (.T, .str s) := by
  have hL : letters.length ≤ sizeLine := by rw [letters_len]; decide
  obtain ⟨d, hd, hx⟩ := ix_lst (ds := [.int 1, .int (1 + c / 3 % 4), .int (1 + c / 3 % 12)]) (i := c % 3) (Int.emod_nonneg _ (by decide)) (Int.emod_lt_of_pos _ (by decide))
  obtain ⟨z, rfl, z1, z2⟩ : ∃ z : Int, d = .int z ∧ 1 ≤ z ∧ z ≤ 12 := by
    simp only [List.mem_cons, List.not_mem_nil, or_false] at hd
    rcases hd with h | h | h
    · exact ⟨_, h, by omega, by omega⟩
    · exact ⟨_, h, by omega, by omega⟩
    · exact ⟨_, h, by omega, by omega⟩
  have s1 : gSet 1 [] (gCon (.str "abcdefghijklmnopqrstuvwxyz0123456789")) (enter 8 [.int c]) = .nx [some (.T, .int c), some (.T, .str letters), none, none, none, none, none, none] := q_set (x := (.T, .str letters)) rfl rfl
  unfold m_name_by g_law_name_by
  have s2 : ∀ {k : GS} {r : Res FD}, (∀ o, k [some (.T, .int c), some (.T, .str letters), some (.T, .int z), none, none, none, none, none] = o → fin o = r) → fin (gSeq (gSet 2 [0] (g2 (gLst (lCons (gCon (.int 1)) (lCons (g2 (gCon (.int 1)) (g2 (g2 (gVar 0) (gCon (.int 3)) (fun x y => ofO (divD x.2 y.2))) (gCon (.int 4)) (fun x y => ofO (modD x.2 y.2))) (fun x y => ofO (addD x.2 y.2))) (lCons (g2 (gCon (.int 1)) (g2 (g2 (gVar 0) (gCon (.int 3)) (fun x y => ofO (divD x.2 y.2))) (gCon (.int 12)) (fun x y => ofO (modD x.2 y.2))) (fun x y => ofO (addD x.2 y.2))) (lNil))))) (g2 (gVar 0) (gCon (.int 3)) (fun x y => ofO (modD x.2 y.2))) (fun x y => ofO (ixD x.2 y.2)))) k [some (.T, .int c), some (.T, .str letters), none, none, none, none, none, none]) = r := fun {k r} hk => by
    rw [q_seq (ρ1 := [some (.T, .int c), some (.T, .str letters), some (.T, .int z), none, none, none, none, none]) (q_set (x := (.T, .int z)) ?_ rfl) rfl]
    · exact hk _ rfl
    · show g2 _ _ _ [some (.int c), none, none, none, none, none, none, none] = _
      simp only [g2, gLst, lCons, lNil, gCon, gVar, List.getElem?_cons_zero, sh_int, Res.bind_ok, dv_3, md_4, md_12, md_3, ofO_some, ad_i, chk, List.length_cons, List.length_nil, sz3q, if_true, mkL, List.map_cons, List.map_nil, hx, ofO_some, sh_int]
  by_cases a : c / 36 % 2 = 1
  · obtain ⟨at1, hat⟩ : ∃ at1, at1 = c / 72 % z := ⟨_, rfl⟩
    have a0 : 0 ≤ at1 := by rw [hat]; exact Int.emod_nonneg _ (by omega)
    have a1 : at1 < z := by rw [hat]; exact Int.emod_lt_of_pos _ (by omega)
    obtain ⟨sa, ha, la⟩ := rep_ok (z := "a") (n := at1) (by decide +kernel) a0 (by omega)
    obtain ⟨sb, hb, lb⟩ := rep_ok (z := "a") (n := z - at1 - 1) (by decide +kernel) (by omega) (by omega)
    obtain ⟨ch, hch⟩ := ix_str (z := letters) (i := c / 864 % 26) hL (Int.emod_nonneg _ (by decide)) (by rw [letters_len]; exact Int.lt_trans (Int.emod_lt_of_pos _ (by decide)) (by decide))
    obtain ⟨s2', hs2, l2⟩ := cat_ok (a := sa) (b := ⟨#[ch]⟩) (by rw [one_len]; omega)
    obtain ⟨s3, hs3, l3⟩ := cat_ok (a := s2') (b := sb) (by rw [l2, one_len]; omega)
    rw [one_len] at l2
    refine ⟨s3, by omega, run_of (q_seq s1 rfl) (s2 fun o ho => ?_)⟩
    subst ho
    have md : modD (.int (c / 72)) (.int z) = some (.T, .int at1) := by rw [hat]; exact md_of (by omega)
    refine fin_rt (q_rt (x := (.T, .str s3)) ?_)
    · refine q_ift ?_ (q_seq (q_set (x := (.T, .int at1)) ?_ rfl) (q_seq (q_set (x := (.T, .str s3)) ?_ rfl) rfl))
      · simp [viewF, gTest, g2, gVar, gCon, sh_int, dv_36, md_2, eq_int, a, toB]
      · simp [viewF, g2, gVar, gCon, sh_int, dv_72, md]
      · show g2 _ _ _ [some (.int c), some (.str letters), some (.int z), none, none, some (.int at1), none, none] = _
        simp only [g2, gCon, gVar, List.getElem?_cons_zero, List.getElem?_cons_succ, sh_int, sh_str, Res.bind_ok, ha, dv_864, md_26, hch, ofO_some, hs2, sb_i, hb, hs3]
  · have key : ∀ y : Int, 0 ≤ y → y < 1000 → (g2 (g2 (g2 (gVar 0) (gCon (.int 7)) (fun x y => ofO (divD x.2 y.2))) (g2 (gVar 7) (gVar 3) (fun x y => ofO (mulD x.2 y.2))) (fun x y => ofO (addD x.2 y.2))) (gCon (.int 36)) (fun x y => ofO (modD x.2 y.2))) [some (.int c), some (.str letters), some (.int z), some (.int (1 + c / 11 % 35)), none, none, none, some (.int y)] = .ok (.T, .int ((c / 7 + y * (1 + c / 11 % 35)) % 36)) := fun y y0 y1 => by
      simp only [g2, gVar, gCon, List.getElem?_cons_zero, List.getElem?_cons_succ, sh_int, Res.bind_ok, dv_7, ofO_some, ml_l (i := y) (j := 1 + c / 11 % 35) ⟨by omega, by omega⟩, ad_i, md_36]
    obtain ⟨ss, hc, hs, hlen⟩ := comp_signs (i := 7) (own := [7]) (e := g2 (gVar 2) (gCon (.int 1)) (fun x y => ofO (subD x.2 y.2))) (idx := g2 (g2 (g2 (gVar 0) (gCon (.int 7)) (fun x y => ofO (divD x.2 y.2))) (g2 (gVar 7) (gVar 3) (fun x y => ofO (mulD x.2 y.2))) (fun x y => ofO (addD x.2 y.2))) (gCon (.int 36)) (fun x y => ofO (modD x.2 y.2)))
      (ρ := [some (.int c), some (.str letters), some (.int z), some (.int (1 + c / 11 % 35)), none, none, none, none]) (z := letters) (n := (z - 1).toNat) (m := 36) rfl (by simp) ⟨.T, by
        simp only [g2, gVar, gCon, List.getElem?_cons_zero, List.getElem?_cons_succ, sh_int, Res.bind_ok, sb_i, ofO_some]
        rw [Int.toNat_of_nonneg (by omega)]⟩ (by omega) hL (by rw [letters_len]; rfl) (fun j hj => rfl) (fun j hj => ⟨.T, _, key (j : Int) (by omega) (by omega)⟩) (by decide)
    obtain ⟨sj, hj, lj⟩ := join_ok hs (by omega)
    obtain ⟨ch, hch⟩ := ix_str (z := letters) (i := c / 72 % 26) hL (Int.emod_nonneg _ (by decide)) (by rw [letters_len]; exact Int.lt_trans (Int.emod_lt_of_pos _ (by decide)) (by decide))
    obtain ⟨s2', hs2, l2⟩ := cat_ok (a := ⟨#[ch]⟩) (b := sj) (by rw [one_len]; omega)
    rw [one_len] at l2
    refine ⟨s2', by omega, run_of (q_seq s1 rfl) (s2 fun o ho => ?_)⟩
    subst ho
    refine fin_rt (q_seq (q_iff ?_ rfl) (q_seq (q_set (x := (.T, .int (1 + c / 11 % 35))) ?_ rfl) (q_seq (q_set (x := (.T, .lst (ss.map D.str))) hc rfl) (q_ret (x := (.T, .str s2')) ?_))))
    · simp [viewF, gTest, g2, gVar, gCon, sh_int, dv_36, md_2, eq_int, a, toB]
    · simp [viewF, g2, gVar, gCon, sh_int, dv_11, md_35, ad_i]
    · show g2 _ _ _ [some (.int c), some (.str letters), none, none, some (.lst (ss.map D.str)), none, none, none] = _
      simp only [g2, gCon, gVar, List.getElem?_cons_zero, List.getElem?_cons_succ, sh_int, sh_str, sh_lst, Res.bind_ok, dv_72, md_26, hch, ofO_some, gJoin, hj, hs2]
end G
end

section
set_option Elab.async false
set_option maxRecDepth 100000
set_option linter.all false
set_option maxHeartbeats 4000000
namespace G
open PySem PySem.Spec
open PyProof.Rows hiding intD
open L2 hiding gCons gNil gLst
open VL
theorem signs_ok : ∃ z : Str, m_signs [] = .ok (.T, .str z) ∧ z.length = 94 := by
  refine ⟨" !\"#$&'()*+,-./0123456789:;<=>?@ABCDEFGHIJKLMNOPQRSTUVWXYZ[\\]^_`" ++ "abcdefghijklmnopqrstuvwxyz{|}~", ?_, by decide +kernel⟩
  unfold m_signs g_law_signs
  refine run_of (q_seq (q_set (x := (.T, .str " !\"#$&'()*+,-./0123456789:;<=>?@ABCDEFGHIJKLMNOPQRSTUVWXYZ[\\]^_`")) rfl rfl) (q_ret (x := (.T, .str _)) ?_)) rfl
  have hl : (" !\"#$&'()*+,-./0123456789:;<=>?@ABCDEFGHIJKLMNOPQRSTUVWXYZ[\\]^_`" : Str).length + ("abcdefghijklmnopqrstuvwxyz{|}~" : Str).length ≤ sizeLine := by decide +kernel
  show g2 _ _ _ [some (.str _)] = _
  simp only [g2, gVar, gCon, List.getElem?_cons_zero, sh_str, Res.bind_ok, addD, if_pos hl, ofO_some]
theorem text_ok {c : Int} (h0 : 0 ≤ c) (h1 : c < 2 ^ 60) : ∃ s : Str, m_text_by [.int c] = .ok (.T, .str s) := by
  obtain ⟨sg, hsg, lsg⟩ := signs_ok
  have hL : sg.length ≤ sizeLine := by rw [lsg]; decide
  obtain ⟨d, hd, hx⟩ := ix_lst (ds := [.int (c / 5 % 4), .int (c / 5 % 9), .int (c / 5 % 31)]) (i := c % 3) (Int.emod_nonneg _ (by decide)) (Int.emod_lt_of_pos _ (by decide))
  obtain ⟨z, rfl, z1, z2⟩ : ∃ z : Int, d = .int z ∧ 0 ≤ z ∧ z ≤ 30 := by
    simp only [List.mem_cons, List.not_mem_nil, or_false] at hd
    rcases hd with h | h | h
    · exact ⟨_, h, by omega, by omega⟩
    · exact ⟨_, h, by omega, by omega⟩
    · exact ⟨_, h, by omega, by omega⟩
  unfold m_text_by g_law_text_by
  have s1 : gSet 1 [] (gCall gNil m_signs) (enter 7 [.int c]) = .nx [some (.T, .int c), some (.T, .str sg), none, none, none, none, none] := q_set (x := (.T, .str sg)) (by simp only [gCall, gNil, Res.bind_ok, hsg]) rfl
  have s2 : g2 (gLst (lCons (g2 (g2 (gVar 0) (gCon (.int 5)) (fun x y => ofO (divD x.2 y.2))) (gCon (.int 4)) (fun x y => ofO (modD x.2 y.2))) (lCons (g2 (g2 (gVar 0) (gCon (.int 5)) (fun x y => ofO (divD x.2 y.2))) (gCon (.int 9)) (fun x y => ofO (modD x.2 y.2))) (lCons (g2 (g2 (gVar 0) (gCon (.int 5)) (fun x y => ofO (divD x.2 y.2))) (gCon (.int 31)) (fun x y => ofO (modD x.2 y.2))) (lNil))))) (g2 (gVar 0) (gCon (.int 3)) (fun x y => ofO (modD x.2 y.2))) (fun x y => ofO (ixD x.2 y.2)) [some (.int c), none, none, none, none, none, none] = .ok (.T, .int z) := by
    simp only [g2, gLst, lCons, lNil, gCon, gVar, List.getElem?_cons_zero, sh_int, Res.bind_ok, dv_5, md_4, md_9, md_31, md_3, ofO_some, chk, List.length_cons, List.length_nil, sz3q, if_true, mkL, List.map_cons, List.map_nil, hx]
  by_cases a : c / 155 % 3 = 1
  · obtain ⟨ch, hch⟩ := ix_str (z := sg) (i := c / 465 % 94) hL (Int.emod_nonneg _ (by decide)) (by rw [lsg]; exact Int.emod_lt_of_pos _ (by decide))
    obtain ⟨sa, ha, la⟩ := rep_ok (z := "'") (n := z / 2) (by decide +kernel) (by omega) (by omega)
    obtain ⟨sb, hb, lb⟩ := rep_ok (z := ⟨#[ch]⟩) (n := z - z / 2) (by rw [one_len]; omega) (by omega) (by omega)
    obtain ⟨s3, hs3, l3⟩ := cat_ok (a := sa) (b := sb) (by omega)
    refine ⟨s3, run_of (q_seq s1 (q_seq (q_set (x := (.T, .int z)) s2 rfl) (q_rt (x := (.T, .str s3)) (q_ift ?_ (q_seq (q_set (x := (.T, .int (z / 2))) ?_ rfl) (q_seq (q_set (x := (.T, .str ⟨#[ch]⟩)) ?_ rfl) (q_ret ?_))))))) rfl⟩
    · simp [viewF, putV, gTest, g2, gVar, gCon, sh_int, dv_155, md_3, eq_int, a, toB]
    · show g2 _ _ _ [none, none, some (.int z), none, none, none, none] = _
      simp only [g2, gVar, gCon, List.getElem?_cons_zero, List.getElem?_cons_succ, sh_int, Res.bind_ok, dv_2, ofO_some]
    · show g2 _ _ _ [some (.int c), some (.str sg), none, none, none, none, none] = _
      simp only [g2, gVar, gCon, List.getElem?_cons_zero, List.getElem?_cons_succ, sh_int, sh_str, Res.bind_ok, dv_465, md_94, hch, ofO_some]
    · show g2 _ _ _ [none, none, some (.int z), none, some (.int (z / 2)), some (.str ⟨#[ch]⟩), none] = _
      simp only [g2, gVar, gCon, List.getElem?_cons_zero, List.getElem?_cons_succ, sh_int, sh_str, Res.bind_ok, sb_i, ha, hb, hs3, ofO_some]
  · have key : ∀ y : Int, 0 ≤ y → y < 1000 → (g2 (g2 (g2 (gVar 0) (gCon (.int 7)) (fun x y => ofO (divD x.2 y.2))) (g2 (gVar 6) (gVar 3) (fun x y => ofO (mulD x.2 y.2))) (fun x y => ofO (addD x.2 y.2))) (gCon (.int 94)) (fun x y => ofO (modD x.2 y.2))) [some (.int c), some (.str sg), some (.int z), some (.int (1 + c / 13 % 93)), none, none, some (.int y)] = .ok (.T, .int ((c / 7 + y * (1 + c / 13 % 93)) % 94)) := fun y y0 y1 => by
      simp only [g2, gVar, gCon, List.getElem?_cons_zero, List.getElem?_cons_succ, sh_int, Res.bind_ok, dv_7, ofO_some, ml_l (i := y) (j := 1 + c / 13 % 93) ⟨by omega, by omega⟩, ad_i, md_94]
    obtain ⟨ss, hc, hs, hlen⟩ := comp_signs (i := 6) (own := [6]) (e := gVar 2) (idx := g2 (g2 (g2 (gVar 0) (gCon (.int 7)) (fun x y => ofO (divD x.2 y.2))) (g2 (gVar 6) (gVar 3) (fun x y => ofO (mulD x.2 y.2))) (fun x y => ofO (addD x.2 y.2))) (gCon (.int 94)) (fun x y => ofO (modD x.2 y.2)))
      (ρ := [some (.int c), some (.str sg), some (.int z), some (.int (1 + c / 13 % 93)), none, none, none]) (z := sg) (n := z.toNat) (m := 94) rfl (by simp) ⟨.T, by
        simp only [gVar, List.getElem?_cons_zero, List.getElem?_cons_succ, sh_int]
        rw [Int.toNat_of_nonneg z1]⟩ (by omega) hL (by rw [lsg]; rfl) (fun j hj => rfl) (fun j hj => ⟨.T, _, key (j : Int) (by omega) (by omega)⟩) (by decide)
    obtain ⟨sj, hj, lj⟩ := join_ok hs (by omega)
    refine ⟨sj, run_of (q_seq s1 (q_seq (q_set (x := (.T, .int z)) s2 rfl) (q_seq (q_iff ?_ rfl) (q_seq (q_set (x := (.T, .int (1 + c / 13 % 93))) ?_ rfl) (q_ret (x := (.T, .str sj)) ?_))))) rfl⟩
    · simp [viewF, putV, gTest, g2, gVar, gCon, sh_int, dv_155, md_3, eq_int, a, toB]
    · simp [viewF, putV, g2, gVar, gCon, sh_int, dv_13, md_93, ad_i]
    · show gJoin _ _ [some (.int c), some (.str sg), some (.int z), some (.int (1 + c / 13 % 93)), none, none, none] = _
      simp only [gJoin, gCon, Res.bind_ok, hc, hj, ofO_some]
end G
end

section
set_option Elab.async false
set_option maxRecDepth 100000
set_option linter.all false
set_option maxHeartbeats 4000000
namespace G
open PySem PySem.Spec
open PyProof.Rows hiding intD
open L2 hiding gCons gNil gLst
open VL
abbrev c_thing (mt : List D → Res FD) : GE := gComp [7] [7] (gItR1 (g2 (g2 (gVar 3) (gCon (.int 9)) (fun x y => ofO (divD x.2 y.2))) (gCon (.int 5)) (fun x y => ofO (modD x.2 y.2)))) t1 (cYes) (gCall (gCons (gVar 0) (gCons (g2 (g2 (g2 (gVar 1) (gCon (.int 5)) (fun x y => ofO (mulD x.2 y.2))) (gCon (.int 1)) (fun x y => ofO (addD x.2 y.2))) (gVar 7) (fun x y => ofO (addD x.2 y.2))) (gCons (g2 (gVar 2) (gCon (.int 1)) (fun x y => ofO (subD x.2 y.2))) (gNil)))) mt)
abbrev b_thing : GS := gSetIt 6 [0, 1, 5, 7] (gCall (gCons (g2 (g2 (gCall (gCons (gVar 0) (gCons (g2 (g2 (g2 (gVar 1) (gCon (.int 5)) (fun x y => ofO (mulD x.2 y.2))) (gCon (.int 1)) (fun x y => ofO (addD x.2 y.2))) (gVar 7) (fun x y => ofO (addD x.2 y.2))) (gNil))) m_cell) (gCon (.int 9)) (fun x y => ofO (divD x.2 y.2))) (gVar 7) (fun x y => ofO (addD x.2 y.2))) (gNil)) m_name_by) (g2 (gVar 5) (gVar 7) (fun x y => ofO (ixD x.2 y.2)))
abbrev r_thing (mt : List D → Res FD) : GS := gSeq (gSet 5 [0, 1, 2, 3] (c_thing mt)) (gSeq (gIfS [4] (gTest (g2 (gVar 4) (gCon (.int 7)) (fun x y => ofO ((fB ltD) x.2 y.2)))) (gRetV 5) (gPass)) (gSeq (gSet 6 [] (gCon (.dct []))) (gSeq (gFor [5] [7] (gItR1 (gCall (gCons (gVar 5) (gNil)) (fun ds => ofO (lenD ds)))) t1 b_thing) (gRetV 6))))
theorem fin_seq {g k : GS} {ρ ρ1 : DE} {r : Res FD} (h : g ρ = .nx ρ1) (h2 : fin (k ρ1) = r) : fin (gSeq g k ρ) = r := by rw [q_seq h rfl]; exact h2
theorem fin_q {g k : GS} {ρ : DE} {x : FD} (h : g ρ = .rt x) : fin (gSeq g k ρ) = .ok x := by rw [q_rt h]; rfl
theorem runG_fin {n : Nat} {g : GS} {ds : List D} {r : Res FD} (h : fin (g (enter n ds)) = r) : runG n g ds = r := run_of rfl h
theorem g2_ok {ga gb : GE} {f : FD → FD → Res FD} {ρ : List (Option D)} {x y : FD} (ha : ga ρ = .ok x) (hb : gb ρ = .ok y) : g2 ga gb f ρ = f x y := by unfold g2; rw [ha, Res.bind_ok, hb, Res.bind_ok]
theorem thing_head {mt : List D → Res FD} {ns : List Int} {k deep c q : Int} {n : Nat} (hc : m_cell [.scr ns, .int k] = .ok (.T, .int c)) (h0 : 0 ≤ c) (h1 : c < 1000003)
    (hq : g2 (gLst (lCons (gCon (.int 5)) (lCons (gCon (.int 9)) (lNil)))) (gCall (gCons (g2 (gVar 2) (gCon (.int 0)) (fun x y => ofO ((fB gtD) x.2 y.2))) (gNil)) (fun ds => ofO (intD ds))) (fun x y => ofO (ixD x.2 y.2)) [some (.scr ns), none, some (.int deep), some (.int c), none, none, none, none] = .ok (.T, .int q)) (hq0 : 0 < q)
    (rest : 5 ≤ c % q → ∃ fl d, fin (r_thing mt [some (.S, .scr ns), some (.T, .int k), some (.T, .int deep), some (.T, .int c), some (.T, .int (c % q)), none, none, none]) = .ok (fl, d) ∧ TD 20 n d) :
    ∃ fl d, runG 8 (g_law_thing_by m_cell m_number_by m_text_by mt m_name_by) [.scr ns, .int k, .int deep] = .ok (fl, d) ∧ TD 20 n d := by
  have e1 : gSet 3 [0, 1] (gCall (gCons (gVar 0) (gCons (gVar 1) (gNil))) m_cell) (enter 8 [.scr ns, .int k, .int deep]) = .nx [some (.S, .scr ns), some (.T, .int k), some (.T, .int deep), some (.T, .int c), none, none, none, none] := by
    refine q_set (x := (.T, .int c)) ?_ rfl
    show gCall _ _ [some (.scr ns), some (.int k), none, none, none, none, none, none] = _
    simp only [gCall, gCons, gNil, gVar, List.getElem?_cons_zero, List.getElem?_cons_succ, sh_int, sh_scr, Res.bind_ok, hc]
  have e2 : gSet 4 [2, 3] (g2 (gVar 3) (g2 (gLst (lCons (gCon (.int 5)) (lCons (gCon (.int 9)) (lNil)))) (gCall (gCons (g2 (gVar 2) (gCon (.int 0)) (fun x y => ofO ((fB gtD) x.2 y.2))) (gNil)) (fun ds => ofO (intD ds))) (fun x y => ofO (ixD x.2 y.2))) (fun x y => ofO (modD x.2 y.2))) [some (.S, .scr ns), some (.T, .int k), some (.T, .int deep), some (.T, .int c), none, none, none, none] = .nx [some (.S, .scr ns), some (.T, .int k), some (.T, .int deep), some (.T, .int c), some (.T, .int (c % q)), none, none, none] := by
    refine q_set (x := (.T, .int (c % q))) ?_ rfl
    rw [show viewF [2, 3] 0 [some (.S, .scr ns), some (.T, .int k), some (.T, .int deep), some (.T, .int c), none, none, none, none] = [some (.scr ns), none, some (.int deep), some (.int c), none, none, none, none] from rfl]
    rw [g2_ok (x := (.T, .int c)) (y := (.T, .int q)) rfl hq]
    simp only [md_of hq0, ofO_some]
  have c9 : 0 ≤ c / 9 ∧ c / 9 < 2 ^ 60 := by omega
  have v3 : viewF [3] 0 [some (.S, .scr ns), some (.T, .int k), some (.T, .int deep), some (.T, .int c), some (.T, .int (c % q)), none, none, none] = [some (.scr ns), none, none, some (.int c), none, none, none, none] := rfl
  have v4 : viewF [4] 0 [some (.S, .scr ns), some (.T, .int k), some (.T, .int deep), some (.T, .int c), some (.T, .int (c % q)), none, none, none] = [some (.scr ns), none, none, none, some (.int (c % q)), none, none, none] := rfl
  have t0 : ∀ b, (c % q == 0) = b → gTest (g2 (gVar 4) (gCon (.int 0)) (fun x y => ofO ((fB (eqN 32)) x.2 y.2))) [some (.scr ns), none, none, none, some (.int (c % q)), none, none, none] = .ok b := fun b hb => by
    simp only [gTest, g2, gVar, gCon, List.getElem?_cons_zero, List.getElem?_cons_succ, sh_int, Res.bind_ok, eq_int, ofO_some, toB, hb]
  have tl : ∀ (y : Int) b, decide (c % q < y) = b → gTest (g2 (gVar 4) (gCon (.int y)) (fun x y => ofO ((fB ltD) x.2 y.2))) [some (.scr ns), none, none, none, some (.int (c % q)), none, none, none] = .ok b := fun y b hb => by
    simp only [gTest, g2, gVar, gCon, List.getElem?_cons_zero, List.getElem?_cons_succ, sh_int, Res.bind_ok, fB, ltD, Option.map_some, ofO_some, toB, hb]
  by_cases a0 : c % q = 0
  · obtain ⟨d, hd, hx⟩ := ix_lst (ds := [.non, .bl true, .bl false]) (i := c / 9 % 3) (Int.emod_nonneg _ (by decide)) (Int.emod_lt_of_pos _ (by decide))
    refine ⟨(sh d).1, d, runG_fin ?_, ?_⟩
    · unfold g_law_thing_by
      refine fin_seq e1 (fin_seq e2 (fin_q (q_ift (by rw [v4]; exact t0 true (by simpa using a0)) (q_ret ?_))))
      rw [v3]
      simp only [g2, gLst, lCons, lNil, gCon, gVar, List.getElem?_cons_zero, List.getElem?_cons_succ, sh_int, Res.bind_ok, dv_9, md_3, ofO_some, chk, List.length_cons, List.length_nil, sz3q, if_true, mkL, List.map_cons, List.map_nil, hx]
      rfl
    · simp only [List.mem_cons, List.not_mem_nil, or_false] at hd
      rcases hd with h | h | h <;> rw [h] <;> cases n <;> trivial
  · by_cases a3 : c % q < 3
    · obtain ⟨i, hi⟩ := num_ok c9.1 c9.2
      refine ⟨.T, .int i, runG_fin ?_, by cases n <;> trivial⟩
      unfold g_law_thing_by
      refine fin_seq e1 (fin_seq e2 (fin_seq (q_iff (by rw [v4]; exact t0 false (by simpa using a0)) rfl) (fin_q (q_ift (by rw [v4]; exact tl 3 true (by simpa using a3)) (q_ret ?_)))))
      rw [v3]
      simp only [gCall, gCons, gNil, g2, gCon, gVar, List.getElem?_cons_zero, List.getElem?_cons_succ, sh_int, Res.bind_ok, dv_9, ofO_some, hi]
    · by_cases a5 : c % q < 5
      · obtain ⟨i, hi⟩ := text_ok c9.1 c9.2
        refine ⟨.T, .str i, runG_fin ?_, by cases n <;> trivial⟩
        unfold g_law_thing_by
        refine fin_seq e1 (fin_seq e2 (fin_seq (q_iff (by rw [v4]; exact t0 false (by simpa using a0)) rfl) (fin_seq (q_iff (by rw [v4]; exact tl 3 false (by simpa using a3)) rfl) (fin_q (q_ift (by rw [v4]; exact tl 5 true (by simpa using a5)) (q_ret ?_))))))
        rw [v3]
        simp only [gCall, gCons, gNil, g2, gCon, gVar, List.getElem?_cons_zero, List.getElem?_cons_succ, sh_int, Res.bind_ok, dv_9, ofO_some, hi]
      · obtain ⟨fl, d, hr, ht⟩ := rest (by omega)
        refine ⟨fl, d, runG_fin ?_, ht⟩
        unfold g_law_thing_by
        exact fin_seq e1 (fin_seq e2 (fin_seq (q_iff (by rw [v4]; exact t0 false (by simpa using a0)) rfl) (fin_seq (q_iff (by rw [v4]; exact tl 3 false (by simpa using a3)) rfl) (fin_seq (q_iff (by rw [v4]; exact tl 5 false (by simpa using a5)) rfl) hr))))
end G
end

section
set_option Elab.async false
set_option maxRecDepth 100000
set_option linter.all false
set_option maxHeartbeats 4000000
namespace G
open PySem PySem.Spec
open PyProof.Rows hiding intD
open L2 hiding gCons gNil gLst
open VL
/-- a record under way: text keys, things -/
structure Rec (b n : Nat) (l : Nat) (cur : List (Key × D)) : Prop where
  len : cur.length ≤ l
  nd : (cur.map (·.1)).Nodup
  ks : ∃ ks : List Str, cur.map (·.1) = ks.map Sum.inr
  td : ∀ kv ∈ cur, TD b n kv.2
theorem Rec.nil {b n : Nat} : Rec b n 0 [] := ⟨Nat.le_refl _, by simp, ⟨[], rfl⟩, by simp⟩
theorem Rec.put {b n l : Nat} {cur : List (Key × D)} (h : Rec b n l cur) {s : Str} {d : D} (hd : TD b n d) : Rec b n (l + 1) (putD cur (.inr s) d) := by
  obtain ⟨h1, h2, ⟨ks, h3⟩, h4⟩ := h
  refine ⟨Nat.le_trans (putD_length _ _ _) (Nat.succ_le_succ h1), putD_nodup _ _ h2, ?_, fun kv hkv => (mem_put hkv).elim (h4 kv) fun e => by rw [e]; exact hd⟩
  rw [putD_keys]
  split
  · exact ⟨ks, h3⟩
  · exact ⟨ks ++ [s], by rw [h3]; simp⟩
theorem Rec.thing {b n l : Nat} {cur : List (Key × D)} (h : Rec b n l cur) (hl : l < b) : TD b (n + 1) (.dct cur) := ⟨Nat.lt_of_le_of_lt h.len hl, h.nd, h.ks, h.td⟩
/-- an entry set in a dict that a slot owns -/
theorem q_setit {i : Nat} {vs : List Nat} {gk ge : GE} {ρ : DE} {f : Fl} {cur : List (Key × D)} {s : Str} {fk : Fl} {y : FD} {k : Key} {kd : D} (hρ : ρ[i]? = some (some (f, .dct cur))) (hf : f ≠ .S) (hv : ge (viewF vs 0 ρ) = .ok y) (hk : gk (viewF vs 0 ρ) = .ok (fk, kd)) (hkk : keyOf kd = some k) (hlk : leakF vs 0 ρ = ρ) (hc : vs.contains i = false) (hl : cur.length < sizeLine) :
    ∃ f', f' ≠ .S ∧ gSetIt i vs gk ge ρ = .nx (ρ.set i (some (f', .dct (putD cur k y.2)))) := by
  have e : gSetIt i vs gk ge ρ = mutV i vs ρ f y (.dct (putD cur k y.2)) := by
    unfold gSetIt
    rw [hρ]
    simp only [hv, viaE, hk, setD, hkk, Option.bind_some, if_pos hl]
  rw [e]
  unfold mutV
  by_cases h : f = .T ∧ y.1 = .T
  · rw [if_pos h]; exact ⟨.T, by decide, rfl⟩
  · rw [if_neg h, if_pos ⟨hf, .inr hc⟩]
    refine ⟨.R, by decide, ?_⟩
    have : envP vs ρ y = ρ := by
      unfold envP
      cases y.1 <;> first | rfl | exact hlk
    rw [this]
theorem ix_nat {ds : List D} {j : Nat} (h : j < ds.length) : ixD (.lst ds) (.int (j : Int)) = some (sh ds[j]) := by
  rw [ixD_lst, atI_nat2 h]; rfl
theorem pow8 (n : Nat) : (0 : Int) < 8 ^ n := Int.pow_pos (by decide)
theorem thing_ok {ns : List Int} (hn : ns.length ≤ 1000) : ∀ (n f : Nat) (k deep : Int), n < f → deep = n → 0 ≤ k → (k + 1) * 8 ^ n < 2 ^ 45 → ∃ fl d, m_thing_by f [.scr ns, .int k, .int deep] = .ok (fl, d) ∧ TD 20 n d
  | n, 0, k, deep, h, _, _, _ => absurd h (Nat.not_lt_zero _)
  | 0, f + 1, k, deep, h, hd, h0, h1 => by
    have h1 : k + 1 < 2 ^ 45 := by simpa using h1
    obtain ⟨c, hc, c0, c1⟩ := cell_ok hn h0 (k := k) (by omega)
    have hd : deep = 0 := by simpa using hd
    refine thing_head (q := 5) hc c0 c1 ?_ (by decide) fun h5 => ?_
    · simp only [g2, gLst, lCons, lNil, gCon, gVar, gCall, gCons, gNil, List.getElem?_cons_zero, List.getElem?_cons_succ, sh_int, Res.bind_ok, ofO_some, chk, List.length_cons, List.length_nil, sz2q, if_true, mkL, List.map_cons, List.map_nil, fB, gtD, Option.map_some, intD, oT]
      rw [hd]
      rfl
    · have := Int.emod_lt_of_pos c (b := 5) (by decide); omega
  | n + 1, f + 1, k, deep, h, hd, h0, h1 => by
    have p8 := pow8 n
    have p8' := pow8 (n + 1)
    have hk45 : k + 1 < 2 ^ 45 := by
      have h2 : (k + 1) * 1 ≤ (k + 1) * 8 ^ (n + 1) := Int.mul_le_mul_of_nonneg_left (by omega) (by omega)
      omega
    obtain ⟨c, hc, c0, c1⟩ := cell_ok hn h0 (k := k) (by omega)
    have hpos : 0 < deep := by omega
    refine thing_head (q := 9) hc c0 c1 ?_ (by decide) fun h5 => ?_
    · simp only [g2, gLst, lCons, lNil, gCon, gVar, gCall, gCons, gNil, List.getElem?_cons_zero, List.getElem?_cons_succ, sh_int, Res.bind_ok, ofO_some, chk, List.length_cons, List.length_nil, sz2q, if_true, mkL, List.map_cons, List.map_nil, fB, gtD, Option.map_some, intD, oT, decide_eq_true hpos]
      rfl
    · obtain ⟨N, hN⟩ := Int.eq_ofNat_of_zero_le (show 0 ≤ c / 9 % 5 by omega)
      have hN5 : N < 5 := by omega
      have child : ∀ y : Int, 0 ≤ y → y < 5 → ∃ fl d, m_thing_by f [.scr ns, .int (k * 5 + 1 + y), .int (deep - 1)] = .ok (fl, d) ∧ TD 20 n d := fun y y0 y1 => by
        refine thing_ok hn n f (k * 5 + 1 + y) (deep - 1) (Nat.lt_of_succ_lt_succ h) (by omega) (by omega) ?_
        have h2 : (k * 5 + 1 + y + 1) * 8 ^ n ≤ ((k + 1) * 8) * 8 ^ n := Int.mul_le_mul_of_nonneg_right (by omega) (Int.le_of_lt p8)
        rw [Int.pow_succ] at h1
        have h3 : (k + 1) * 8 * 8 ^ n = (k + 1) * (8 ^ n * 8) := by rw [Int.mul_assoc, Int.mul_comm 8 (8 ^ n)]
        omega
      have arg : ∀ y : Int, gCall (gCons (gVar 0) (gCons (g2 (g2 (g2 (gVar 1) (gCon (.int 5)) (fun x y => ofO (mulD x.2 y.2))) (gCon (.int 1)) (fun x y => ofO (addD x.2 y.2))) (gVar 7) (fun x y => ofO (addD x.2 y.2))) (gCons (g2 (gVar 2) (gCon (.int 1)) (fun x y => ofO (subD x.2 y.2))) (gNil)))) (m_thing_by f) [some (.scr ns), some (.int k), some (.int deep), some (.int c), none, none, none, some (.int y)] = m_thing_by f [.scr ns, .int (k * 5 + 1 + y), .int (deep - 1)] := fun y => by
        simp only [gCall, gCons, gNil, g2, gVar, gCon, List.getElem?_cons_zero, List.getElem?_cons_succ, sh_int, sh_scr, Res.bind_ok, ml_r (i := k) (j := 5) ⟨by decide, by decide⟩, ad_i, sb_i, ofO_some]
      obtain ⟨ys, e1, e2, e3⟩ := compL_ex (t := t1) (is := [7]) (g := gCall (gCons (gVar 0) (gCons (g2 (g2 (g2 (gVar 1) (gCon (.int 5)) (fun x y => ofO (mulD x.2 y.2))) (gCon (.int 1)) (fun x y => ofO (addD x.2 y.2))) (gVar 7) (fun x y => ofO (addD x.2 y.2))) (gCons (g2 (gVar 2) (gCon (.int 1)) (fun x y => ofO (subD x.2 y.2))) (gNil)))) (m_thing_by f)) (ρ := [some (.scr ns), some (.int k), some (.int deep), some (.int c), none, none, none, none]) (fun y => TD 20 n y.2) (xs := rngD 0 N) fun x hx => by
        obtain ⟨j, hj, rfl⟩ := mem_rng hx
        obtain ⟨fl, d, h1, h2⟩ := child (j : Int) (by omega) (by omega)
        exact ⟨[.int (j : Int)], (fl, d), rfl, (arg (j : Int)).trans h1, h2⟩
      rw [rng_len] at e2
      obtain ⟨ds, hds⟩ : ∃ ds, ds = ys.map (·.2) := ⟨_, rfl⟩
      have hdl : ds.length = N := by rw [hds, List.length_map, e2]
      have hdt : ∀ d ∈ ds, TD 20 n d := fun d hd => by
        rw [hds] at hd
        obtain ⟨y, hy, rfl⟩ := List.mem_map.mp hd
        exact e3 y hy
      obtain ⟨fl, hfl⟩ : ∃ fl, mkL ys = (fl, .lst ds) := ⟨_, by unfold mkL; rw [hds]⟩
      have hcomp : c_thing (m_thing_by f) [some (.scr ns), some (.int k), some (.int deep), some (.int c), none, none, none, none] = .ok (fl, .lst ds) := by
        unfold c_thing gComp
        rw [q_rng (fl := .T) (n := N) (i := c / 9 % 5) (by simp only [g2, gVar, gCon, List.getElem?_cons_zero, List.getElem?_cons_succ, sh_int, Res.bind_ok, dv_9, md_5, ofO_some]) hN (by omega)]
        rw [Res.bind_ok, if_pos (by rw [rng_len]; exact td_sz (b := 1000) (by omega) (by decide))]
        have ew : wipeD [some (.scr ns), some (.int k), some (.int deep), some (.int c), none, none, none, none] [7] = [some (.scr ns), some (.int k), some (.int deep), some (.int c), none, none, none, none] := rfl
        rw [ew, e1, Res.bind_ok, hfl]
      have s5 : gSet 5 [0, 1, 2, 3] (c_thing (m_thing_by f)) [some (.S, .scr ns), some (.T, .int k), some (.T, .int deep), some (.T, .int c), some (.T, .int (c % 9)), none, none, none] = .nx [some (.S, .scr ns), some (.T, .int k), some (.T, .int deep), some (.T, .int c), some (.T, .int (c % 9)), some (fl, .lst ds), none, none] := by
        refine q_set (x := (fl, .lst ds)) hcomp ?_
        cases fl <;> rfl
      by_cases h7 : c % 9 < 7
      · refine ⟨fl, .lst ds, fin_seq s5 (fin_q (q_ift (g := gRetV 5) ?_ rfl)), ⟨by omega, hdt⟩⟩
        have : ∀ fl : Fl, viewF [4] 0 [some (.S, .scr ns), some (.T, .int k), some (.T, .int deep), some (.T, .int c), some (.T, .int (c % 9)), some (fl, .lst ds), none, none] = [some (.scr ns), none, none, none, some (.int (c % 9)), (if fl = .S then some (.lst ds) else none), none, none] := fun fl => by cases fl <;> rfl
        rw [this]
        simp only [gTest, g2, gVar, gCon, List.getElem?_cons_zero, List.getElem?_cons_succ, sh_int, Res.bind_ok, fB, ltD, Option.map_some, ofO_some, toB, decide_eq_true h7]
      · obtain ⟨ρ', e4, f6, cur, x, e5, hf6, hcur⟩ := forL_rng (is := [7]) (g := b_thing) (n := ds.length) (ρ := [some (.S, .scr ns), some (.T, .int k), some (.T, .int deep), some (.T, .int c), some (.T, .int (c % 9)), some (.S, .lst ds), some (.T, .dct []), none])
          (fun i ρ => ∃ f6 cur x, ρ = [some (.S, .scr ns), some (.T, .int k), some (.T, .int deep), some (.T, .int c), some (.T, .int (c % 9)), some (.S, .lst ds), some (f6, .dct cur), x] ∧ f6 ≠ Fl.S ∧ Rec 20 n i cur) (fun j hj ρ hρ => by
            obtain ⟨f6, cur, x, rfl, hf6, hcur⟩ := hρ
            obtain ⟨c2, hc2, d0, d1⟩ := cell_ok hn (k := k * 5 + 1 + (j : Int)) (by omega) (by omega)
            obtain ⟨s, _, hs⟩ := name_ok (c := c2 / 9 + (j : Int)) (by omega) (by omega)
            have hname : ∀ y : Int, m_cell [.scr ns, .int (k * 5 + 1 + y)] = .ok (.T, .int c2) → m_name_by [.int (c2 / 9 + y)] = .ok (.T, .str s) → (gCall (gCons (g2 (g2 (gCall (gCons (gVar 0) (gCons (g2 (g2 (g2 (gVar 1) (gCon (.int 5)) (fun x y => ofO (mulD x.2 y.2))) (gCon (.int 1)) (fun x y => ofO (addD x.2 y.2))) (gVar 7) (fun x y => ofO (addD x.2 y.2))) (gNil))) m_cell) (gCon (.int 9)) (fun x y => ofO (divD x.2 y.2))) (gVar 7) (fun x y => ofO (addD x.2 y.2))) (gNil)) m_name_by) [some (.scr ns), some (.int k), none, none, none, some (.lst ds), none, some (.int y)] = .ok (.T, .str s) := fun y h1 h2 => by
              simp only [gCall, gCons, gNil, g2, gVar, gCon, List.getElem?_cons_zero, List.getElem?_cons_succ, sh_int, sh_scr, Res.bind_ok, ml_r (i := k) (j := 5) ⟨by decide, by decide⟩, ad_i, ofO_some, h1, dv_9, h2]
            have hval : (g2 (gVar 5) (gVar 7) (fun x y => ofO (ixD x.2 y.2))) [some (.scr ns), some (.int k), none, none, none, some (.lst ds), none, some (.int (j : Int))] = .ok (sh ds[j]) := by
              rw [g2_ok (x := (.S, .lst ds)) (y := (.T, .int (j : Int))) rfl rfl, ix_nat hj]; rfl
            have hv : ∀ f6 : Fl, f6 ≠ .S → viewF [0, 1, 5, 7] 0 [some (.S, .scr ns), some (.T, .int k), some (.T, .int deep), some (.T, .int c), some (.T, .int (c % 9)), some (.S, .lst ds), some (f6, .dct cur), some (.T, .int (j : Int))] = [some (.scr ns), some (.int k), none, none, none, some (.lst ds), none, some (.int (j : Int))] := fun f6 h => by
              cases f6
              · exact absurd rfl h
              · rfl
              · rfl
            obtain ⟨f', hf', e⟩ := q_setit (i := 6) (vs := [0, 1, 5, 7]) (ρ := [some (.S, .scr ns), some (.T, .int k), some (.T, .int deep), some (.T, .int c), some (.T, .int (c % 9)), some (.S, .lst ds), some (f6, .dct cur), some (.T, .int (j : Int))]) (s := s) rfl hf6 (by rw [hv f6 hf6]; exact hval) (by rw [hv f6 hf6]; exact hname _ hc2 hs) (k := .inr s) rfl rfl rfl (lt_size (b := 1000) (by have := hcur.len; omega) (by decide))
            refine ⟨_, e, f', _, _, rfl, hf', ?_⟩
            rw [sh_2]
            exact hcur.put (hdt _ (List.getElem_mem hj))) ⟨.T, [], none, rfl, by decide, Rec.nil⟩
        subst e5
        refine ⟨f6, .dct cur, fin_seq s5 (fin_seq (q_iff (k := gPass) ?_ rfl) (fin_seq (q_set (x := (.T, .dct [])) rfl rfl) (fin_seq (q_for (xs := rngD 0 ds.length) ?_ ?_ e4) rfl))), hcur.thing (by omega)⟩
        · have : ∀ fl : Fl, viewF [4] 0 [some (.S, .scr ns), some (.T, .int k), some (.T, .int deep), some (.T, .int c), some (.T, .int (c % 9)), some (fl, .lst ds), none, none] = [some (.scr ns), none, none, none, some (.int (c % 9)), (if fl = .S then some (.lst ds) else none), none, none] := fun fl => by cases fl <;> rfl
          rw [this]
          simp only [gTest, g2, gVar, gCon, List.getElem?_cons_zero, List.getElem?_cons_succ, sh_int, Res.bind_ok, fB, ltD, Option.map_some, ofO_some, toB, decide_eq_false h7]
        · refine q_rng (fl := .T) (n := ds.length) ?_ rfl (by omega)
          have : ∀ fl : Fl, viewF [5] 0 (putV [] 6 [some (.S, .scr ns), some (.T, .int k), some (.T, .int deep), some (.T, .int c), some (.T, .int (c % 9)), some (fl, .lst ds), none, none] (.T, .dct [])) = [some (.scr ns), none, none, none, none, some (.lst ds), none, none] := fun fl => by cases fl <;> rfl
          rw [this]
          simp only [gCall, gCons, gNil, gVar, List.getElem?_cons_zero, List.getElem?_cons_succ, sh_lst, Res.bind_ok, lenD, oT, ofO_some]
        · cases fl <;> rfl
end G
end

section
set_option Elab.async false
set_option maxRecDepth 100000
set_option linter.all false
set_option maxHeartbeats 4000000
namespace G
open PySem PySem.Spec
open PyProof.Rows hiding intD
open L2 hiding gCons gNil gLst
open VL
def smalls : List D := [.non, .bl true, .bl false, .int 0, .int 1, .int 2, .str "a", .str "b", .str "", .lst [], .lst [.int 0], .dct [], .dct [(.inr "a", .int 1)], .dct [(.inr "a", .int 2)], .int (-1), .lst [.int 1, .str "x"], .lst [.int 2], .str "ab"]
theorem smalls_td : ∀ d ∈ smalls, TD 20 2 d := by
  intro d hd
  simp only [smalls, List.mem_cons, List.not_mem_nil, or_false] at hd
  rcases hd with rfl | rfl | rfl | rfl | rfl | rfl | rfl | rfl | rfl | rfl | rfl | rfl | rfl | rfl | rfl | rfl | rfl | rfl
  · trivial
  · trivial
  · trivial
  · trivial
  · trivial
  · trivial
  · trivial
  · trivial
  · trivial
  · exact ⟨by decide, fun d hd => by cases hd⟩
  · exact ⟨by decide, fun d hd => by rw [List.mem_singleton.mp hd]; trivial⟩
  · exact ⟨by decide, by simp, ⟨[], rfl⟩, fun d hd => by cases hd⟩
  · exact ⟨by decide, by simp, ⟨["a"], rfl⟩, fun d hd => by rw [List.mem_singleton.mp hd]; trivial⟩
  · exact ⟨by decide, by simp, ⟨["a"], rfl⟩, fun d hd => by rw [List.mem_singleton.mp hd]; trivial⟩
  · trivial
  · exact ⟨by decide, fun d hd => by
      rcases List.mem_cons.mp hd with h | hd
      · rw [h]; trivial
      · rw [List.mem_singleton.mp hd]; trivial⟩
  · exact ⟨by decide, fun d hd => by rw [List.mem_singleton.mp hd]; trivial⟩
  · trivial
theorem cell_set {ns : List Int} {k c : Int} (hc : m_cell [.scr ns, .int k] = .ok (.T, .int c)) (r : List (Option D)) : gCall (gCons (gVar 0) (gCons (gVar 1) gNil)) m_cell (some (.scr ns) :: some (.int k) :: r) = .ok (.T, .int c) := by
  simp only [gCall, gCons, gNil, gVar, List.getElem?_cons_zero, List.getElem?_cons_succ, sh_int, sh_scr, Res.bind_ok, hc]
theorem small_ok {ns : List Int} (hn : ns.length ≤ 1000) {k : Int} (h0 : 0 ≤ k) (h1 : k < 2 ^ 30) : ∃ fl d, m_small [.scr ns, .int k] = .ok (fl, d) ∧ TD 20 3 d := by
  obtain ⟨c, hc, c0, c1⟩ := cell_ok hn h0 (k := k) (by omega)
  have e1 : gSet 2 [0, 1] (gCall (gCons (gVar 0) (gCons (gVar 1) (gNil))) m_cell) (enter 4 [.scr ns, .int k]) = .nx [some (.S, .scr ns), some (.T, .int k), some (.T, .int c), none] := q_set (x := (.T, .int c)) (cell_set hc _) rfl
  have e2 : gSet 3 [] (gLst (lCons (gCon .non) (lCons (gCon (.bl true)) (lCons (gCon (.bl false)) (lCons (gCon (.int 0)) (lCons (gCon (.int 1)) (lCons (gCon (.int 2)) (lCons (gCon (.str "a")) (lCons (gCon (.str "b")) (lCons (gCon (.str "")) (lCons (gLst (lNil)) (lCons (gLst (lCons (gCon (.int 0)) (lNil))) (lCons (gCon (.dct [])) (lCons (gD1 (gCon (.str "a")) (gCon (.int 1))) (lCons (gD1 (gCon (.str "a")) (gCon (.int 2))) (lCons (fun ρ => ((gCon (.int 1)) ρ).bind fun x => ofO (negD x.2)) (lCons (gLst (lCons (gCon (.int 1)) (lCons (gCon (.str "x")) (lNil)))) (lCons (gLst (lCons (gCon (.int 2)) (lNil))) (lCons (gCon (.str "ab")) (lNil)))))))))))))))))))) [some (.S, .scr ns), some (.T, .int k), some (.T, .int c), none] = .nx [some (.S, .scr ns), some (.T, .int k), some (.T, .int c), some (.T, .lst smalls)] := q_set (x := (.T, .lst smalls)) rfl rfl
  have v2 : viewF [2] 0 [some (.S, .scr ns), some (.T, .int k), some (.T, .int c), some (.T, .lst smalls)] = [some (.scr ns), none, some (.int c), none] := rfl
  have tm : ∀ (y : Int) b, (c % 4 == y) = b → gTest (g2 (g2 (gVar 2) (gCon (.int 4)) (fun x y => ofO (modD x.2 y.2))) (gCon (.int y)) (fun x y => ofO ((fB (eqN 32)) x.2 y.2))) [some (.scr ns), none, some (.int c), none] = .ok b := fun y b hb => by
    simp only [gTest, g2, gVar, gCon, List.getElem?_cons_zero, List.getElem?_cons_succ, sh_int, Res.bind_ok, md_4, eq_int, ofO_some, toB, hb]
  unfold m_small
  by_cases a0 : c % 4 = 0
  · obtain ⟨fl, d, hd, ht⟩ := thing_ok hn 2 4 (k + 1) 2 (by decide) rfl (by omega) (by omega)
    refine ⟨fl, d, runG_fin ?_, TD.mono (Nat.le_refl _) (by decide) ht⟩
    unfold g_law_small
    refine fin_seq e1 (fin_seq e2 (fin_q (q_ift (by rw [v2]; exact tm 0 true (by simpa using a0)) (q_ret ?_))))
    show gCall _ _ [some (.scr ns), some (.int k), none, none] = _
    simp only [gCall, gCons, gNil, g2, gVar, gCon, List.getElem?_cons_zero, List.getElem?_cons_succ, sh_int, sh_scr, Res.bind_ok, ad_i, ofO_some, hd]
  · by_cases a1 : c % 4 = 1
    · refine ⟨.T, .int (c / 4 % 5), runG_fin ?_, trivial⟩
      unfold g_law_small
      refine fin_seq e1 (fin_seq e2 (fin_seq (q_iff (by rw [v2]; exact tm 0 false (by simpa using a0)) rfl) (fin_q (q_ift (by rw [v2]; exact tm 1 true (by simpa using a1)) (q_ret ?_)))))
      rw [v2]
      simp only [g2, gVar, gCon, List.getElem?_cons_zero, List.getElem?_cons_succ, sh_int, Res.bind_ok, dv_4, md_5, ofO_some]
    · obtain ⟨d, hd, hx⟩ := ix_lst (ds := smalls) (i := c / 4 % 18) (Int.emod_nonneg _ (by decide)) (Int.emod_lt_of_pos _ (by decide))
      refine ⟨(sh d).1, d, runG_fin ?_, TD.mono (Nat.le_refl _) (by decide) (smalls_td d hd)⟩
      unfold g_law_small
      refine fin_seq e1 (fin_seq e2 (fin_seq (q_iff (by rw [v2]; exact tm 0 false (by simpa using a0)) rfl) (fin_seq (q_iff (by rw [v2]; exact tm 1 false (by simpa using a1)) rfl) ?_)))
      refine fin_rt (q_ret ?_)
      show g2 _ _ _ [some (.scr ns), none, some (.int c), some (.lst smalls)] = _
      simp only [g2, gVar, gCon, List.getElem?_cons_zero, List.getElem?_cons_succ, sh_int, sh_lst, Res.bind_ok, dv_4, md_18, ofO_some, hx]
      rfl
def Tri (d : D) : Prop := ∃ a b c : Str, d = .lst [.str a, .str b, .str c]
theorem names_ok {ns : List Int} (hn : ns.length ≤ 1000) : ∃ fl d, m_names [.scr ns] = .ok (fl, d) ∧ Tri d := by
  obtain ⟨c, hc, c0, c1⟩ := cell_ok hn (k := 990) (by decide) (by decide)
  obtain ⟨s, ls, hs⟩ := name_ok (c := c / 4) (by omega) (by omega)
  have lc := Nat.le_trans (cutS_length s none (some 11)) ls
  obtain ⟨s2, hs2, l2⟩ := cat_ok (a := cutS s none (some 11)) (b := "0") (by have : ("0" : Str).length = 1 := by decide +kernel
                                                                             omega)
  have hsl : s.length ≤ sizeLine := Nat.le_trans ls (by decide)
  obtain ⟨some1, hsome⟩ : ∃ l : List D, l = [.lst [.str "a", .str "b", .str "r"], .lst [.str "aa", .str "a", .str "ab"], .lst [.str "x12", .str "x1", .str "x2"]] := ⟨_, rfl⟩
  have e1 : gSet 1 [0] (gCall (gCons (gVar 0) (gCons (gCon (.int 990)) (gNil))) m_cell) (enter 4 [.scr ns]) = .nx [some (.S, .scr ns), some (.T, .int c), none, none] := by
    refine q_set (x := (.T, .int c)) ?_ rfl
    show gCall _ _ [some (.scr ns), none, none, none] = _
    simp only [gCall, gCons, gNil, gVar, gCon, List.getElem?_cons_zero, List.getElem?_cons_succ, sh_scr, Res.bind_ok, hc]
  have e2 : gSet 2 [] (gLst (lCons (gLst (lCons (gCon (.str "a")) (lCons (gCon (.str "b")) (lCons (gCon (.str "r")) (lNil))))) (lCons (gLst (lCons (gCon (.str "aa")) (lCons (gCon (.str "a")) (lCons (gCon (.str "ab")) (lNil))))) (lCons (gLst (lCons (gCon (.str "x12")) (lCons (gCon (.str "x1")) (lCons (gCon (.str "x2")) (lNil))))) (lNil))))) [some (.S, .scr ns), some (.T, .int c), none, none] = .nx [some (.S, .scr ns), some (.T, .int c), some (.T, .lst some1), none] := q_set (x := (.T, .lst some1)) (by rw [hsome]; rfl) rfl
  have e3 : gSet 3 [1] (gLst (lCons (gCall (gCons (g2 (gVar 1) (gCon (.int 4)) (fun x y => ofO (divD x.2 y.2))) (gNil)) m_name_by) (lCons (g2 (gSl (gCall (gCons (g2 (gVar 1) (gCon (.int 4)) (fun x y => ofO (divD x.2 y.2))) (gNil)) m_name_by) none (some (gCon (.int 11)))) (gCon (.str "0")) (fun x y => ofO (addD x.2 y.2))) (lCons (gCon (.str "z")) (lNil))))) [some (.S, .scr ns), some (.T, .int c), some (.T, .lst some1), none] = .nx [some (.S, .scr ns), some (.T, .int c), some (.T, .lst some1), some (.T, .lst [.str s, .str s2, .str "z"])] := by
    refine q_set (x := (.T, .lst [.str s, .str s2, .str "z"])) ?_ rfl
    show gLst _ [some (.scr ns), some (.int c), none, none] = _
    simp only [gLst, lCons, lNil, gCall, gCons, gNil, g2, gVar, gCon, gSl, gPt, List.getElem?_cons_zero, List.getElem?_cons_succ, sh_int, Res.bind_ok, dv_4, ofO_some, hs, sliceD, if_pos hsl, hs2, chk, List.length_cons, List.length_nil, sz3q, if_true, mkL, List.map_cons, List.map_nil]
    rfl
  have hall : ∀ d ∈ some1 ++ [.lst [.str s, .str s2, .str "z"]], Tri d := fun d hd => by
    rw [hsome] at hd
    simp only [List.cons_append, List.nil_append, List.mem_cons, List.not_mem_nil, or_false] at hd
    rcases hd with h | h | h | h <;> exact ⟨_, _, _, h⟩
  have hl3 : some1.length = 3 := by rw [hsome]; rfl
  obtain ⟨d, hd, hx⟩ := ix_lst (ds := some1 ++ [.lst [.str s, .str s2, .str "z"]]) (i := c % 4) (Int.emod_nonneg _ (by decide)) (by rw [List.length_append, hl3]; exact Int.emod_lt_of_pos _ (by decide))
  refine ⟨(sh d).1, d, ?_, hall d hd⟩
  unfold m_names g_law_names
  refine runG_fin (fin_seq e1 (fin_seq e2 (fin_seq e3 (fin_rt (q_ret ?_)))))
  show g2 _ _ _ [some (.scr ns), some (.int c), some (.lst some1), some (.lst [.str s, .str s2, .str "z"])] = _
  have hadd : addD (.lst some1) (.lst [.lst [.str s, .str s2, .str "z"]]) = some (.R, .lst (some1 ++ [.lst [.str s, .str s2, .str "z"]])) := by
    simp only [addD]; rw [if_pos (by rw [hl3]; exact sz_4)]
  simp only [g2, gLst, lCons, lNil, gVar, gCon, List.getElem?_cons_zero, List.getElem?_cons_succ, sh_int, sh_lst, Res.bind_ok, chk, List.length_cons, List.length_nil, sz1q, if_true, mkL, List.map_cons, List.map_nil, hadd, ofO_some, md_4, hx]
  rfl
end G
end

section
set_option Elab.async false
set_option maxRecDepth 100000
set_option linter.all false
set_option maxHeartbeats 4000000
namespace G
open PySem PySem.Spec
open PyProof.Rows hiding intD
open L2 hiding gCons gNil gLst
open VL
theorem name_at {ns : List Int} {fl : Fl} {d : D} (hm : m_names [.scr ns] = .ok (fl, d)) (ht : Tri d) {i : Nat} {e : GE} {j : Nat} (hj : j < 3) {ρ : List (Option D)} (h0 : ρ[0]? = some (some (.scr ns))) (he : ∃ f, e ρ = .ok (f, .int (j : Int))) : ∃ s : Str, (g2 (gCall (gCons (gVar 0) (gNil)) m_names) e (fun x y => ofO (ixD x.2 y.2))) ρ = .ok (.T, .str s) := by
  obtain ⟨a, b, c, rfl⟩ := ht
  obtain ⟨f, he⟩ := he
  have hc : gCall (gCons (gVar 0) gNil) m_names ρ = .ok (fl, .lst [.str a, .str b, .str c]) := by
    simp only [gCall, gCons, gNil, gVar, h0, sh_scr, Res.bind_ok, hm]
  refine ⟨[a, b, c][j]'(by simpa using hj), ?_⟩
  · rw [g2_ok hc he, ix_nat (j := j) (by simpa using hj)]
    have : [D.str a, D.str b, D.str c][j]'(by simpa using hj) = .str ([a, b, c][j]'(by simpa using hj)) := by
      rcases j with _ | _ | _ | j
      · rfl
      · rfl
      · rfl
      · omega
    rw [this]; rfl
theorem record_ok {ns : List Int} (hn : ns.length ≤ 1000) {k : Int} (h0 : 0 ≤ k) (h1 : k < 2 ^ 25) : ∃ fl d, m_record [.scr ns, .int k] = .ok (fl, d) ∧ TD 20 5 d := by
  obtain ⟨c, hc, c0, c1⟩ := cell_ok hn h0 (k := k) (by omega)
  obtain ⟨fn, dn, hnm, htri⟩ := names_ok hn
  have e1 : gSet 2 [0, 1] (gCall (gCons (gVar 0) (gCons (gVar 1) (gNil))) m_cell) (enter 5 [.scr ns, .int k]) = .nx [some (.S, .scr ns), some (.T, .int k), some (.T, .int c), none, none] := q_set (x := (.T, .int c)) (cell_set hc _) rfl
  unfold m_record g_law_record
  by_cases a0 : c % 9 = 0
  · obtain ⟨fl, d, hd, ht⟩ := small_ok hn (k := k + 1) (by omega) (by omega)
    refine ⟨fl, d, runG_fin (fin_seq e1 (fin_q (q_ift ?_ (q_ret ?_)))), TD.mono (Nat.le_refl _) (by decide) ht⟩
    · show gTest _ [some (.scr ns), none, some (.int c), none, none] = _
      simp only [gTest, g2, gVar, gCon, List.getElem?_cons_zero, List.getElem?_cons_succ, sh_int, Res.bind_ok, md_9, eq_int, ofO_some, toB, a0]
      rfl
    · show gCall _ _ [some (.scr ns), some (.int k), none, none, none] = _
      simp only [gCall, gCons, gNil, g2, gVar, gCon, List.getElem?_cons_zero, List.getElem?_cons_succ, sh_int, sh_scr, Res.bind_ok, ad_i, ofO_some, hd]
  · obtain ⟨ρ', e4, f3, cur, x, e5, hf3, hcur⟩ := forL_rng (is := [4]) (g := gIfS [2, 4] (gTest (g2 (g2 (g2 (gVar 2) (g2 (gLst (lCons (gCon (.int 9)) (lCons (gCon (.int 27)) (lCons (gCon (.int 81)) (lNil))))) (gVar 4) (fun x y => ofO (ixD x.2 y.2))) (fun x y => ofO (divD x.2 y.2))) (gCon (.int 3)) (fun x y => ofO (modD x.2 y.2))) (gCon (.int 0)) (fun x y => ofO ((fB gtD) x.2 y.2)))) (gSetIt 3 [0, 1, 4] (g2 (gCall (gCons (gVar 0) (gNil)) m_names) (gVar 4) (fun x y => ofO (ixD x.2 y.2))) (gCall (gCons (gVar 0) (gCons (g2 (g2 (gVar 1) (gCon (.int 20)) (fun x y => ofO (addD x.2 y.2))) (g2 (gCon (.int 31)) (gVar 4) (fun x y => ofO (mulD x.2 y.2))) (fun x y => ofO (addD x.2 y.2))) (gNil))) m_small)) (gPass)) (n := 3)
        (ρ := [some (.S, .scr ns), some (.T, .int k), some (.T, .int c), some (.T, .dct []), none])
        (fun i ρ => ∃ f3 cur x, ρ = [some (.S, .scr ns), some (.T, .int k), some (.T, .int c), some (f3, .dct cur), x] ∧ f3 ≠ Fl.S ∧ Rec 20 4 i cur) (fun j hj ρ hρ => by
          obtain ⟨f3, cur, x, rfl, hf3, hcur⟩ := hρ
          have vw : ∀ f3 : Fl, f3 ≠ .S → viewF [2, 4] 0 [some (.S, .scr ns), some (.T, .int k), some (.T, .int c), some (f3, .dct cur), some (.T, .int (j : Int))] = [some (.scr ns), none, some (.int c), none, some (.int (j : Int))] := fun f3 h => by
            cases f3
            · exact absurd rfl h
            · rfl
            · rfl
          have vw2 : ∀ f3 : Fl, f3 ≠ .S → viewF [0, 1, 4] 0 [some (.S, .scr ns), some (.T, .int k), some (.T, .int c), some (f3, .dct cur), some (.T, .int (j : Int))] = [some (.scr ns), some (.int k), none, none, some (.int (j : Int))] := fun f3 h => by
            cases f3
            · exact absurd rfl h
            · rfl
            · rfl
          obtain ⟨b, hb⟩ : ∃ b, gTest (g2 (g2 (g2 (gVar 2) (g2 (gLst (lCons (gCon (.int 9)) (lCons (gCon (.int 27)) (lCons (gCon (.int 81)) (lNil))))) (gVar 4) (fun x y => ofO (ixD x.2 y.2))) (fun x y => ofO (divD x.2 y.2))) (gCon (.int 3)) (fun x y => ofO (modD x.2 y.2))) (gCon (.int 0)) (fun x y => ofO ((fB gtD) x.2 y.2))) [some (.scr ns), none, some (.int c), none, some (.int (j : Int))] = .ok b := by
            obtain ⟨q, hq, hx⟩ : ∃ q : Int, (q = 9 ∨ q = 27 ∨ q = 81) ∧ ixD (.lst [.int 9, .int 27, .int 81]) (.int (j : Int)) = some (.T, .int q) := by
              rw [ix_nat (ds := [.int 9, .int 27, .int 81]) (j := j) (by simpa using hj)]
              rcases j with _ | _ | _ | j
              · exact ⟨9, .inl rfl, rfl⟩
              · exact ⟨27, .inr (.inl rfl), rfl⟩
              · exact ⟨81, .inr (.inr rfl), rfl⟩
              · omega
            have hdv : divD (.int c) (.int q) = some (.T, .int (c / q)) := by
              rcases hq with rfl | rfl | rfl
              · exact dv_9 c
              · exact dv_27 c
              · exact dv_81 c
            refine ⟨decide (0 < c / q % 3), ?_⟩
            · simp only [gTest, g2, gLst, lCons, lNil, gVar, gCon, List.getElem?_cons_zero, List.getElem?_cons_succ, sh_int, Res.bind_ok, chk, List.length_cons, List.length_nil, sz3q, if_true, mkL, List.map_cons, List.map_nil, hx, ofO_some, hdv, md_3, fB, gtD, Option.map_some, toB]
          cases b with
          | false =>
            refine ⟨_, q_iff (by rw [show setsF [some (.S, .scr ns), some (.T, .int k), some (.T, .int c), some (f3, .dct cur), x] [4] [.int (j : Int)] = [some (.S, .scr ns), some (.T, .int k), some (.T, .int c), some (f3, .dct cur), some (.T, .int (j : Int))] from rfl, vw f3 hf3]; exact hb) rfl, f3, cur, _, rfl, hf3, ⟨Nat.le_succ_of_le hcur.len, hcur.nd, hcur.ks, hcur.td⟩⟩
          | true =>
            obtain ⟨s, hs⟩ := name_at hnm htri (i := 0) (e := gVar 4) hj (ρ := [some (.scr ns), some (.int k), none, none, some (.int (j : Int))]) rfl ⟨.T, rfl⟩
            obtain ⟨fs, ds, hsm, hst⟩ := small_ok hn (k := k + 20 + 31 * (j : Int)) (by omega) (by omega)
            have hge : ∀ y : Int, m_small [.scr ns, .int (k + 20 + 31 * y)] = .ok (fs, ds) → gCall (gCons (gVar 0) (gCons (g2 (g2 (gVar 1) (gCon (.int 20)) (fun x y => ofO (addD x.2 y.2))) (g2 (gCon (.int 31)) (gVar 4) (fun x y => ofO (mulD x.2 y.2))) (fun x y => ofO (addD x.2 y.2))) (gNil))) m_small [some (.scr ns), some (.int k), none, none, some (.int y)] = .ok (fs, ds) := fun y h => by
              simp only [gCall, gCons, gNil, g2, gVar, gCon, List.getElem?_cons_zero, List.getElem?_cons_succ, sh_int, sh_scr, Res.bind_ok, ml_l (i := 31) (j := y) ⟨by decide, by decide⟩, ad_i, ofO_some, h]
            obtain ⟨f', hf', e⟩ := q_setit (i := 3) (vs := [0, 1, 4]) (ρ := [some (.S, .scr ns), some (.T, .int k), some (.T, .int c), some (f3, .dct cur), some (.T, .int (j : Int))]) (s := s) rfl hf3 (by rw [vw2 f3 hf3]; exact hge _ hsm) (by rw [vw2 f3 hf3]; exact hs) (k := .inr s) rfl rfl rfl (lt_size (b := 1000) (by have := hcur.len; omega) (by decide))
            refine ⟨_, q_ift (by rw [show setsF [some (.S, .scr ns), some (.T, .int k), some (.T, .int c), some (f3, .dct cur), x] [4] [.int (j : Int)] = [some (.S, .scr ns), some (.T, .int k), some (.T, .int c), some (f3, .dct cur), some (.T, .int (j : Int))] from rfl, vw f3 hf3]; exact hb) e, f', _, _, rfl, hf', hcur.put (TD.mono (Nat.le_refl _) (by decide) hst)⟩) ⟨.T, [], none, rfl, by decide, Rec.nil⟩
    subst e5
    have hfor : gFor [] [4] (gItR1 (gCon (.int 3))) t1 (gIfS [2, 4] (gTest (g2 (g2 (g2 (gVar 2) (g2 (gLst (lCons (gCon (.int 9)) (lCons (gCon (.int 27)) (lCons (gCon (.int 81)) (lNil))))) (gVar 4) (fun x y => ofO (ixD x.2 y.2))) (fun x y => ofO (divD x.2 y.2))) (gCon (.int 3)) (fun x y => ofO (modD x.2 y.2))) (gCon (.int 0)) (fun x y => ofO ((fB gtD) x.2 y.2)))) (gSetIt 3 [0, 1, 4] (g2 (gCall (gCons (gVar 0) (gNil)) m_names) (gVar 4) (fun x y => ofO (ixD x.2 y.2))) (gCall (gCons (gVar 0) (gCons (g2 (g2 (gVar 1) (gCon (.int 20)) (fun x y => ofO (addD x.2 y.2))) (g2 (gCon (.int 31)) (gVar 4) (fun x y => ofO (mulD x.2 y.2))) (fun x y => ofO (addD x.2 y.2))) (gNil))) m_small)) (gPass)) [some (.S, .scr ns), some (.T, .int k), some (.T, .int c), some (.T, .dct []), none] = .nx [some (.S, .scr ns), some (.T, .int k), some (.T, .int c), some (f3, .dct cur), x] :=
      q_for (xs := rngD 0 (3 : Nat)) (q_rng (fl := .T) (n := 3) (i := 3) rfl rfl (by decide)) rfl e4
    have vx : ∀ (f3 : Fl) (x : Option FD), f3 ≠ .S → ∃ u, viewF [2] 0 [some (.S, .scr ns), some (.T, .int k), some (.T, .int c), some (f3, .dct cur), x] = [some (.scr ns), none, some (.int c), none, u] := fun f3 x h => by
      cases f3
      · exact absurd rfl h
      · rcases x with _ | ⟨f, d⟩ <;> exact ⟨_, rfl⟩
      · rcases x with _ | ⟨f, d⟩ <;> exact ⟨_, rfl⟩
    obtain ⟨u, hu⟩ := vx f3 x hf3
    have t9 : gTest (g2 (g2 (gVar 2) (gCon (.int 9)) (fun x y => ofO (modD x.2 y.2))) (gCon (.int 0)) (fun x y => ofO ((fB (eqN 32)) x.2 y.2))) [some (.scr ns), none, some (.int c), none, none] = .ok false := by
      have : (c % 9 == 0) = false := by simpa using a0
      simp only [gTest, g2, gVar, gCon, List.getElem?_cons_zero, List.getElem?_cons_succ, sh_int, Res.bind_ok, md_9, eq_int, ofO_some, toB, this]
    have t243 : ∀ b, (c / 243 % 3 == 1) = b → gTest (g2 (g2 (g2 (gVar 2) (gCon (.int 243)) (fun x y => ofO (divD x.2 y.2))) (gCon (.int 3)) (fun x y => ofO (modD x.2 y.2))) (gCon (.int 1)) (fun x y => ofO ((fB (eqN 32)) x.2 y.2))) [some (.scr ns), none, some (.int c), none, u] = .ok b := fun b hb => by
      simp only [gTest, g2, gVar, gCon, List.getElem?_cons_zero, List.getElem?_cons_succ, sh_int, Res.bind_ok, dv_243, md_3, eq_int, ofO_some, toB, hb]
    by_cases a1 : c / 243 % 3 = 1
    · obtain ⟨N, hN⟩ := Int.eq_ofNat_of_zero_le (show 0 ≤ c / 729 % 4 by omega)
      have hN4 : N < 4 := by omega
      have arg : ∀ y : Int, gCall (gCons (gVar 0) (gCons (g2 (g2 (gVar 1) (gCon (.int 200)) (fun x y => ofO (addD x.2 y.2))) (g2 (gCon (.int 17)) (gVar 4) (fun x y => ofO (mulD x.2 y.2))) (fun x y => ofO (addD x.2 y.2))) (gNil))) m_small [some (.scr ns), some (.int k), some (.int c), none, some (.int y)] = m_small [.scr ns, .int (k + 200 + 17 * y)] := fun y => by
        simp only [gCall, gCons, gNil, g2, gVar, gCon, List.getElem?_cons_zero, List.getElem?_cons_succ, sh_int, sh_scr, Res.bind_ok, ml_l (i := 17) (j := y) ⟨by decide, by decide⟩, ad_i, ofO_some]
      obtain ⟨ys, q1, q2, q3⟩ := compL_ex (t := t1) (is := [4]) (g := gCall (gCons (gVar 0) (gCons (g2 (g2 (gVar 1) (gCon (.int 200)) (fun x y => ofO (addD x.2 y.2))) (g2 (gCon (.int 17)) (gVar 4) (fun x y => ofO (mulD x.2 y.2))) (fun x y => ofO (addD x.2 y.2))) (gNil))) m_small) (ρ := [some (.scr ns), some (.int k), some (.int c), none, none]) (fun y => TD 20 3 y.2) (xs := rngD 0 N) fun x hx => by
        obtain ⟨j, hj, rfl⟩ := mem_rng hx
        obtain ⟨fl, d, z1, z2⟩ := small_ok hn (k := k + 200 + 17 * (j : Int)) (by omega) (by omega)
        exact ⟨[.int (j : Int)], (fl, d), rfl, (arg (j : Int)).trans z1, z2⟩
      rw [rng_len] at q2
      have hcomp : ∀ u, gComp [4] [4] (gItR1 (g2 (g2 (gVar 2) (gCon (.int 729)) (fun x y => ofO (divD x.2 y.2))) (gCon (.int 4)) (fun x y => ofO (modD x.2 y.2)))) t1 (cYes) (gCall (gCons (gVar 0) (gCons (g2 (g2 (gVar 1) (gCon (.int 200)) (fun x y => ofO (addD x.2 y.2))) (g2 (gCon (.int 17)) (gVar 4) (fun x y => ofO (mulD x.2 y.2))) (fun x y => ofO (addD x.2 y.2))) (gNil))) m_small) [some (.scr ns), some (.int k), some (.int c), none, u] = .ok (mkL ys) := fun u => by
        unfold gComp
        rw [q_rng (fl := .T) (n := N) (i := c / 729 % 4) (by simp only [g2, gVar, gCon, List.getElem?_cons_zero, List.getElem?_cons_succ, sh_int, Res.bind_ok, dv_729, md_4, ofO_some]) hN (by omega)]
        rw [Res.bind_ok, if_pos (by rw [rng_len]; exact td_sz (b := 1000) (by omega) (by decide))]
        have ew : wipeD [some (.scr ns), some (.int k), some (.int c), none, u] [4] = [some (.scr ns), some (.int k), some (.int c), none, none] := rfl
        rw [ew, q1, Res.bind_ok]
      have hy : TD 20 4 (mkL ys).2 := ⟨by rw [List.length_map, q2]; omega, fun d hd => by
        obtain ⟨y, hy, rfl⟩ := List.mem_map.mp hd
        exact q3 y hy⟩
      have vx2 : ∀ (f3 : Fl) (x : Option FD), f3 ≠ .S → ∃ u, viewF [0, 1, 2] 0 [some (.S, .scr ns), some (.T, .int k), some (.T, .int c), some (f3, .dct cur), x] = [some (.scr ns), some (.int k), some (.int c), none, u] := fun f3 x h => by
        cases f3
        · exact absurd rfl h
        · rcases x with _ | ⟨f, d⟩ <;> exact ⟨_, rfl⟩
        · rcases x with _ | ⟨f, d⟩ <;> exact ⟨_, rfl⟩
      obtain ⟨u2, hu2⟩ := vx2 f3 x hf3
      obtain ⟨s, hs⟩ := name_at hnm htri (i := 0) (e := gCon (.int 2)) (j := 2) (by decide) (ρ := [some (.scr ns), some (.int k), some (.int c), none, u2]) rfl ⟨.T, rfl⟩
      obtain ⟨f', hf', e⟩ := q_setit (i := 3) (vs := [0, 1, 2]) (ρ := [some (.S, .scr ns), some (.T, .int k), some (.T, .int c), some (f3, .dct cur), x]) (s := s) rfl hf3 (by rw [hu2]; exact hcomp u2) (by rw [hu2]; exact hs) (k := .inr s) rfl (by rcases x with _ | ⟨f, d⟩ <;> rfl) rfl (lt_size (b := 1000) (by have := hcur.len; omega) (by decide))
      refine ⟨f', .dct _, runG_fin (fin_seq e1 (fin_seq (q_iff t9 rfl) (fin_seq (q_set (x := (.T, .dct [])) rfl rfl) (fin_seq hfor (fin_seq (q_ift (by rw [hu]; exact t243 true (by simpa using a1)) e) rfl))))), (hcur.put hy).thing (by decide)⟩
    · refine ⟨f3, .dct cur, runG_fin (fin_seq e1 (fin_seq (q_iff t9 rfl) (fin_seq (q_set (x := (.T, .dct [])) rfl rfl) (fin_seq hfor (fin_seq (q_iff (k := gPass) (by rw [hu]; exact t243 false (by simpa using a1)) rfl) rfl))))), hcur.thing (by decide)⟩
end G
end

section
set_option Elab.async false
set_option maxRecDepth 100000
set_option linter.all false
set_option maxHeartbeats 4000000
namespace G
open PySem PySem.Spec
open PyProof.Rows hiding intD
open L2 hiding gCons gNil gLst
open VL
/-- records: whole keys -/
structure Recs (l : Nat) (cur : List (Key × D)) : Prop where
  len : cur.length ≤ l
  nd : (cur.map (·.1)).Nodup
  ks : ∃ ks : List Int, cur.map (·.1) = ks.map Sum.inl ∧ ∀ i ∈ ks, 0 ≤ i ∧ i < 1000000
  td : ∀ kv ∈ cur, TD 20 5 kv.2
theorem Recs.put {l : Nat} {cur : List (Key × D)} (h : Recs l cur) {i : Int} {d : D} (hi : 0 ≤ i ∧ i < 1000000) (hd : TD 20 5 d) : Recs (l + 1) (putD cur (.inl i) d) := by
  obtain ⟨h1, h2, ⟨ks, h3, h5⟩, h4⟩ := h
  refine ⟨Nat.le_trans (putD_length _ _ _) (Nat.succ_le_succ h1), putD_nodup _ _ h2, ?_, fun kv hkv => (mem_put hkv).elim (h4 kv) fun e => by rw [e]; exact hd⟩
  rw [putD_keys]
  split
  · exact ⟨ks, h3, h5⟩
  · refine ⟨ks ++ [i], by rw [h3]; simp, fun j hj => ?_⟩
    rcases List.mem_append.mp hj with hj | hj
    · exact h5 j hj
    · rw [List.mem_singleton.mp hj]; exact hi
theorem records_ok {ns : List Int} (hn : ns.length ≤ 1000) : ∃ fl recs, m_records [.scr ns, .int 10] = .ok (fl, .dct recs) ∧ Recs 10 recs := by
  obtain ⟨c0, hc0, b0, b1⟩ := cell_ok hn (k := 0) (by decide) (by decide)
  obtain ⟨N, hN⟩ := Int.eq_ofNat_of_zero_le (show 0 ≤ c0 % (10 + 1) by omega)
  have hN10 : N ≤ 10 := by omega
  obtain ⟨ρ', e4, f2, cur, o3, o4, o5, e5, hf2, hcur⟩ := forL_rng (is := [3]) (g := gSeq (gSet 4 [0, 3] (gCall (gCons (gVar 0) (gCons (g2 (gCon (.int 400)) (gVar 3) (fun x y => ofO (addD x.2 y.2))) (gNil))) m_cell)) (gSeq (gSet 5 [3, 4] (g2 (gLst (lCons (gVar 3) (lCons (g2 (g2 (gVar 4) (gCon (.int 3)) (fun x y => ofO (divD x.2 y.2))) (gCon (.int 12)) (fun x y => ofO (modD x.2 y.2))) (lCons (g2 (gVar 4) (gCon (.int 3)) (fun x y => ofO (divD x.2 y.2))) (lNil))))) (g2 (gVar 4) (gCon (.int 3)) (fun x y => ofO (modD x.2 y.2))) (fun x y => ofO (ixD x.2 y.2)))) (gSetIt 2 [0, 3, 5] (gVar 5) (gCall (gCons (gVar 0) (gCons (g2 (gCon (.int 1000)) (g2 (gCon (.int 700)) (gVar 3) (fun x y => ofO (mulD x.2 y.2))) (fun x y => ofO (addD x.2 y.2))) (gNil))) m_record)))) (n := N)
      (ρ := [some (.S, .scr ns), some (.T, .int 10), some (.T, .dct []), none, none, none])
      (fun i ρ => ∃ f2 cur o3 o4 o5, ρ = [some (.S, .scr ns), some (.T, .int 10), some (f2, .dct cur), o3, o4, o5] ∧ f2 ≠ Fl.S ∧ Recs i cur) (fun j hj ρ hρ => by
        obtain ⟨f2, cur, o3, o4, o5, rfl, hf2, hcur⟩ := hρ
        obtain ⟨c, hc, c0, c1⟩ := cell_ok hn (k := 400 + (j : Int)) (by omega) (by omega)
        obtain ⟨fr, dr, hr, htr⟩ := record_ok hn (k := 1000 + 700 * (j : Int)) (by omega) (by omega)
        obtain ⟨y, hy⟩ : ∃ y : Int, y = j := ⟨_, rfl⟩
        have y0 : 0 ≤ y ∧ y < 11 := by omega
        rw [← hy] at hc hr ⊢
        obtain ⟨d, hd, hx⟩ := ix_lst (ds := [.int y, .int (c / 3 % 12), .int (c / 3)]) (i := c % 3) (Int.emod_nonneg _ (by decide)) (Int.emod_lt_of_pos _ (by decide))
        obtain ⟨z, rfl, z0⟩ : ∃ z : Int, d = .int z ∧ 0 ≤ z ∧ z < 1000000 := by
          simp only [List.mem_cons, List.not_mem_nil, or_false] at hd
          rcases hd with h | h | h
          · exact ⟨_, h, by omega, by omega⟩
          · exact ⟨_, h, by omega, by omega⟩
          · exact ⟨_, h, by omega, by omega⟩
        have va : ∀ (f2 : Fl) (x x' : Option FD), f2 ≠ .S → ∃ u u', viewF [0, 3] 0 [some (.S, .scr ns), some (.T, .int 10), some (f2, .dct cur), some (.T, .int y), x, x'] = [some (.scr ns), none, none, some (.int y), u, u'] := fun f2 x x' h => by
          cases f2
          · exact absurd rfl h
          · rcases x with _ | ⟨f, d⟩ <;> rcases x' with _ | ⟨f', d'⟩ <;> exact ⟨_, _, rfl⟩
          · rcases x with _ | ⟨f, d⟩ <;> rcases x' with _ | ⟨f', d'⟩ <;> exact ⟨_, _, rfl⟩
        have vb : ∀ (f2 : Fl) (x' : Option FD), f2 ≠ .S → ∃ u', viewF [3, 4] 0 [some (.S, .scr ns), some (.T, .int 10), some (f2, .dct cur), some (.T, .int y), some (.T, .int c), x'] = [some (.scr ns), none, none, some (.int y), some (.int c), u'] := fun f2 x' h => by
          cases f2
          · exact absurd rfl h
          · rcases x' with _ | ⟨f', d'⟩ <;> exact ⟨_, rfl⟩
          · rcases x' with _ | ⟨f', d'⟩ <;> exact ⟨_, rfl⟩
        have vc : ∀ (f2 : Fl), f2 ≠ .S → viewF [0, 3, 5] 0 [some (.S, .scr ns), some (.T, .int 10), some (f2, .dct cur), some (.T, .int y), some (.T, .int c), some (.T, .int z)] = [some (.scr ns), none, none, some (.int y), none, some (.int z)] := fun f2 h => by
          cases f2
          · exact absurd rfl h
          · rfl
          · rfl
        obtain ⟨u, u', hu⟩ := va f2 o4 o5 hf2
        obtain ⟨w, hw⟩ := vb f2 o5 hf2
        have s4 : gSet 4 [0, 3] (gCall (gCons (gVar 0) (gCons (g2 (gCon (.int 400)) (gVar 3) (fun x y => ofO (addD x.2 y.2))) (gNil))) m_cell) [some (.S, .scr ns), some (.T, .int 10), some (f2, .dct cur), some (.T, .int y), o4, o5] = .nx [some (.S, .scr ns), some (.T, .int 10), some (f2, .dct cur), some (.T, .int y), some (.T, .int c), o5] := by
          refine q_set (x := (.T, .int c)) ?_ rfl
          rw [hu]
          simp only [gCall, gCons, gNil, g2, gVar, gCon, List.getElem?_cons_zero, List.getElem?_cons_succ, sh_int, sh_scr, Res.bind_ok, ad_i, ofO_some, hc]
        have s5 : gSet 5 [3, 4] (g2 (gLst (lCons (gVar 3) (lCons (g2 (g2 (gVar 4) (gCon (.int 3)) (fun x y => ofO (divD x.2 y.2))) (gCon (.int 12)) (fun x y => ofO (modD x.2 y.2))) (lCons (g2 (gVar 4) (gCon (.int 3)) (fun x y => ofO (divD x.2 y.2))) (lNil))))) (g2 (gVar 4) (gCon (.int 3)) (fun x y => ofO (modD x.2 y.2))) (fun x y => ofO (ixD x.2 y.2))) [some (.S, .scr ns), some (.T, .int 10), some (f2, .dct cur), some (.T, .int y), some (.T, .int c), o5] = .nx [some (.S, .scr ns), some (.T, .int 10), some (f2, .dct cur), some (.T, .int y), some (.T, .int c), some (.T, .int z)] := by
          refine q_set (x := (.T, .int z)) ?_ rfl
          rw [hw]
          simp only [g2, gLst, lCons, lNil, gVar, gCon, List.getElem?_cons_zero, List.getElem?_cons_succ, sh_int, Res.bind_ok, dv_3, md_12, md_3, ofO_some, chk, List.length_cons, List.length_nil, sz3q, if_true, mkL, List.map_cons, List.map_nil, hx]
        have hge : gCall (gCons (gVar 0) (gCons (g2 (gCon (.int 1000)) (g2 (gCon (.int 700)) (gVar 3) (fun x y => ofO (mulD x.2 y.2))) (fun x y => ofO (addD x.2 y.2))) (gNil))) m_record [some (.scr ns), none, none, some (.int y), none, some (.int z)] = .ok (fr, dr) := by
          simp only [gCall, gCons, gNil, g2, gVar, gCon, List.getElem?_cons_zero, List.getElem?_cons_succ, sh_int, sh_scr, Res.bind_ok, ml_l (i := 700) (j := y) ⟨by decide, by decide⟩, ad_i, ofO_some, hr]
        obtain ⟨f', hf', e⟩ := q_setit (i := 2) (vs := [0, 3, 5]) (gk := gVar 5) (ρ := [some (.S, .scr ns), some (.T, .int 10), some (f2, .dct cur), some (.T, .int y), some (.T, .int c), some (.T, .int z)]) (s := "") rfl hf2 (by rw [vc f2 hf2]; exact hge) (by rw [vc f2 hf2]; rfl) (k := .inl z) (kd := .int z) rfl rfl rfl (lt_size (b := 1000) (by have := hcur.len; omega) (by decide))
        exact ⟨_, q_seq s4 (q_seq s5 e), f', _, _, _, _, rfl, hf', hcur.put z0 htr⟩) ⟨.T, [], none, none, none, rfl, by decide, ⟨Nat.le_refl _, by simp, ⟨[], rfl, by simp⟩, by simp⟩⟩
  subst e5
  refine ⟨f2, cur, ?_, ⟨Nat.le_trans hcur.len hN10, hcur.nd, hcur.ks, hcur.td⟩⟩
  unfold m_records g_law_records
  refine runG_fin (fin_seq (q_set (x := (.T, .dct [])) rfl rfl) (fin_seq (q_for (xs := rngD 0 N) (q_rng (fl := .T) (n := N) (i := c0 % (10 + 1)) ?_ hN (by omega)) rfl e4) rfl))
  show g2 _ _ _ [some (.scr ns), some (.int 10), none, none, none, none] = _
  have m11 : modD (.int c0) (.int (10 + 1)) = some (.T, .int (c0 % (10 + 1))) := md_of (by decide)
  simp only [g2, gCall, gCons, gNil, gVar, gCon, List.getElem?_cons_zero, List.getElem?_cons_succ, sh_int, sh_scr, Res.bind_ok, hc0, ad_i, ofO_some, m11]
/-! paths -/
def Pth (d : D) : Prop := ∃ ps : List D, d = .lst ps ∧ (∀ p ∈ ps, Stp p) ∧ ps.length < 1000
theorem pth0 : Pth (.lst []) := ⟨[], rfl, by simp, by simp⟩
theorem pth_s {s : Str} {ps : List D} (h : Pth (.lst ps)) (hl : ps.length < 10) : Pth (.lst (.str s :: ps)) := by
  obtain ⟨_, h1, h2, h3⟩ := h
  cases h1
  refine ⟨_, rfl, fun p hp => ?_, by simp; omega⟩
  rcases List.mem_cons.mp hp with rfl | hp
  · exact .inl ⟨_, rfl⟩
  · exact h2 p hp
theorem pth_i {k : Nat} {ps : List D} (h : Pth (.lst ps)) (hl : ps.length < 10) : Pth (.lst (.int (k : Int) :: ps)) := by
  obtain ⟨_, h1, h2, h3⟩ := h
  cases h1
  refine ⟨_, rfl, fun p hp => ?_, by simp; omega⟩
  rcases List.mem_cons.mp hp with rfl | hp
  · exact .inr ⟨_, rfl⟩
  · exact h2 p hp
theorem path_ok {ns : List Int} (hn : ns.length ≤ 1000) {k : Int} (h0 : 0 ≤ k) (h1 : k < 2 ^ 25) : ∃ fl ps, m_path [.scr ns, .int k] = .ok (fl, .lst ps) ∧ (∀ p ∈ ps, Stp p) ∧ ps.length < 1000 := by
  obtain ⟨c, hc, c0, c1⟩ := cell_ok hn h0 (k := k) (by omega)
  obtain ⟨fn, dn, hnm, a, b, z, rfl⟩ := names_ok hn
  obtain ⟨some7, h7⟩ : ∃ l : List D, l = [.lst [.str a], .lst [.str b], .lst [.str z], .lst [], .lst [.str z, .int 0], .lst [.str a, .str "a"], .lst [.str z, .int 1]] := ⟨_, rfl⟩
  obtain ⟨more3, h3⟩ : ∃ l : List D, l = [.lst [.str a, .int 0], .lst [.str "zz"], .lst [.str z, .int 0, .str "a"]] := ⟨_, rfl⟩
  have hcut : cutL some7 none (some 3) = [.lst [.str a], .lst [.str b], .lst [.str z]] := by rw [h7]; rfl
  have hall : ∀ d ∈ (some7 ++ more3) ++ [.lst [.str a], .lst [.str b], .lst [.str z]], Pth d := fun d hd => by
    rw [h7, h3] at hd
    simp only [List.cons_append, List.nil_append, List.mem_cons, List.not_mem_nil, or_false] at hd
    rcases hd with rfl | rfl | rfl | rfl | rfl | rfl | rfl | rfl | rfl | rfl | rfl | rfl | rfl
    · exact pth_s pth0 (by decide)
    · exact pth_s pth0 (by decide)
    · exact pth_s pth0 (by decide)
    · exact pth0
    · exact pth_s (pth_i (k := 0) pth0 (by decide)) (by decide)
    · exact pth_s (pth_s pth0 (by decide)) (by decide)
    · exact pth_s (pth_i (k := 1) pth0 (by decide)) (by decide)
    · exact pth_s (pth_i (k := 0) pth0 (by decide)) (by decide)
    · exact pth_s pth0 (by decide)
    · exact pth_s (pth_i (k := 0) (pth_s pth0 (by decide)) (by decide)) (by decide)
    · exact pth_s pth0 (by decide)
    · exact pth_s pth0 (by decide)
    · exact pth_s pth0 (by decide)
  have l7 : some7.length = 7 := by rw [h7]; rfl
  have l3 : more3.length = 3 := by rw [h3]; rfl
  obtain ⟨d, hd, hx⟩ := ix_lst (ds := (some7 ++ more3) ++ [.lst [.str a], .lst [.str b], .lst [.str z]]) (i := c % 13) (Int.emod_nonneg _ (by decide)) (by rw [List.length_append, List.length_append, l7, l3]; exact Int.emod_lt_of_pos _ (by decide))
  obtain ⟨ps, rfl, hp1, hp2⟩ := hall d hd
  have nm : ∀ (j : Nat) (s : Str), [D.str a, D.str b, D.str z][j]? = some (.str s) → ∀ r, (g2 (gCall (gCons (gVar 0) (gNil)) m_names) (gCon (.int (j : Int))) (fun x y => ofO (ixD x.2 y.2))) (some (.scr ns) :: r) = .ok (.T, .str s) := fun j s hj r => by
    have hc : gCall (gCons (gVar 0) gNil) m_names (some (.scr ns) :: r) = .ok (fn, .lst [.str a, .str b, .str z]) := by
      simp only [gCall, gCons, gNil, gVar, List.getElem?_cons_zero, sh_scr, Res.bind_ok, hnm]
    rw [g2_ok hc (y := (.T, .int (j : Int))) rfl]
    show ofO (ixD (.lst [D.str a, D.str b, D.str z]) (.int (j : Int))) = _
    rw [ixD_lst, atI_nat hj]; rfl
  refine ⟨flL ps, ps, ?_, hp1, hp2⟩
  unfold m_path g_law_path
  have e1 : gSet 2 [0, 1] (gCall (gCons (gVar 0) (gCons (gVar 1) (gNil))) m_cell) (enter 6 [.scr ns, .int k]) = .nx [some (.S, .scr ns), some (.T, .int k), some (.T, .int c), none, none, none] := q_set (x := (.T, .int c)) (cell_set hc _) rfl
  refine runG_fin (fin_seq e1 (fin_seq (q_set (x := (.T, .str a)) (nm 0 a rfl _) rfl) (fin_seq (q_set (x := (.T, .str z)) (nm 2 z rfl _) rfl) (fin_seq (ρ1 := [some (.S, .scr ns), some (.T, .int k), some (.T, .int c), some (.T, .str a), some (.T, .str z), some (.T, .lst some7)]) (q_set (x := (.T, .lst some7)) ?_ rfl) (fin_rt (q_ret ?_))))))
  · have hb := nm 1 b rfl [none, none, some (.str a), some (.str z), none]
    show gLst _ [some (.scr ns), none, none, some (.str a), some (.str z), none] = _
    have hb' : (g2 (gCall (gCons (gVar 0) (gNil)) m_names) (gCon (.int 1)) (fun x y => ofO (ixD x.2 y.2))) [some (.scr ns), none, none, some (.str a), some (.str z), none] = .ok (.T, .str b) := hb
    have sz7q : decide (0 + 1 + 1 + 1 + 1 + 1 + 1 + 1 ≤ sizeLine) = true := by decide +kernel
    have sz0q : decide (0 ≤ sizeLine) = true := by decide +kernel
    simp only [gLst, lCons, lNil, hb', gVar, gCon, List.getElem?_cons_zero, List.getElem?_cons_succ, sh_str, Res.bind_ok, chk, List.length_cons, List.length_nil, sz0q, sz1q, sz2q, sz7q, if_true, mkL, List.map_cons, List.map_nil, h7]
    rfl
  · show gCall _ _ [some (.scr ns), none, some (.int c), some (.str a), some (.str z), some (.lst some7)] = _
    have ha1 : addD (.lst some7) (.lst more3) = some (.R, .lst (some7 ++ more3)) := by
      simp only [addD]; rw [if_pos (by rw [l7, l3]; decide)]
    have ha2 : addD (.lst (some7 ++ more3)) (.lst (cutL some7 none (some 3))) = some (.R, .lst ((some7 ++ more3) ++ [.lst [.str a], .lst [.str b], .lst [.str z]])) := by
      rw [hcut]; simp only [addD]; rw [if_pos (by rw [List.length_append, l7, l3]; exact (show (7 + 3 + 3 : Nat) ≤ sizeLine by decide))]
    have hm3 : gLst (lCons (gLst (lCons (gVar 3) (lCons (gCon (.int 0)) (lNil)))) (lCons (gLst (lCons (gCon (.str "zz")) (lNil))) (lCons (gLst (lCons (gVar 4) (lCons (gCon (.int 0)) (lCons (gCon (.str "a")) (lNil))))) (lNil)))) [some (.scr ns), none, some (.int c), some (.str a), some (.str z), some (.lst some7)] = .ok (.T, .lst more3) := by
      simp only [gLst, lCons, lNil, gVar, gCon, List.getElem?_cons_zero, List.getElem?_cons_succ, sh_str, Res.bind_ok, chk, List.length_cons, List.length_nil, sz1q, sz2q, sz3q, if_true, mkL, List.map_cons, List.map_nil, h3]
      rfl
    have hsl : gSl (gVar 5) none (some (gCon (.int 3))) [some (.scr ns), none, some (.int c), some (.str a), some (.str z), some (.lst some7)] = .ok (flL (cutL some7 none (some 3)), .lst (cutL some7 none (some 3))) := rfl
    have hadd : (g2 (g2 (gVar 5) (gLst (lCons (gLst (lCons (gVar 3) (lCons (gCon (.int 0)) (lNil)))) (lCons (gLst (lCons (gCon (.str "zz")) (lNil))) (lCons (gLst (lCons (gVar 4) (lCons (gCon (.int 0)) (lCons (gCon (.str "a")) (lNil))))) (lNil))))) (fun x y => ofO (addD x.2 y.2))) (gSl (gVar 5) none (some (gCon (.int 3)))) (fun x y => ofO (addD x.2 y.2))) [some (.scr ns), none, some (.int c), some (.str a), some (.str z), some (.lst some7)] = .ok (.R, .lst ((some7 ++ more3) ++ [.lst [.str a], .lst [.str b], .lst [.str z]])) := by
      rw [g2_ok (x := (.R, .lst (some7 ++ more3))) (by rw [g2_ok (x := (.S, .lst some7)) rfl hm3]; simp only [ha1, ofO_some]) hsl]
      simp only [ha2, ofO_some]
    have hixx : (g2 (g2 (g2 (gVar 5) (gLst (lCons (gLst (lCons (gVar 3) (lCons (gCon (.int 0)) (lNil)))) (lCons (gLst (lCons (gCon (.str "zz")) (lNil))) (lCons (gLst (lCons (gVar 4) (lCons (gCon (.int 0)) (lCons (gCon (.str "a")) (lNil))))) (lNil))))) (fun x y => ofO (addD x.2 y.2))) (gSl (gVar 5) none (some (gCon (.int 3)))) (fun x y => ofO (addD x.2 y.2))) (g2 (gVar 2) (gCon (.int 13)) (fun x y => ofO (modD x.2 y.2))) (fun x y => ofO (ixD x.2 y.2))) [some (.scr ns), none, some (.int c), some (.str a), some (.str z), some (.lst some7)] = .ok (sh (.lst ps)) := by
      rw [g2_ok hadd (y := (.T, .int (c % 13))) (by simp only [g2, gVar, gCon, List.getElem?_cons_zero, List.getElem?_cons_succ, sh_int, Res.bind_ok, md_13, ofO_some])]
      simp only [hx, ofO_some]
    simp only [gCall, gCons, gNil, hixx, Res.bind_ok, sh_2, listD, ofO_some]
end G
end

section
set_option Elab.async false
set_option maxRecDepth 100000
set_option linter.all false
set_option maxHeartbeats 4000000
namespace G
open PySem PySem.Spec
open PyProof.Rows hiding intD
open L2 hiding gCons gNil gLst
open VL
theorem keyInts_map (ks : List Int) : keyInts (ks.map Sum.inl) = some ks := by
  induction ks with
  | nil => rfl
  | cons k ks ih => rw [List.map_cons]; unfold keyInts; rw [ih]; rfl
theorem sortD_int {kds : List (Key × D)} {ks : List Int} (h : kds.map (·.1) = ks.map Sum.inl) (hl : kds.length < 60) : sortD [.dct kds] = some (.T, .lst ((sortInt ks).map D.int)) := by
  have hl2 : ks.length < 64 := by
    have := congrArg List.length h
    simp at this; omega
  cases ks with
  | nil =>
    have : keyStrs (kds.map (·.1)) = some [] := by rw [h]; rfl
    simp [sortD, this, oT, sortStr, sortInt]
  | cons k ks =>
    have h1 : keyStrs (List.map (fun x => x.1) kds) = none := by rw [h]; rfl
    have h2 : keyInts (List.map (fun x => x.1) kds) = some (k :: ks) := by rw [h]; exact keyInts_map _
    simp only [sortD, h1, h2, if_pos hl2]; rfl
end G
end

section
set_option Elab.async false
set_option maxRecDepth 100000
set_option linter.all false
set_option maxHeartbeats 4000000
namespace G
open PySem PySem.Spec
open PyProof.Rows hiding intD
open L2 hiding gCons gNil gLst
open VL
/-! which comes first -/
structure Ord {α : Type} (c : α → α → Int) : Prop where
  asym : ∀ x y, c y x = - c x y
  tr : ∀ x y z, c x y ≤ 0 → c y z ≤ 0 → c x z ≤ 0
  rng : ∀ x y, c x y = -1 ∨ c x y = 0 ∨ c x y = 1
theorem Ord.self {α : Type} {c : α → α → Int} (h : Ord c) (x : α) : c x x = 0 := by have := h.asym x x; omega
theorem Ord.lt_le {α : Type} {c : α → α → Int} (h : Ord c) {x y z : α} (h1 : c x y < 0) (h2 : c y z ≤ 0) : c x z < 0 := by
  have a := h.tr x y z (by omega) h2
  rcases h.rng x z with e | e | e
  · omega
  · have b := h.asym x z
    have d := h.tr y z x h2 (by omega)
    have := h.asym x y
    omega
  · omega
theorem Ord.le_lt {α : Type} {c : α → α → Int} (h : Ord c) {x y z : α} (h1 : c x y ≤ 0) (h2 : c y z < 0) : c x z < 0 := by
  have a := h.tr x y z h1 (by omega)
  rcases h.rng x z with e | e | e
  · omega
  · have b := h.asym x z
    have d := h.tr z x y (by omega) h1
    have := h.asym y z
    omega
  · omega
theorem Ord.eqL {α : Type} {c : α → α → Int} (h : Ord c) {x y : α} (h1 : c x y = 0) (z : α) : c x z = c y z := by
  have a := h.asym x y
  have p1 := h.tr x y z
  have p2 := h.tr y x z
  have p3 := h.tr z x y
  have p4 := h.tr z y x
  have b1 := h.asym x z
  have b2 := h.asym y z
  rcases h.rng x z with e | e | e <;> rcases h.rng y z with f | f | f <;> omega
theorem Ord.pull {α β : Type} {c : β → β → Int} (h : Ord c) (f : α → β) : Ord fun x y => c (f x) (f y) :=
  ⟨fun x y => h.asym _ _, fun x y z => h.tr _ _ _, fun x y => h.rng _ _⟩
def lx {α : Type} (c d : α → α → Int) (x y : α) : Int := if c x y = 0 then d x y else c x y
theorem lx_ord {α : Type} {c d : α → α → Int} (hc : Ord c) (hd : Ord d) : Ord (lx c d) := by
  refine ⟨fun x y => ?_, fun x y z h1 h2 => ?_, fun x y => ?_⟩
  · unfold lx
    have := hc.asym x y
    by_cases h : c x y = 0
    · rw [if_pos h, if_pos (by omega)]; exact hd.asym x y
    · rw [if_neg h, if_neg (by omega)]; exact this
  · unfold lx at *
    by_cases a : c x y = 0
    · rw [if_pos a] at h1
      have e := hc.eqL a z
      by_cases b : c y z = 0
      · rw [if_pos b] at h2
        rw [if_pos (by omega)]
        exact hd.tr _ _ _ h1 h2
      · rw [if_neg b] at h2
        rw [if_neg (by omega)]; omega
    · rw [if_neg a] at h1
      by_cases b : c y z = 0
      · have := hc.lt_le (x := x) (y := y) (z := z) (by omega) (by omega)
        rw [if_neg (by omega)]; omega
      · rw [if_neg b] at h2
        have := hc.lt_le (x := x) (y := y) (z := z) (by omega) (by omega)
        rw [if_neg (by omega)]; omega
  · unfold lx
    by_cases h : c x y = 0
    · rw [if_pos h]; exact hd.rng x y
    · rw [if_neg h]; exact hc.rng x y
def cmpL {α : Type} (c : α → α → Int) : List α → List α → Int
  | [], [] => 0
  | [], _ :: _ => -1
  | _ :: _, [] => 1
  | x :: xs, y :: ys => if c x y = 0 then cmpL c xs ys else c x y
theorem cmpL_ord {α : Type} {c : α → α → Int} (h : Ord c) : Ord (cmpL c) := by
  refine ⟨?_, ?_, ?_⟩
  · intro x
    induction x with
    | nil => intro y; cases y <;> rfl
    | cons a x ih =>
      intro y
      cases y with
      | nil => rfl
      | cons b y =>
        unfold cmpL
        have := h.asym a b
        by_cases e : c a b = 0
        · rw [if_pos e, if_pos (by omega)]; exact ih y
        · rw [if_neg e, if_neg (by omega)]; exact this
  · intro x
    induction x with
    | nil => intro y z _ _; cases z <;> simp [cmpL]
    | cons a x ih =>
      intro y z h1 h2
      cases y with
      | nil => simp [cmpL] at h1
      | cons b y =>
        cases z with
        | nil => simp [cmpL] at h2
        | cons d z =>
          have e0 : ∀ (p q : α) (ps qs : List α), cmpL c (p :: ps) (q :: qs) = if c p q = 0 then cmpL c ps qs else c p q := fun _ _ _ _ => rfl
          rw [e0] at h1 h2 ⊢
          by_cases e : c a b = 0
          · rw [if_pos e] at h1
            have e2 := h.eqL e d
            by_cases f : c b d = 0
            · rw [if_pos f] at h2; rw [if_pos (by omega)]; exact ih _ _ h1 h2
            · rw [if_neg f] at h2; rw [if_neg (by omega)]; omega
          · rw [if_neg e] at h1
            by_cases f : c b d = 0
            · have := h.lt_le (x := a) (y := b) (z := d) (by omega) (by omega)
              rw [if_neg (by omega)]; omega
            · rw [if_neg f] at h2
              have := h.lt_le (x := a) (y := b) (z := d) (by omega) (by omega)
              rw [if_neg (by omega)]; omega
  · intro x
    induction x with
    | nil => intro y; cases y <;> simp [cmpL]
    | cons a x ih =>
      intro y
      cases y with
      | nil => simp [cmpL]
      | cons b y =>
        unfold cmpL
        by_cases e : c a b = 0
        · rw [if_pos e]; exact ih y
        · rw [if_neg e]; exact h.rng a b
def sg (a b : Int) : Int := if a < b then -1 else if b < a then 1 else 0
theorem sg_ord : Ord sg := by
  refine ⟨fun x y => ?_, fun x y z h1 h2 => ?_, fun x y => ?_⟩
  · unfold sg; split <;> split <;> (try split) <;> omega
  · unfold sg at *; split <;> (try split) <;> (try omega)
  · unfold sg; split <;> (try split) <;> omega
def sgS (a b : Str) : Int := if a.cps.toList < b.cps.toList then -1 else if b.cps.toList < a.cps.toList then 1 else 0
theorem sgS_ord : Ord sgS := by
  refine ⟨fun x y => ?_, fun x y z h1 h2 => ?_, fun x y => ?_⟩
  · unfold sgS
    by_cases a : x.cps.toList < y.cps.toList
    · have b : ¬ y.cps.toList < x.cps.toList := List.lt_asymm a
      rw [if_pos a, if_neg b, if_pos a]; rfl
    · by_cases b : y.cps.toList < x.cps.toList
      · rw [if_pos b, if_neg a, if_pos b]
      · rw [if_neg a, if_neg b, if_neg b, if_neg a]; rfl
  · have k1 : ¬ y.cps.toList < x.cps.toList := fun h => by
      unfold sgS at h1
      rw [if_neg (List.lt_asymm h), if_pos h] at h1; omega
    have k2 : ¬ z.cps.toList < y.cps.toList := fun h => by
      unfold sgS at h2
      rw [if_neg (List.lt_asymm h), if_pos h] at h2; omega
    have k3 : ¬ z.cps.toList < x.cps.toList := List.le_trans k1 k2
    unfold sgS
    by_cases h : x.cps.toList < z.cps.toList
    · rw [if_pos h]; omega
    · rw [if_neg h, if_neg k3]; omega
  · unfold sgS; split <;> (try split) <;> omega
theorem sgS_zero {a b : Str} (h : sgS a b = 0) : a = b := by
  unfold sgS at h
  split at h
  · omega
  · rename_i h1
    split at h
    · omega
    · rename_i h2
      have : a.cps.toList = b.cps.toList := List.le_antisymm h2 h1
      cases a; cases b
      simp only [Str.mk.injEq] at *
      exact Array.toList_inj.mp this
end G
end

section
set_option Elab.async false
set_option maxRecDepth 100000
set_option linter.all false
set_option maxHeartbeats 4000000
namespace G
open PySem PySem.Spec
open PyProof.Rows hiding intD
open L2 hiding gCons gNil gLst
open VL
theorem rngD_cons {j n : Nat} (h : j < n) : rngD (j : Int) n = (.T, .int (j : Int)) :: rngD ((j + 1 : Nat) : Int) n := by
  unfold rngD
  have e : ((n : Int) - j).toNat = ((n : Int) - ((j + 1 : Nat) : Int)).toNat + 1 := by omega
  rw [e, List.range_succ_eq_map, List.map_cons, List.map_map]
  congr 1
  simp
  intro a _
  omega
theorem rngD_nil {j n : Nat} (h : n ≤ j) : rngD (j : Int) n = [] := by
  unfold rngD
  have e : ((n : Int) - j).toNat = 0 := by omega
  rw [e]; rfl
abbrev b_rows (mc : List D → Res FD) : GS := gSeq (gSet 3 [0, 1, 2] (gCall (VL.gCons (g2 (gVar 0) (gVar 2) (fun x y => ofO (ixD x.2 y.2))) (VL.gCons (g2 (gVar 1) (gVar 2) (fun x y => ofO (ixD x.2 y.2))) VL.gNil)) mc)) (gIfS [3] (gTest (g2 (gVar 3) (gCon (.int 0)) (fun x y => ofO ((fB fun a b => (eqN 32 a b).map (!·)) x.2 y.2)))) (gRetV 3) gPass)
theorem cmpL_sg {α : Type} {c : α → α → Int} : ∀ {xs ys : List α}, xs = [] ∨ ys = [] → cmpL c xs ys = sg xs.length ys.length
  | [], [], _ => rfl
  | [], _ :: _, _ => by
    simp only [cmpL, sg, List.length_cons, List.length_nil]
    rw [if_pos (by omega)]
  | _ :: _, [], _ => by
    simp only [cmpL, sg, List.length_cons, List.length_nil]
    rw [if_neg (by omega), if_pos (by omega)]
  | _ :: _, _ :: _, h => by rcases h with h | h <;> cases h
theorem rows_loop {mc : List D → Res FD} {c : D → D → Int} {ds es : List D} (h : ∀ (j : Nat) (h1 : j < ds.length) (h2 : j < es.length), mc [ds[j], es[j]] = .ok (.T, .int (c ds[j] es[j]))) : ∀ (r j : Nat) (x y : Option FD), j + r = min ds.length es.length →
    (∃ v, forL t1 [2] (b_rows mc) (rngD (j : Int) (min ds.length es.length : Nat)) [some (.S, .lst ds), some (.S, .lst es), x, y] = .rt (.T, .int v) ∧ v = cmpL c (ds.drop j) (es.drop j)) ∨
    (∃ x' y', forL t1 [2] (b_rows mc) (rngD (j : Int) (min ds.length es.length : Nat)) [some (.S, .lst ds), some (.S, .lst es), x, y] = .nx [some (.S, .lst ds), some (.S, .lst es), x', y'] ∧ cmpL c (ds.drop j) (es.drop j) = sg ds.length es.length)
  | 0, j, x, y, e => by
    right
    rw [rngD_nil (by omega)]
    refine ⟨x, y, rfl, ?_⟩
    rw [cmpL_sg, List.length_drop, List.length_drop]
    · unfold sg
      by_cases a : (ds.length : Int) < es.length
      · rw [if_pos a, if_pos (by omega)]
      · rw [if_neg a, if_neg (by omega)]
        by_cases b : (es.length : Int) < ds.length
        · rw [if_pos b, if_pos (by omega)]
        · rw [if_neg b, if_neg (by omega)]
    · by_cases a : ds.length ≤ j
      · left; exact List.drop_eq_nil_of_le a
      · right; exact List.drop_eq_nil_of_le (by omega)
  | r + 1, j, x, y, e => by
    have h1 : j < ds.length := by omega
    have h2 : j < es.length := by omega
    have hm := h j h1 h2
    rw [rngD_cons (by omega)]
    rw [List.drop_eq_getElem_cons h1, List.drop_eq_getElem_cons h2]
    have ec : cmpL c (ds[j] :: ds.drop (j + 1)) (es[j] :: es.drop (j + 1)) = if c ds[j] es[j] = 0 then cmpL c (ds.drop (j + 1)) (es.drop (j + 1)) else c ds[j] es[j] := rfl
    rw [ec]
    have hset : gSet 3 [0, 1, 2] (gCall (VL.gCons (g2 (gVar 0) (gVar 2) (fun x y => ofO (ixD x.2 y.2))) (VL.gCons (g2 (gVar 1) (gVar 2) (fun x y => ofO (ixD x.2 y.2))) VL.gNil)) mc) [some (.S, .lst ds), some (.S, .lst es), some (.T, .int (j : Int)), y] = .nx [some (.S, .lst ds), some (.S, .lst es), some (.T, .int (j : Int)), some (.T, .int (c ds[j] es[j]))] := by
      simp [gSet, gCall, VL.gCons, VL.gNil, g2, gVar, viewF, sh_lst, sh_int, ixD, atI_nat2 h1, atI_nat2 h2, hm, viaE, putV]
    rw [forL.eq_2]
    by_cases hz : c ds[j] es[j] = 0
    · have hb : b_rows mc [some (.S, .lst ds), some (.S, .lst es), some (.T, .int (j : Int)), y] = .nx [some (.S, .lst ds), some (.S, .lst es), some (.T, .int (j : Int)), some (.T, .int 0)] := by
        refine q_seq (hset.trans (by rw [hz])) (q_iff ?_ rfl)
        simp [viewF, gTest, g2, gVar, sh_int, gCon, fB, eqN_int, toB]
      simp only [t1, setsF, List.set_cons_succ, List.set_cons_zero, sh_int, hb]
      rw [if_pos hz]
      exact rows_loop h r (j + 1) _ _ (by omega)
    · have hb : b_rows mc [some (.S, .lst ds), some (.S, .lst es), some (.T, .int (j : Int)), y] = .rt (.T, .int (c ds[j] es[j])) := by
        refine q_seq hset (q_ift ?_ rfl)
        simp [viewF, gTest, g2, gVar, sh_int, gCon, fB, eqN_int, toB, hz]
      left
      refine ⟨_, ?_, rfl⟩
      simp only [t1, setsF, List.set_cons_succ, List.set_cons_zero, sh_int, hb]
      rw [if_neg hz]
theorem rows_cmp {mc : List D → Res FD} {c : D → D → Int} {ds es : List D} (hl : ds.length < 1000) (hl2 : es.length < 1000) (h : ∀ (j : Nat) (h1 : j < ds.length) (h2 : j < es.length), mc [ds[j], es[j]] = .ok (.T, .int (c ds[j] es[j]))) : runG 4 (g_law_rows_compare mc) [.lst ds, .lst es] = .ok (.T, .int (cmpL c ds es)) := by
  have hL := rows_loop h (min ds.length es.length) 0 none none (by omega)
  simp only [List.drop_zero] at hL
  have hk : gItR1 (gCall (VL.gCons (gCall (VL.gCons (gVar 0) (VL.gNil)) (fun ds => ofO (lenD ds))) (VL.gCons (gCall (VL.gCons (gVar 1) (VL.gNil)) (fun ds => ofO (lenD ds))) (VL.gNil))) (fun ds => ofO (minD ds))) (viewF [0, 1] 0 (enter 4 [.lst ds, .lst es])) = .ok (rngD ((0 : Nat) : Int) (min ds.length es.length : Nat)) := by
    refine q_rng (fl := .T) (i := ((min ds.length es.length : Nat) : Int)) ?_ rfl (by omega)
    simp only [gCall, VL.gCons, VL.gNil, gVar, enter, viewF, sh_lst, lenD, oT, minD]
    simp [VL.gNil, lenD, oT, minD, sh_lst, viewF]
    split <;> omega
  unfold g_law_rows_compare
  rcases hL with ⟨v, e1, e2⟩ | ⟨x', y', e1, e2⟩
  · refine run_of (q_rt (q_for hk ?_ (e1.trans (by rw [e2])))) rfl
    simp [enter, leakF, sh_lst]
  · refine run_of (q_seq (q_for hk ?_ e1) (q_ret (x := (.T, .int (cmpL c ds es))) ?_)) rfl
    · simp [enter, leakF, sh_lst]
    · rw [e2]
      unfold sg
      by_cases a : (ds.length : Int) < es.length
      · have b : ¬ (es.length : Int) < ds.length := by omega
        simp [viewF, g2, gCall, VL.gCons, VL.gNil, gVar, sh_lst, lenD, oT, fB, gtD, ltD, VL.intD, subD, a, b]
        try simp [show ds.length < es.length by omega, show ¬ es.length < ds.length by omega]
      · by_cases b : (es.length : Int) < ds.length
        · simp [viewF, g2, gCall, VL.gCons, VL.gNil, gVar, sh_lst, lenD, oT, fB, gtD, ltD, VL.intD, subD, a, b]
          try simp [show ¬ ds.length < es.length by omega, show es.length < ds.length by omega]
        · simp [viewF, g2, gCall, VL.gCons, VL.gNil, gVar, sh_lst, lenD, oT, fB, gtD, ltD, VL.intD, subD, a, b]
          try simp [show ¬ ds.length < es.length by omega, show ¬ es.length < ds.length by omega]
end G
end

section
set_option Elab.async false
set_option maxRecDepth 100000
set_option linter.all false
set_option maxHeartbeats 4000000
namespace G
open PySem PySem.Spec
open PyProof.Rows hiding intD
open L2 hiding gCons gNil gLst
open VL
/-! the order of data -/
def kindI : D → Int
  | .non => 0
  | .bl _ => 1
  | .int _ => 2
  | .str _ => 3
  | .lst _ => 4
  | .dct _ => 5
  | _ => 6
def numOf : D → Int
  | .bl b => b2i b
  | .int i => i
  | _ => 0
def strOf : D → Str
  | .str s => s
  | _ => ""
def listOf : D → List D
  | .lst xs => xs
  | _ => []
def keysOf (kds : List (Key × D)) : List Str := kds.filterMap fun kv => match kv.1 with
  | .inr s => some s
  | .inl _ => none
def entOf : D → List (Str × D)
  | .dct kds => (sortStr (keysOf kds)).map fun s => (s, (look kds (.inr s)).getD .non)
  | _ => []
def cmpN : Nat → D → D → Int
  | 0 => fun _ _ => 0
  | n + 1 => lx (fun a b => sg (kindI a) (kindI b)) (lx (fun a b => sg (numOf a) (numOf b)) (lx (fun a b => sgS (strOf a) (strOf b)) (lx (fun a b => cmpL (cmpN n) (listOf a) (listOf b)) (fun a b => cmpL (lx (fun p q => sgS p.1 q.1) (fun p q => cmpN n p.2 q.2)) (entOf a) (entOf b)))))
abbrev cmpE (n : Nat) : Str × D → Str × D → Int := lx (fun p q => sgS p.1 q.1) (fun p q => cmpN n p.2 q.2)
theorem cmpN_ord : ∀ n, Ord (cmpN n)
  | 0 => ⟨fun _ _ => rfl, fun _ _ _ _ _ => Int.le_refl 0, fun _ _ => .inr (.inl rfl)⟩
  | n + 1 => lx_ord (sg_ord.pull kindI) (lx_ord (sg_ord.pull numOf) (lx_ord (sgS_ord.pull strOf) (lx_ord ((cmpL_ord (cmpN_ord n)).pull listOf) ((cmpL_ord (lx_ord (sgS_ord.pull (·.1)) ((cmpN_ord n).pull (·.2)))).pull entOf))))
theorem lx_ne {α : Type} {c d : α → α → Int} {x y : α} (h : c x y ≠ 0) : lx c d x y = c x y := if_neg h
theorem lx_eq {α : Type} {c d : α → α → Int} {x y : α} (h : c x y = 0) : lx c d x y = d x y := if_pos h
theorem sg_self (i : Int) : sg i i = 0 := sg_ord.self i
theorem sgS_self (s : Str) : sgS s s = 0 := sgS_ord.self s
theorem cmp_kind {n : Nat} {a b : D} (h : kindI a ≠ kindI b) : cmpN (n + 1) a b = sg (kindI a) (kindI b) := by
  refine lx_ne ?_
  show sg (kindI a) (kindI b) ≠ 0
  unfold sg
  split
  · omega
  · split <;> omega
theorem cmp_non {n : Nat} : cmpN n .non .non = 0 := (cmpN_ord n).self _
theorem lx_00 {α : Type} {c d : α → α → Int} {x y : α} (h : d x y = 0) : lx c d x y = c x y := by
  unfold lx; split <;> simp_all
theorem cmpN_eq {n : Nat} {a b : D} : cmpN (n + 1) a b = if sg (kindI a) (kindI b) = 0 then (if sg (numOf a) (numOf b) = 0 then (if sgS (strOf a) (strOf b) = 0 then (if cmpL (cmpN n) (listOf a) (listOf b) = 0 then cmpL (cmpE n) (entOf a) (entOf b) else cmpL (cmpN n) (listOf a) (listOf b)) else sgS (strOf a) (strOf b)) else sg (numOf a) (numOf b)) else sg (kindI a) (kindI b) := rfl
theorem if_id {i : Int} : (if i = 0 then 0 else i) = i := by split <;> simp_all
theorem cmp_bl {n : Nat} {a b : Bool} : cmpN (n + 1) (.bl a) (.bl b) = sg (b2i a) (b2i b) := by
  rw [cmpN_eq]; simp [kindI, numOf, strOf, listOf, entOf, sg_self, sgS_self, cmpL, if_id]
theorem cmp_int {n : Nat} {a b : Int} : cmpN (n + 1) (.int a) (.int b) = sg a b := by
  rw [cmpN_eq]; simp [kindI, numOf, strOf, listOf, entOf, sg_self, sgS_self, cmpL, if_id]
theorem cmp_str {n : Nat} {a b : Str} : cmpN (n + 1) (.str a) (.str b) = sgS a b := by
  rw [cmpN_eq]; simp [kindI, numOf, strOf, listOf, entOf, sg_self, sgS_self, cmpL, if_id]
theorem cmp_lst {n : Nat} {a b : List D} : cmpN (n + 1) (.lst a) (.lst b) = cmpL (cmpN n) a b := by
  rw [cmpN_eq]; simp [kindI, numOf, strOf, listOf, entOf, sg_self, sgS_self, cmpL, if_id]
theorem cmp_dct {n : Nat} {a b : List (Key × D)} : cmpN (n + 1) (.dct a) (.dct b) = cmpL (cmpE n) (entOf (.dct a)) (entOf (.dct b)) := by
  rw [cmpN_eq]; simp only [kindI, numOf, strOf, listOf, sg_self, sgS_self, cmpL, if_true]
theorem cmpL_map {α β : Type} {c : β → β → Int} {f : α → β} : ∀ {xs ys : List α}, cmpL c (xs.map f) (ys.map f) = cmpL (fun x y => c (f x) (f y)) xs ys
  | [], [] => rfl
  | [], _ :: _ => rfl
  | _ :: _, [] => rfl
  | x :: xs, y :: ys => by
    show (if c (f x) (f y) = 0 then cmpL c (xs.map f) (ys.map f) else c (f x) (f y)) = (if c (f x) (f y) = 0 then cmpL (fun x y => c (f x) (f y)) xs ys else c (f x) (f y))
    rw [cmpL_map]
theorem keysOf_map {kds : List (Key × D)} {ks : List Str} (h : kds.map (·.1) = ks.map Sum.inr) : keysOf kds = ks := by
  induction kds generalizing ks with
  | nil => cases ks with | nil => rfl | cons _ _ => cases h
  | cons x xs ih =>
    cases ks with
    | nil => cases h
    | cons k ks =>
      simp only [List.map_cons, List.cons.injEq] at h
      unfold keysOf
      rw [List.filterMap_cons, h.1]
      exact congrArg _ (ih h.2)
end G
end

section
set_option Elab.async false
set_option maxRecDepth 100000
set_option linter.all false
set_option maxHeartbeats 4000000
namespace G
open PySem PySem.Spec
open PyProof.Rows hiding intD
open L2 hiding gCons gNil gLst
open VL
def plainD : D → Bool
  | .tup _ => false
  | .scr _ => false
  | .ins _ _ _ => false
  | _ => true
theorem td_plain {b n : Nat} {d : D} (h : TD b n d) : plainD d = true := by
  cases d with
  | tup x => cases n <;> exact h.elim
  | scr x => cases n <;> exact h.elim
  | ins x y z => cases n <;> exact h.elim
  | _ => rfl
theorem kind_ok {d : D} (h : plainD d = true) : ∃ s, m_kind [d] = .ok (.T, .str s) ∧ idxD (.lst words) (.str s) = some (.T, .int (kindI d)) := by
  cases d with
  | non => exact ⟨_, kind_non, idx_non⟩
  | bl x => exact ⟨_, kind_bl x, idx_bl⟩
  | int x => exact ⟨_, kind_int x, idx_int⟩
  | str x => exact ⟨_, kind_str x, idx_str⟩
  | lst x => exact ⟨_, kind_lst x, idx_lst⟩
  | dct x => exact ⟨_, kind_dct x, idx_dct⟩
  | tup x => cases h
  | scr x => cases h
  | ins x y z => cases h
abbrev r_cmp (mr : List D → Res FD) : GS := gSeq (gIfS [3] (gTest (g2 (gVar 3) (gCon (.int 0)) (fun x y => ofO ((fB (eqN 32)) x.2 y.2)))) (gRet [] (gCon (.int 0))) (gPass)) (gSeq (gIfS [3] (gTest (g2 (gVar 3) (gCon (.int 4)) (fun x y => ofO ((fB ltD) x.2 y.2)))) (gRet [0, 1] (g2 (gCall (VL.gCons (g2 (gVar 0) (gVar 1) (fun x y => ofO ((fB gtD) x.2 y.2))) (VL.gNil)) (fun ds => ofO (VL.intD ds))) (gCall (VL.gCons (g2 (gVar 0) (gVar 1) (fun x y => ofO ((fB ltD) x.2 y.2))) (VL.gNil)) (fun ds => ofO (VL.intD ds))) (fun x y => ofO (subD x.2 y.2)))) (gPass)) (gSeq (gIfS [3] (gTest (g2 (gVar 3) (gCon (.int 4)) (fun x y => ofO ((fB (eqN 32)) x.2 y.2)))) (gRet [0, 1] (gCall (VL.gCons (gVar 0) (VL.gCons (gVar 1) (VL.gNil))) mr)) (gPass)) (gSeq (gSet 5 [0] (gComp [7] [7] (gItL (gCall (VL.gCons (gVar 0) (VL.gNil)) (fun ds => ofO (sortD ds)))) t1 (cYes) (VL.gLst (lCons (gVar 7) (lCons (g2 (gVar 0) (gVar 7) (fun x y => ofO (ixD x.2 y.2))) (lNil)))))) (gSeq (gSet 6 [1] (gComp [7] [7] (gItL (gCall (VL.gCons (gVar 1) (VL.gNil)) (fun ds => ofO (sortD ds)))) t1 (cYes) (VL.gLst (lCons (gVar 7) (lCons (g2 (gVar 1) (gVar 7) (fun x y => ofO (ixD x.2 y.2))) (lNil)))))) (gRet [5, 6] (gCall (VL.gCons (gVar 5) (VL.gCons (gVar 6) (VL.gNil))) mr))))))
theorem sg_sub (i j : Int) : (if j < i then (1 : Int) else 0) - (if i < j then 1 else 0) = sg i j := by
  unfold sg; split <;> split <;> (try split) <;> omega
theorem cmp_head {mk mr : List D → Res FD} {d e : D} {s t : Str} {i j : Int} {r : Res FD} (hk : mk [d] = .ok (.T, .str s)) (hk2 : mk [e] = .ok (.T, .str t)) (hi : idxD (.lst words) (.str s) = some (.T, .int i)) (hj : idxD (.lst words) (.str t) = some (.T, .int j))
    (hne : i ≠ j → r = .ok (.T, .int (sg i j)))
    (h : i = j → ∀ f f2, sh d = (f, d) → sh e = (f2, e) → fin (r_cmp mr [some (f, d), some (f2, e), some (.T, .lst words), some (.T, .int i), some (.T, .int i), none, none, none]) = r) :
    runG 8 (g_law_compare mk mr) [d, e] = r := by
  obtain ⟨f, hf⟩ : ∃ f, sh d = (f, d) := ⟨_, rfl⟩
  obtain ⟨f2, hf2⟩ : ∃ f, sh e = (f, e) := ⟨_, rfl⟩
  have a1 : gSet 2 [] (VL.gLst (lCons (gCon (.str "nothing")) (lCons (gCon (.str "truth")) (lCons (gCon (.str "number")) (lCons (gCon (.str "text")) (lCons (gCon (.str "row")) (lCons (gCon (.str "record")) (lNil)))))))) (enter 8 [d, e]) = .nx [some (f, d), some (f2, e), some (.T, .lst words), none, none, none, none, none] := by
    simp [gSet, enter, VL.gLst, lCons, lNil, gCon, chk, le6, mkL, allT, viaE, putV, hf, hf2]
  have a2 : gSet 3 [0, 2] (gMt (gVar 2) (gCall (VL.gCons (gVar 0) (VL.gNil)) mk) idxD) [some (f, d), some (f2, e), some (.T, .lst words), none, none, none, none, none] = .nx [some (f, d), some (f2, e), some (.T, .lst words), some (.T, .int i), none, none, none, none] := by
    simp [gSet, viewF, gMt, gVar, sh_lst, gCall, VL.gCons, VL.gNil, hf, hf2, hk, hi, viaE, putV]
  have a3 : gSet 4 [1, 2] (gMt (gVar 2) (gCall (VL.gCons (gVar 1) (VL.gNil)) mk) idxD) [some (f, d), some (f2, e), some (.T, .lst words), some (.T, .int i), none, none, none, none] = .nx [some (f, d), some (f2, e), some (.T, .lst words), some (.T, .int i), some (.T, .int j), none, none, none] := by
    simp [gSet, viewF, gMt, gVar, sh_lst, gCall, VL.gCons, VL.gNil, hf, hf2, hk2, hj, viaE, putV]
  refine runG_fin ?_
  unfold g_law_compare
  refine fin_seq a1 (fin_seq a2 (fin_seq a3 ?_))
  by_cases hij : i = j
  · subst hij
    refine fin_seq (ρ1 := [some (f, d), some (f2, e), some (.T, .lst words), some (.T, .int i), some (.T, .int i), none, none, none]) ?_ (h rfl f f2 hf hf2)
    simp [gIfS, viewF, gTest, g2, gVar, sh_int, fB, eqN_int, toB, viaE, gPass]
  · rw [hne hij]
    refine fin_q (q_ift ?_ (q_ret ?_))
    · simp [viewF, gTest, g2, gVar, sh_int, fB, eqN_int, toB, hij]
    · have := sg_sub i j
      by_cases a : i < j
      · have b : ¬ j < i := by omega
        simp [viewF, g2, gVar, sh_int, fB, gtD, ltD, gCall, VL.gCons, VL.gNil, VL.intD, oT, subD, a, b] at this ⊢
        exact this
      · by_cases b : j < i
        · simp [viewF, g2, gVar, sh_int, fB, gtD, ltD, gCall, VL.gCons, VL.gNil, VL.intD, oT, subD, a, b] at this ⊢
          exact this
        · omega
/-- the rows of a record -/
def rowsE (d : D) : List D := (entOf d).map fun p => .lst [.str p.1, p.2]
theorem entOf_dct (kds : List (Key × D)) : entOf (.dct kds) = (sortStr (keysOf kds)).map fun s => (s, (look kds (.inr s)).getD .non) := rfl
theorem rowsE_ok {b : Nat} (hb : b ≤ 60) {n : Nat} {kds : List (Key × D)} (h : TD b (n + 1) (.dct kds)) : (rowsE (.dct kds)).length < b ∧ (∀ p ∈ entOf (.dct kds), TD b n p.2) ∧
    ∃ fl, ∀ (i : Nat) (ρ : List (Option D)), ρ[i]? = some (some (.dct kds)) → ρ.length = 8 → i < 7 → gComp [7] [7] (gItL (gCall (VL.gCons (gVar i) VL.gNil) (fun ds => ofO (sortD ds)))) t1 cYes (VL.gLst (lCons (gVar 7) (lCons (g2 (gVar i) (gVar 7) (fun x y => ofO (ixD x.2 y.2))) lNil))) ρ = .ok (fl, .lst (rowsE (.dct kds))) := by
  obtain ⟨h1, h2, ⟨ks, h3⟩, h4⟩ := h
  have hks := keysOf_map h3
  have hm : ∀ s ∈ sortStr ks, ∃ v, look kds (.inr s) = some v ∧ TD b n v := fun s hs => by
    have hs : s ∈ ks := (List.mergeSort_perm ks leStr).mem_iff.mp hs
    obtain ⟨v, hv, hm⟩ := look_key (kds := kds) (k := .inr s) (by rw [h3]; exact List.mem_map.mpr ⟨s, hs, rfl⟩)
    exact ⟨v, hv, h4 _ hm⟩
  have hsl : (sortStr ks).length < b := by
    rw [sortStr_length]
    have := congrArg List.length h3
    simp at this; omega
  have hsz : (sortStr ks).length ≤ sizeLine := td_sz hsl (Nat.le_trans hb (by decide))
  have hrow : ∀ s ∈ sortStr ks, look kds (.inr s) = some ((look kds (.inr s)).getD .non) := fun s hs => by
    obtain ⟨v, hv, _⟩ := hm s hs
    rw [hv]; rfl
  have er : rowsE (.dct kds) = (sortStr ks).map fun s => .lst [.str s, (look kds (.inr s)).getD .non] := by
    unfold rowsE
    rw [entOf_dct, hks, List.map_map]; rfl
  have hs := sortD_dct h3 (Nat.lt_of_lt_of_le h1 hb)
  refine ⟨by rw [er, List.length_map]; exact hsl, fun p hp => ?_, ?_⟩
  · rw [entOf_dct, hks] at hp
    obtain ⟨s, hs, rfl⟩ := List.mem_map.mp hp
    obtain ⟨v, hv, tv⟩ := hm s hs
    show TD b n ((look kds (.inr s)).getD .non)
    rw [hv]; exact tv
  · obtain ⟨fl, hfl⟩ : ∃ fl : Fl, mkL ((sortStr ks).map fun s => mkL [((.T, .str s) : FD), sh ((look kds (.inr s)).getD .non)]) = (fl, .lst (rowsE (.dct kds))) := ⟨_, by rw [er]; unfold mkL; simp [allT]; rfl⟩
    refine ⟨fl, fun i ρ hi hl h7 => ?_⟩
    have e1 : compL t1 [7] cYes (VL.gLst (lCons (gVar 7) (lCons (g2 (gVar i) (gVar 7) (fun x y => ofO (ixD x.2 y.2))) lNil))) (wipeD ρ [7]) ((sortStr ks).map fun s => sh (.str s)) = .ok ((sortStr ks).map fun s => mkL [((.T, .str s) : FD), sh ((look kds (.inr s)).getD .non)]) := compL_on fun s hs => ⟨[.str s], rfl, by
      have h7' : (wipeD ρ [7]).length = 8 := by simp [wipeD, hl]
      have a7 : ((wipeD ρ [7]).set 7 (some (.str s)))[7]? = some (some (.str s)) := List.getElem?_set_self (by omega)
      have ai : ((wipeD ρ [7]).set 7 (some (.str s)))[i]? = some (some (.dct kds)) := by
        rw [List.getElem?_set_ne (by omega)]
        show (ρ.set 7 none)[i]? = _
        rw [List.getElem?_set_ne (by omega)]; exact hi
      have hr := hrow s hs
      generalize (look kds (.inr s)).getD .non = v at hr
      simp [setsD, VL.gLst, lCons, lNil, gVar, a7, ai, g2, sh_str, sh_dct, ixD, keyOf, hr, chk, le2]⟩
    have e2 : List.map sh (List.map D.str (sortStr ks)) = (sortStr ks).map fun s => sh (.str s) := by simp
    simp [gComp, gItL, gCall, VL.gCons, VL.gNil, gVar, hi, sh_dct, hs, itemsL, hsz, wipeD]
    rw [show ρ.set 7 none = wipeD ρ [7] from rfl]
    simp only [Function.comp_def]
    rw [e1]
    simp [hfl]
theorem compare_gen {b : Nat} (hb : b ≤ 60) : ∀ {n m : Nat} {d e : D}, TD b n d → TD b n e → 2 * n < m → m_compare m [d, e] = .ok (.T, .int (cmpN (n + 1) d e))
  | n, 0, d, e, _, _, h => absurd h (Nat.not_lt_zero _)
  | n, m + 1, d, e, hd, he, h => by
    obtain ⟨s, k1, i1⟩ := kind_ok (td_plain hd)
    obtain ⟨t, k2, i2⟩ := kind_ok (td_plain he)
    refine cmp_head k1 k2 i1 i2 (fun hne => by rw [cmp_kind hne]) fun hij f f2 hf hf2 => ?_
    have b0 : b ≤ 1000 := Nat.le_trans hb (by decide)
    cases d with
    | tup x => cases n <;> exact hd.elim
    | scr x => cases n <;> exact hd.elim
    | ins x y z => cases n <;> exact hd.elim
    | non =>
      cases e <;> simp only [kindI] at hij <;> first | omega | skip
      rw [cmp_non]
      rw [sh_non] at hf hf2; cases hf; cases hf2
      simp [fin, gSeq, gIfS, viewF, gTest, g2, gVar, sh_int, gCon, fB, eqN_int, toB, viaE, gRet, kindI]
    | bl x =>
      cases e with
      | bl y =>
        rw [sh_bl] at hf hf2; cases hf; cases hf2
        rw [cmp_bl]
        cases x <;> cases y <;> simp [fin, gSeq, gIfS, viewF, gTest, g2, gVar, sh_int, sh_bl, gCon, fB, eqN_int, toB, viaE, gRet, gPass, ltD, gtD, gCall, VL.gCons, VL.gNil, VL.intD, oT, subD, kindI, b2i, sg]
      | _ => simp only [kindI] at hij; omega
    | int x =>
      cases e with
      | int y =>
        rw [sh_int] at hf hf2; cases hf; cases hf2
        rw [cmp_int]
        have := sg_sub x y
        by_cases a : x < y
        · have c : ¬ y < x := by omega
          simp [fin, gSeq, gIfS, viewF, gTest, g2, gVar, sh_int, gCon, fB, eqN_int, toB, viaE, gRet, gPass, ltD, gtD, gCall, VL.gCons, VL.gNil, VL.intD, oT, subD, kindI, a, c] at this ⊢
          exact this
        · by_cases c : y < x <;> (simp [fin, gSeq, gIfS, viewF, gTest, g2, gVar, sh_int, gCon, fB, eqN_int, toB, viaE, gRet, gPass, ltD, gtD, gCall, VL.gCons, VL.gNil, VL.intD, oT, subD, kindI, a, c] at this ⊢; exact this)
      | _ => simp only [kindI] at hij; omega
    | str x =>
      cases e with
      | str y =>
        rw [sh_str] at hf hf2; cases hf; cases hf2
        rw [cmp_str]
        unfold sgS
        by_cases a : x.cps.toList < y.cps.toList
        · have c : ¬ y.cps.toList < x.cps.toList := List.lt_asymm a
          have a' : x.cps < y.cps := a
          have c' : ¬ y.cps < x.cps := c
          simp [a', c', fin, gSeq, gIfS, viewF, gTest, g2, gVar, sh_int, sh_str, gCon, fB, eqN_int, toB, viaE, gRet, gPass, ltD, gtD, gCall, VL.gCons, VL.gNil, VL.intD, oT, subD, kindI, a, c]
        · have a' : ¬ x.cps < y.cps := a
          by_cases c : y.cps.toList < x.cps.toList
          · have c' : y.cps < x.cps := c
            simp [a', c', fin, gSeq, gIfS, viewF, gTest, g2, gVar, sh_int, sh_str, gCon, fB, eqN_int, toB, viaE, gRet, gPass, ltD, gtD, gCall, VL.gCons, VL.gNil, VL.intD, oT, subD, kindI, a, c]
          · have c' : ¬ y.cps < x.cps := c
            simp [a', c', fin, gSeq, gIfS, viewF, gTest, g2, gVar, sh_int, sh_str, gCon, fB, eqN_int, toB, viaE, gRet, gPass, ltD, gtD, gCall, VL.gCons, VL.gNil, VL.intD, oT, subD, kindI, a, c]
      | _ => simp only [kindI] at hij; omega
    | lst xs =>
      cases n with
      | zero => exact hd.elim
      | succ n =>
      cases e with
      | lst ys =>
        rw [sh_lst] at hf hf2; cases hf; cases hf2
        have hr := rows_cmp (mc := m_compare m) (c := cmpN (n + 1)) (ds := xs) (es := ys) (Nat.lt_of_lt_of_le hd.1 b0) (Nat.lt_of_lt_of_le he.1 b0) fun j h1 h2 => compare_gen hb (hd.2 _ (List.getElem_mem h1)) (he.2 _ (List.getElem_mem h2)) (by omega)
        rw [cmp_lst]
        simp [fin, gSeq, gIfS, viewF, gTest, g2, gVar, sh_int, sh_lst, gCon, fB, eqN_int, toB, viaE, gRet, gPass, ltD, gtD, gCall, VL.gCons, VL.gNil, hr, kindI]
      | _ => simp only [kindI] at hij; omega
    | dct xs =>
      cases n with
      | zero => exact hd.elim
      | succ n =>
      cases e with
      | dct ys =>
        rw [sh_dct] at hf hf2; cases hf; cases hf2
        obtain ⟨l1, t1', fl1, c1⟩ := rowsE_ok hb hd
        obtain ⟨l2, t2', fl2, c2⟩ := rowsE_ok hb he
        have hr : runG 4 (g_law_rows_compare (m_compare m)) [.lst (rowsE (.dct xs)), .lst (rowsE (.dct ys))] = .ok (.T, .int (cmpN (n + 1 + 1) (.dct xs) (.dct ys))) := by
          rw [rows_cmp (c := fun a b => cmpL (cmpN (n + 1)) (listOf a) (listOf b)) (Nat.lt_of_lt_of_le l1 b0) (Nat.lt_of_lt_of_le l2 b0) fun j h1 h2 => ?_]
          · rw [cmp_dct]
            unfold rowsE
            rw [cmpL_map]
            have : (fun (p q : Str × D) => cmpL (cmpN (n + 1)) (listOf (.lst [.str p.1, p.2])) (listOf (.lst [.str q.1, q.2]))) = cmpE (n + 1) := by
              funext p q
              show (if cmpN (n + 1) (.str p.1) (.str q.1) = 0 then (if cmpN (n + 1) p.2 q.2 = 0 then 0 else cmpN (n + 1) p.2 q.2) else cmpN (n + 1) (.str p.1) (.str q.1)) = (if sgS p.1 q.1 = 0 then cmpN (n + 1) p.2 q.2 else sgS p.1 q.1)
              rw [cmp_str, if_id]
            rw [this]
          · unfold rowsE at h1 h2 ⊢
            rw [List.length_map] at h1 h2
            rw [List.getElem_map, List.getElem_map]
            have q1 := t1' _ (List.getElem_mem h1)
            have q2 := t2' _ (List.getElem_mem h2)
            generalize (entOf (.dct xs))[j] = p at q1
            generalize (entOf (.dct ys))[j] = q at q2
            cases m with
            | zero => omega
            | succ m' =>
              obtain ⟨s', k1', i1'⟩ := kind_ok (d := .lst [.str p.1, p.2]) rfl
              obtain ⟨t', k2', i2'⟩ := kind_ok (d := .lst [.str q.1, q.2]) rfl
              refine cmp_head k1' k2' i1' i2' (fun hne => absurd rfl hne) fun _ f f2 hf hf2 => ?_
              rw [sh_lst] at hf hf2; cases hf; cases hf2
              have hr := rows_cmp (mc := m_compare m') (c := cmpN (n + 1)) (ds := [.str p.1, p.2]) (es := [.str q.1, q.2]) (by simp) (by simp) fun j h1 h2 => by
                match j, h1, h2 with
                | 0, _, _ => exact compare_gen hb (n := n) (by cases n <;> trivial) (by cases n <;> trivial) (by omega)
                | 1, _, _ => exact compare_gen hb (n := n) q1 q2 (by omega)
              simp [fin, gSeq, gIfS, viewF, gTest, g2, gVar, sh_int, sh_lst, gCon, fB, eqN_int, toB, viaE, gRet, gPass, ltD, gtD, gCall, VL.gCons, VL.gNil, hr, kindI, listOf]
        refine fin_seq (q_iff ?_ rfl) (fin_seq (q_iff ?_ rfl) (fin_seq (q_iff ?_ rfl) ?_))
        · simp [viewF, gTest, g2, gVar, gCon, sh_int, fB, eqN_int, toB, kindI]
        · simp [viewF, gTest, g2, gVar, gCon, sh_int, fB, ltD, toB, kindI]
        · simp [viewF, gTest, g2, gVar, gCon, sh_int, fB, eqN_int, toB, kindI]
        · refine fin_seq (q_set (c1 0 _ rfl rfl (by decide)) rfl) ?_
          cases fl1 <;> (refine fin_seq (q_set (c2 1 _ rfl rfl (by decide)) rfl) (fin_rt (q_ret ?_)); cases fl2 <;> simp [viewF, putV, leakF, gCall, VL.gCons, VL.gNil, gVar, sh_lst, sh_dct, sh_int, hr])
      | _ => simp only [kindI] at hij; omega
end G
end

section
set_option Elab.async false
set_option maxRecDepth 100000
set_option linter.all false
set_option maxHeartbeats 4000000
namespace G
open PySem PySem.Spec
open PyProof.Rows hiding intD
open L2 hiding gCons gNil gLst
open VL
/-! ranks -/
def rkN : Nat → D → D
  | 0, _ => .tup []
  | _ + 1, .non => .tup [.int 0]
  | _ + 1, .bl b => .tup [.int 1, .int (b2i b)]
  | _ + 1, .int i => .tup [.int 2, .int i]
  | _ + 1, .str s => .tup [.int 3, .str s]
  | n + 1, .lst xs => .tup [.int 4, .tup (xs.map (rkN n))]
  | n + 1, d => .tup [.int 5, .tup ((entOf d).map fun p => .tup [.str p.1, rkN n p.2])]
theorem rk_tup (n : Nat) (d : D) : ∃ ts, rkN n d = .tup ts := by
  cases n with
  | zero => exact ⟨_, rfl⟩
  | succ n => cases d <;> exact ⟨_, rfl⟩
theorem len1 : (1 : Nat) ≤ sizeLine := by decide
theorem rank_ok {b : Nat} (hb : b ≤ 60) : ∀ {n m : Nat} {d : D}, TD b n d → n < m → ∃ fl, m_rank m [d] = .ok (fl, rkN (n + 1) d)
  | n, 0, d, _, h => absurd h (Nat.not_lt_zero _)
  | n, m + 1, .non, _, _ => ⟨.T, by
    show runG 3 (g_rank (m_rank m)) [.non] = _
    simp [runG, g_rank, gSeq, gIfS, gTest, gIsN, gVar, enter, viewF, sh_non, isN, toB, viaE, gRet, gTpl, lCons, lNil, gCon, chk, len1, mkT, allT, rkN]⟩
  | n, m + 1, .bl x, _, _ => ⟨.T, by
    show runG 3 (g_rank (m_rank m)) [.bl x] = _
    have h1 : isT "bool" (.bl x) = true := rfl
    cases x <;> simp [runG, g_rank, gSeq, gIfS, gTest, gIsN, gIsi, gVar, enter, viewF, sh_bl, isN, h1, toB, viaE, gRet, gPass, gTpl, lCons, lNil, gCon, chk, le2, mkT, allT, rkN, gCall, VL.gCons, VL.gNil, VL.intD, oT, b2i] <;> rfl⟩
  | n, m + 1, .int x, _, _ => ⟨.T, by
    show runG 3 (g_rank (m_rank m)) [.int x] = _
    have h1 : isT "bool" (.int x) = false := rfl
    have h2 : isT "int" (.int x) = true := rfl
    simp [runG, g_rank, gSeq, gIfS, gTest, gIsN, gIsi, gVar, enter, viewF, sh_int, isN, h1, h2, toB, viaE, gRet, gPass, gTpl, lCons, lNil, gCon, chk, le2, mkT, allT, rkN]⟩
  | n, m + 1, .str x, _, _ => ⟨.T, by
    show runG 3 (g_rank (m_rank m)) [.str x] = _
    have h1 : isT "bool" (.str x) = false := rfl
    have h2 : isT "int" (.str x) = false := rfl
    have h3 : isT "str" (.str x) = true := rfl
    simp [runG, g_rank, gSeq, gIfS, gTest, gIsN, gIsi, gVar, enter, viewF, sh_str, isN, h1, h2, h3, toB, viaE, gRet, gPass, gTpl, lCons, lNil, gCon, chk, le2, mkT, allT, rkN]⟩
  | n, m + 1, .tup _, h, _ => by cases n <;> exact h.elim
  | n, m + 1, .scr _, h, _ => by cases n <;> exact h.elim
  | n, m + 1, .ins _ _ _, h, _ => by cases n <;> exact h.elim
  | 0, m + 1, .lst _, h, _ => h.elim
  | 0, m + 1, .dct _, h, _ => h.elim
  | n + 1, m + 1, .lst xs, ⟨h1, h2⟩, h => by
    have h3 : isT "bool" (.lst xs) = false := rfl
    have h4 : isT "int" (.lst xs) = false := rfl
    have h5 : isT "str" (.lst xs) = false := rfl
    have h6 : isT "list" (.lst xs) = true := rfl
    have hf : ∀ d ∈ xs, ∃ fl, m_rank m [d] = .ok (fl, rkN (n + 1) d) := fun d hd => rank_ok hb (h2 d hd) (by omega)
    obtain ⟨f, hff⟩ : ∃ f : D → Fl, ∀ d ∈ xs, m_rank m [d] = .ok (f d, rkN (n + 1) d) := by
      refine ⟨fun d => (match m_rank m [d] with | .ok x => x.1 | _ => .T), fun d hd => ?_⟩
      obtain ⟨fl, e⟩ := hf d hd
      simp only [e]
    have e1 : compL t1 [2] cYes (gCall (VL.gCons (gVar 2) VL.gNil) (m_rank m)) [some (.lst xs), none, none] (xs.map sh) = .ok ((xs.map sh).map fun x => (f x.2, rkN (n + 1) x.2)) := compL_map (f := fun x => (f x.2, rkN (n + 1) x.2)) fun x hx => by
      obtain ⟨d, hd, rfl⟩ := List.mem_map.mp hx
      refine ⟨[d], rfl, ?_⟩
      simp [setsD, gCall, VL.gCons, gVar, VL.gNil, hff d hd]
    have e2 : ((xs.map sh).map fun x => ((f x.2, rkN (n + 1) x.2) : FD)) = xs.map fun d => (f d, rkN (n + 1) d) := by simp
    have e3 : ∃ fl, gCall (VL.gCons (gComp [2] [2] (gItL (gVar 0)) t1 cYes (gCall (VL.gCons (gVar 2) VL.gNil) (m_rank m))) VL.gNil) (fun ds => ofO (tupD ds)) [some (.lst xs), none, none] = .ok (fl, .tup (xs.map (rkN (n + 1)))) := by
      refine ⟨flL (xs.map (rkN (n + 1))), ?_⟩
      simp [gCall, VL.gCons, VL.gNil, gComp, gItL, gVar, sh_lst, itemsL, td_sz h1 (Nat.le_trans hb (by decide)), wipeD]
      rw [e1, e2]
      simp [mkL, tupD, Function.comp_def]
    obtain ⟨fl, e3⟩ := e3
    refine ⟨if fl = .T then .T else .R, ?_⟩
    show runG 3 (g_rank (m_rank m)) [.lst xs] = _
    refine run_of (q_seq (q_iff ?_ rfl) (q_seq (q_iff ?_ rfl) (q_seq (q_iff ?_ rfl) (q_seq (q_iff ?_ rfl) (q_rt (q_ift ?_ (q_ret (x := (if fl = .T then .T else .R, .tup [.int 4, .tup (xs.map (rkN (n + 1)))])) ?_))))))) rfl
    · simp [enter, viewF, gTest, gIsN, gVar, sh_lst, isN, toB]
    · simp [enter, viewF, gTest, gIsi, gVar, sh_lst, h3, toB]
    · simp [enter, viewF, gTest, gIsi, gVar, sh_lst, h4, toB]
    · simp [enter, viewF, gTest, gIsi, gVar, sh_lst, h5, toB]
    · simp [enter, viewF, gTest, gIsi, gVar, sh_lst, h6, toB]
    · have ev : viewF [0] 0 (enter 3 [.lst xs]) = [some (.lst xs), none, none] := by simp [enter, viewF, sh_lst]
      rw [ev]
      simp only [gTpl, lCons, lNil, gCon, Res.bind_ok, e3, chk, List.length_cons, List.length_nil, mkT, allT, List.all_cons, List.all_nil, List.map_cons, List.map_nil]
      cases fl <;> simp [le2]
  | n + 1, m + 1, .dct kds, hd, h => by
    have h3 : isT "bool" (.dct kds) = false := rfl
    have h4 : isT "int" (.dct kds) = false := rfl
    have h5 : isT "str" (.dct kds) = false := rfl
    have h6 : isT "list" (.dct kds) = false := rfl
    obtain ⟨_, htd, _⟩ := rowsE_ok hb hd
    obtain ⟨h1, h2, ⟨ks, h7⟩, h8⟩ := hd
    have hks := keysOf_map h7
    have hf : ∀ p ∈ entOf (.dct kds), ∃ fl, m_rank m [p.2] = .ok (fl, rkN (n + 1) p.2) := fun p hp => rank_ok hb (htd p hp) (by omega)
    have hs := sortD_dct h7 (Nat.lt_of_lt_of_le h1 hb)
    have hsl : (sortStr ks).length < b := by
      rw [sortStr_length]
      have := congrArg List.length h7
      simp at this; omega
    have hsz : (sortStr ks).length ≤ sizeLine := td_sz hsl (Nat.le_trans hb (by decide))
    have eE : entOf (.dct kds) = (sortStr ks).map fun s => (s, (look kds (.inr s)).getD .non) := by rw [entOf_dct, hks]
    have hrow : ∀ s ∈ sortStr ks, look kds (.inr s) = some ((look kds (.inr s)).getD .non) := fun s hs => by
      have hs : s ∈ ks := (List.mergeSort_perm ks leStr).mem_iff.mp hs
      obtain ⟨v, hv, _⟩ := look_key (kds := kds) (k := .inr s) (by rw [h7]; exact List.mem_map.mpr ⟨s, hs, rfl⟩)
      rw [hv]; rfl
    have hf2 : ∀ s ∈ sortStr ks, ∃ fl, m_rank m [(look kds (.inr s)).getD .non] = .ok (fl, rkN (n + 1) ((look kds (.inr s)).getD .non)) := fun s hs => hf (s, (look kds (.inr s)).getD .non) (by rw [eE]; exact List.mem_map.mpr ⟨s, hs, rfl⟩)
    obtain ⟨f, hff⟩ : ∃ f : Str → Fl, ∀ s ∈ sortStr ks, m_rank m [(look kds (.inr s)).getD .non] = .ok (f s, rkN (n + 1) ((look kds (.inr s)).getD .non)) := by
      refine ⟨fun s => (match m_rank m [(look kds (.inr s)).getD .non] with | .ok x => x.1 | _ => .T), fun d hd => ?_⟩
      obtain ⟨fl, e⟩ := hf2 d hd
      simp only [e]
    have e1 : compL t1 [1] cYes (gTpl (lCons (gVar 1) (lCons (gCall (VL.gCons (g2 (gVar 0) (gVar 1) (fun x y => ofO (ixD x.2 y.2))) VL.gNil) (m_rank m)) lNil))) [some (.dct kds), none, none] ((sortStr ks).map fun s => sh (.str s)) = .ok ((sortStr ks).map fun s => mkT [((.T, .str s) : FD), (f s, rkN (n + 1) ((look kds (.inr s)).getD .non))]) := compL_on fun s hs => ⟨[.str s], rfl, by
      have hr := hrow s hs
      have hm := hff s hs
      generalize (look kds (.inr s)).getD .non = v at hr hm
      simp [setsD, gTpl, lCons, lNil, gVar, g2, gCall, VL.gCons, VL.gNil, sh_str, sh_dct, ixD, keyOf, hr, hm, chk, le2]⟩
    have e3 : ∃ fl, gCall (VL.gCons (gComp [1] [1] (gItL (gCall (VL.gCons (gVar 0) VL.gNil) (fun ds => ofO (sortD ds)))) t1 cYes (gTpl (lCons (gVar 1) (lCons (gCall (VL.gCons (g2 (gVar 0) (gVar 1) (fun x y => ofO (ixD x.2 y.2))) VL.gNil) (m_rank m)) lNil)))) VL.gNil) (fun ds => ofO (tupD ds)) [some (.dct kds), none, none] = .ok (fl, .tup ((entOf (.dct kds)).map fun p => .tup [.str p.1, rkN (n + 1) p.2])) := by
      refine ⟨flL ((entOf (.dct kds)).map fun p => .tup [.str p.1, rkN (n + 1) p.2]), ?_⟩
      simp [gCall, VL.gCons, VL.gNil, gComp, gItL, gVar, sh_dct, hs, itemsL, hsz, wipeD]
      simp only [Function.comp_def]
      rw [e1]
      simp [mkL, mkT, tupD, eE, Function.comp_def]
    obtain ⟨fl, e3⟩ := e3
    refine ⟨if fl = .T then .T else .R, ?_⟩
    show runG 3 (g_rank (m_rank m)) [.dct kds] = _
    refine run_of (q_seq (q_iff ?_ rfl) (q_seq (q_iff ?_ rfl) (q_seq (q_iff ?_ rfl) (q_seq (q_iff ?_ rfl) (q_seq (q_iff ?_ rfl) (q_ret (x := (if fl = .T then .T else .R, .tup [.int 5, .tup ((entOf (.dct kds)).map fun p => .tup [.str p.1, rkN (n + 1) p.2])])) ?_)))))) rfl
    · simp [enter, viewF, gTest, gIsN, gVar, sh_dct, isN, toB]
    · simp [enter, viewF, gTest, gIsi, gVar, sh_dct, h3, toB]
    · simp [enter, viewF, gTest, gIsi, gVar, sh_dct, h4, toB]
    · simp [enter, viewF, gTest, gIsi, gVar, sh_dct, h5, toB]
    · simp [enter, viewF, gTest, gIsi, gVar, sh_dct, h6, toB]
    · have ev : viewF [0] 0 (enter 3 [.dct kds]) = [some (.dct kds), none, none] := by simp [enter, viewF, sh_dct]
      rw [ev]
      simp only [gTpl, lCons, lNil, gCon, Res.bind_ok, e3, chk, List.length_cons, List.length_nil, mkT, allT, List.all_cons, List.all_nil, List.map_cons, List.map_nil]
      cases fl <;> simp [le2]
end G
end

section
set_option Elab.async false
set_option maxRecDepth 100000
set_option linter.all false
set_option maxHeartbeats 4000000
namespace G
open PySem PySem.Spec
open PyProof.Rows hiding intD
open L2 hiding gCons gNil gLst
open VL
/-! tuples of ints, texts, tuples: what == and < tell of ranks -/
def RkD : Nat → D → Prop
  | _, .int _ => True
  | _, .str _ => True
  | n + 1, .tup xs => ∀ x ∈ xs, RkD n x
  | _, _ => False
theorem RkD.int (n : Nat) (i : Int) : RkD n (.int i) := by cases n <;> trivial
theorem RkD.str (n : Nat) (s : Str) : RkD n (.str s) := by cases n <;> trivial
theorem rk_rkD : ∀ {n F : Nat} {d : D}, 3 * n + 1 ≤ F → RkD F (rkN n d)
  | 0, F + 1, d, _ => by intro x hx; cases hx
  | 0, 0, _, h => absurd h (by omega)
  | n + 1, F, d, h => by
    obtain ⟨F, rfl⟩ : ∃ G, F = G + 3 := ⟨F - 3, by omega⟩
    have ih : ∀ d, RkD F (rkN n d) := fun d => rk_rkD (by omega)
    have ih1 : ∀ d, RkD (F + 1) (rkN n d) := fun d => rk_rkD (by omega)
    have two : ∀ (i : Int) (d : D), RkD (F + 2) d → RkD (F + 3) (.tup [.int i, d]) := fun i d hd x hx => by
      rcases List.mem_cons.mp hx with rfl | hx
      · exact RkD.int _ _
      · rw [List.mem_singleton.mp hx]; exact hd
    have ent : RkD (F + 3) (.tup [.int 5, .tup ((entOf d).map fun p => .tup [.str p.1, rkN n p.2])]) := two 5 _ fun x hx => by
      obtain ⟨p, _, rfl⟩ := List.mem_map.mp hx
      intro y hy
      rcases List.mem_cons.mp hy with rfl | hy
      · exact RkD.str _ _
      · rw [List.mem_singleton.mp hy]; exact ih _
    cases d with
    | non => intro x hx; rw [List.mem_singleton.mp hx]; exact RkD.int _ _
    | bl b => exact two 1 _ (RkD.int _ _)
    | int i => exact two 2 _ (RkD.int _ _)
    | str s => exact two 3 _ (RkD.str _ _)
    | lst xs =>
      refine two 4 (.tup (xs.map (rkN n))) fun x hx => ?_
      obtain ⟨d, _, rfl⟩ := List.mem_map.mp hx
      exact ih1 d
    | dct kds => exact ent
    | tup xs => exact ent
    | scr xs => exact ent
    | ins a b c => exact ent
theorem allO_some {f : D → D → Option Bool} : ∀ {xs ys : List D}, (∀ x ∈ xs, ∀ y ∈ ys, ∃ b, f x y = some b) → ∃ b, allO f xs ys = some b
  | [], _, _ => ⟨true, rfl⟩
  | _ :: _, [], _ => ⟨true, rfl⟩
  | x :: xs, y :: ys, h => by
    obtain ⟨a, ha⟩ := h x List.mem_cons_self y List.mem_cons_self
    obtain ⟨b, hb⟩ := allO_some (xs := xs) (ys := ys) fun x hx y hy => h x (List.mem_cons_of_mem _ hx) y (List.mem_cons_of_mem _ hy)
    exact ⟨a && b, by unfold allO; rw [ha, hb]; rfl⟩
theorem eqN_tot : ∀ {n : Nat} {a b : D}, RkD n a → RkD n b → ∃ r, eqN n a b = some r
  | 0, .int _, .int _, _, _ => ⟨_, rfl⟩
  | 0, .int _, .str _, _, _ => ⟨_, rfl⟩
  | 0, .str _, .int _, _, _ => ⟨_, rfl⟩
  | 0, .str _, .str _, _, _ => ⟨_, rfl⟩
  | n + 1, .int _, .int _, _, _ => ⟨_, rfl⟩
  | n + 1, .int _, .str _, _, _ => ⟨_, rfl⟩
  | n + 1, .str _, .int _, _, _ => ⟨_, rfl⟩
  | n + 1, .str _, .str _, _, _ => ⟨_, rfl⟩
  | n + 1, .int _, .tup _, _, _ => ⟨_, rfl⟩
  | n + 1, .str _, .tup _, _, _ => ⟨_, rfl⟩
  | n + 1, .tup _, .int _, _, _ => ⟨_, rfl⟩
  | n + 1, .tup _, .str _, _, _ => ⟨_, rfl⟩
  | n + 1, .tup xs, .tup ys, h1, h2 => by
    obtain ⟨b, hb⟩ := allO_some (f := eqN n) (xs := xs) (ys := ys) fun x hx y hy => eqN_tot (h1 x hx) (h2 y hy)
    exact ⟨_, by show (allO (eqN n) xs ys).map _ = _; rw [hb]; rfl⟩
theorem eqN_tup {n : Nat} {xs ys : List D} : eqN (n + 1) (.tup xs) (.tup ys) = (allO (eqN n) xs ys).map fun b => b && decide (xs.length = ys.length) := rfl
theorem ltN_tup {n : Nat} {xs ys : List D} : ltN (n + 1) (.tup xs) (.tup ys) = lexO (eqN n) (ltN n) xs ys := rfl
theorem eqN_ii {n : Nat} {i j : Int} : eqN n (.int i) (.int j) = some (i == j) := by cases n <;> rfl
theorem eqN_ss {n : Nat} {i j : Str} : eqN n (.str i) (.str j) = some (i == j) := by cases n <;> rfl
theorem ltN_ii {n : Nat} {i j : Int} : ltN n (.int i) (.int j) = some (decide (i < j)) := by cases n <;> rfl
theorem ltN_ss {n : Nat} {i j : Str} : ltN n (.str i) (.str j) = some (decide (i.cps.toList < j.cps.toList)) := by cases n <;> rfl
theorem all_eq {α : Type} {e : D → D → Option Bool} {c : α → α → Int} {f : α → D} : ∀ {A B : List α}, (∀ x ∈ A, ∀ y ∈ B, e (f x) (f y) = some (decide (c x y = 0))) →
    ((allO e (A.map f) (B.map f)).map fun b => b && decide ((A.map f).length = (B.map f).length)) = some (decide (cmpL c A B = 0))
  | [], [], _ => by simp [allO, cmpL]
  | [], _ :: _, _ => by simp [allO, cmpL]
  | _ :: _, [], _ => by simp [allO, cmpL]
  | x :: A, y :: B, h => by
    have ih := all_eq (A := A) (B := B) fun x hx y hy => h x (List.mem_cons_of_mem _ hx) y (List.mem_cons_of_mem _ hy)
    have h0 := h x List.mem_cons_self y List.mem_cons_self
    obtain ⟨b, hb, eb⟩ := Option.map_eq_some_iff.mp ih
    simp only [List.map_cons, allO, h0, hb, Option.bind_some, Option.map_some, List.length_cons, Nat.add_right_cancel_iff]
    show some _ = some (decide ((if c x y = 0 then cmpL c A B else c x y) = 0))
    by_cases hz : c x y = 0
    · rw [if_pos hz, ← eb]; simp [hz]
    · rw [if_neg hz]; simp [hz]
theorem lex_lt {α : Type} {e l : D → D → Option Bool} {c : α → α → Int} {f : α → D} : ∀ {A B : List α}, (∀ x ∈ A, ∀ y ∈ B, e (f x) (f y) = some (decide (c x y = 0)) ∧ l (f x) (f y) = some (decide (c x y < 0))) →
    lexO e l (A.map f) (B.map f) = some (decide (cmpL c A B < 0))
  | [], [], _ => by simp [lexO, cmpL]
  | [], _ :: _, _ => by simp [lexO, cmpL]
  | _ :: _, [], _ => by simp [lexO, cmpL]
  | x :: A, y :: B, h => by
    have ih := lex_lt (A := A) (B := B) fun x hx y hy => h x (List.mem_cons_of_mem _ hx) y (List.mem_cons_of_mem _ hy)
    obtain ⟨h0, h1⟩ := h x List.mem_cons_self y List.mem_cons_self
    show ((e (f x) (f y)).bind fun b => if b = true then lexO e l (A.map f) (B.map f) else l (f x) (f y)) = some (decide ((if c x y = 0 then cmpL c A B else c x y) < 0))
    rw [h0, Option.bind_some]
    by_cases hz : c x y = 0
    · rw [if_pos (by simpa using hz), if_pos hz]; exact ih
    · rw [if_neg (by simpa using hz), if_neg hz]; exact h1
theorem sg_eq {i j : Int} : (i == j) = decide (sg i j = 0) := by
  unfold sg
  by_cases h : i = j
  · subst h; simp
  · have : (i == j) = false := by simpa using h
    rw [this]
    split
    · simp
    · split
      · simp
      · omega
theorem sg_lt {i j : Int} : decide (i < j) = decide (sg i j < 0) := by
  unfold sg; congr 1; split
  · simp; assumption
  · split <;> simp <;> omega
theorem sgS_eq {i j : Str} : (i == j) = decide (sgS i j = 0) := by
  by_cases h : i = j
  · subst h; simp [sgS_self]
  · have h1 : (i == j) = false := by simpa using h
    rw [h1, eq_comm, decide_eq_false_iff_not]
    exact fun e => h (sgS_zero e)
theorem sgS_lt {i j : Str} : decide (i.cps.toList < j.cps.toList) = decide (sgS i j < 0) := by
  unfold sgS
  by_cases h : i.cps.toList < j.cps.toList
  · rw [if_pos h]; simp [h]
  · rw [if_neg h]
    by_cases h2 : j.cps.toList < i.cps.toList
    · rw [if_pos h2]; simp [h]
    · rw [if_neg h2]; simp [h]
/-- what stands behind the number of the kind -/
def payN (n : Nat) : D → List D
  | .non => []
  | .bl b => [.int (b2i b)]
  | .int i => [.int i]
  | .str s => [.str s]
  | .lst xs => [.tup (xs.map (rkN n))]
  | d => [.tup ((entOf d).map fun p => .tup [.str p.1, rkN n p.2])]
theorem rk_pay {n : Nat} {d : D} (h : plainD d = true) : rkN (n + 1) d = .tup (.int (kindI d) :: payN n d) := by
  cases d <;> first | rfl | cases h
theorem td_lst {b n : Nat} {xs : List D} (h : TD b n (.lst xs)) : ∃ m, n = m + 1 ∧ ∀ x ∈ xs, TD b m x := by
  cases n with
  | zero => exact h.elim
  | succ n => exact ⟨n, rfl, h.2⟩
theorem pay_one {G : Nat} {k : Int} {p q : D} {c : Int} (h1 : eqN G p q = some (decide (c = 0))) (h2 : ltN G p q = some (decide (c < 0))) : eqN (G + 1) (.tup [.int k, p]) (.tup [.int k, q]) = some (decide (c = 0)) ∧ ltN (G + 1) (.tup [.int k, p]) (.tup [.int k, q]) = some (decide (c < 0)) := by
  refine ⟨?_, ?_⟩
  · rw [eqN_tup]; simp [allO, eqN_ii, h1]
  · rw [ltN_tup]; simp [lexO, eqN_ii, h1, h2]
    intro hz; omega
theorem pay_two {G : Nat} {k l : Str} {p q : D} {c : Int} (h1 : eqN G p q = some (decide (c = 0))) (h2 : ltN G p q = some (decide (c < 0))) : eqN (G + 1) (.tup [.str k, p]) (.tup [.str l, q]) = some (decide ((if sgS k l = 0 then c else sgS k l) = 0)) ∧ ltN (G + 1) (.tup [.str k, p]) (.tup [.str l, q]) = some (decide ((if sgS k l = 0 then c else sgS k l) < 0)) := by
  have e1 : (k == l) = decide (sgS k l = 0) := sgS_eq
  have e2 : decide (k.cps.toList < l.cps.toList) = decide (sgS k l < 0) := sgS_lt
  refine ⟨?_, ?_⟩
  · rw [eqN_tup]; simp only [allO, eqN_ss, h1, Option.bind_some, Option.map_some, e1]
    by_cases hz : sgS k l = 0 <;> simp [hz]
  · rw [ltN_tup]; simp only [lexO, eqN_ss, ltN_ss, h1, h2, Option.bind_some, e1, e2]
    by_cases hz : sgS k l = 0
    · simp [hz]; intro hc; omega
    · simp [hz]
theorem rk_ne {b n F : Nat} {d e : D} (hd : plainD d = true) (he : plainD e = true) (hF : 3 * n + 5 ≤ F) (hk : kindI d ≠ kindI e) : eqN F (rkN (n + 1) d) (rkN (n + 1) e) = some (decide (cmpN (n + 1) d e = 0)) ∧ ltN F (rkN (n + 1) d) (rkN (n + 1) e) = some (decide (cmpN (n + 1) d e < 0)) := by
  have r1 : RkD F (rkN (n + 1) d) := rk_rkD (by omega)
  have r2 : RkD F (rkN (n + 1) e) := rk_rkD (by omega)
  obtain ⟨G, rfl⟩ : ∃ G, F = G + 1 := ⟨F - 1, by omega⟩
  rw [rk_pay hd] at r1 ⊢
  rw [rk_pay he] at r2 ⊢
  rw [cmp_kind hk]
  have e0 : (kindI d == kindI e) = false := by simpa using hk
  obtain ⟨b, hb⟩ := allO_some (f := eqN G) (xs := payN n d) (ys := payN n e) fun x hx y hy => eqN_tot (r1 x (List.mem_cons_of_mem _ hx)) (r2 y (List.mem_cons_of_mem _ hy))
  have s1 := sg_eq (i := kindI d) (j := kindI e)
  have s2 := sg_lt (i := kindI d) (j := kindI e)
  refine ⟨?_, ?_⟩
  · rw [eqN_tup, ← s1, e0]; simp only [allO, eqN_ii, hb, Option.bind_some, Option.map_some, e0, Bool.false_and]
  · rw [ltN_tup, ← s2]; simp only [lexO, eqN_ii, ltN_ii, Option.bind_some, e0]; rfl
theorem rk_cmp {b : Nat} (hb : b ≤ 60) : ∀ {n F : Nat} {d e : D}, TD b n d → TD b n e → 3 * n + 5 ≤ F → eqN F (rkN (n + 1) d) (rkN (n + 1) e) = some (decide (cmpN (n + 1) d e = 0)) ∧ ltN F (rkN (n + 1) d) (rkN (n + 1) e) = some (decide (cmpN (n + 1) d e < 0)) := by
  intro n
  induction n with
  | zero =>
    intro F d e hd he hF
    have pd := td_plain hd
    have pe := td_plain he
    by_cases hk : kindI d = kindI e
    · obtain ⟨G, rfl⟩ : ∃ G, F = G + 1 := ⟨F - 1, by omega⟩
      cases d <;> first | exact hd.elim | skip
      all_goals cases e <;> first | exact he.elim | (simp only [kindI] at hk; omega) | skip
      · rw [cmp_non]; exact ⟨by show eqN (G + 1) (.tup [.int 0]) (.tup [.int 0]) = _; rw [eqN_tup]; simp [allO, eqN_ii], by show ltN (G + 1) (.tup [.int 0]) (.tup [.int 0]) = _; rw [ltN_tup]; simp [lexO, eqN_ii]⟩
      · rw [cmp_bl]; exact pay_one (by rw [eqN_ii, sg_eq]) (by rw [ltN_ii, sg_lt])
      · rw [cmp_int]; exact pay_one (by rw [eqN_ii, sg_eq]) (by rw [ltN_ii, sg_lt])
      · rw [cmp_str]; exact pay_one (by rw [eqN_ss, sgS_eq]) (by rw [ltN_ss, sgS_lt])
    · exact rk_ne (b := b) pd pe hF hk
  | succ n ih =>
    intro F d e hd he hF
    have pd := td_plain hd
    have pe := td_plain he
    by_cases hk : kindI d = kindI e
    · obtain ⟨G, rfl⟩ : ∃ G, F = G + 3 := ⟨F - 3, by omega⟩
      cases d <;> first | exact hd.elim | skip
      all_goals cases e <;> first | exact he.elim | (simp only [kindI] at hk; omega) | skip
      · rw [cmp_non]; exact ⟨by show eqN (G + 3) (.tup [.int 0]) (.tup [.int 0]) = _; rw [eqN_tup]; simp [allO, eqN_ii], by show ltN (G + 3) (.tup [.int 0]) (.tup [.int 0]) = _; rw [ltN_tup]; simp [lexO, eqN_ii]⟩
      · rw [cmp_bl]; exact pay_one (by rw [eqN_ii, sg_eq]) (by rw [ltN_ii, sg_lt])
      · rw [cmp_int]; exact pay_one (by rw [eqN_ii, sg_eq]) (by rw [ltN_ii, sg_lt])
      · rw [cmp_str]; exact pay_one (by rw [eqN_ss, sgS_eq]) (by rw [ltN_ss, sgS_lt])
      · rename_i xs ys
        rw [cmp_lst]
        have h : ∀ x ∈ xs, ∀ y ∈ ys, eqN (G + 1) (rkN (n + 1) x) (rkN (n + 1) y) = some (decide (cmpN (n + 1) x y = 0)) ∧ ltN (G + 1) (rkN (n + 1) x) (rkN (n + 1) y) = some (decide (cmpN (n + 1) x y < 0)) := fun x hx y hy => ih (hd.2 x hx) (he.2 y hy) (by omega)
        exact pay_one (by rw [eqN_tup]; exact all_eq fun x hx y hy => (h x hx y hy).1) (by rw [ltN_tup]; exact lex_lt h)
      · rename_i xs ys
        rw [cmp_dct]
        obtain ⟨_, t1', _⟩ := rowsE_ok hb hd
        obtain ⟨_, t2', _⟩ := rowsE_ok hb he
        have h : ∀ x ∈ entOf (.dct xs), ∀ y ∈ entOf (.dct ys), eqN (G + 1) (.tup [.str x.1, rkN (n + 1) x.2]) (.tup [.str y.1, rkN (n + 1) y.2]) = some (decide (cmpE (n + 1) x y = 0)) ∧ ltN (G + 1) (.tup [.str x.1, rkN (n + 1) x.2]) (.tup [.str y.1, rkN (n + 1) y.2]) = some (decide (cmpE (n + 1) x y < 0)) := fun x hx y hy => by
          obtain ⟨h1, h2⟩ := ih (F := G) (t1' x hx) (t2' y hy) (by omega)
          exact pay_two h1 h2
        exact pay_one (by rw [eqN_tup]; exact all_eq (f := fun p : Str × D => .tup [.str p.1, rkN (n + 1) p.2]) fun x hx y hy => (h x hx y hy).1) (by rw [ltN_tup]; exact lex_lt (f := fun p : Str × D => .tup [.str p.1, rkN (n + 1) p.2]) h)
    · exact rk_ne (b := b) pd pe hF hk
end G
end

section
set_option Elab.async false
set_option maxRecDepth 100000
set_option linter.all false
set_option maxHeartbeats 4000000
namespace G
open PySem PySem.Spec
open PyProof.Rows hiding intD
open L2 hiding gCons gNil gLst
open VL
/-! entries: a key and what lies at its spot -/
abbrev Ent := Int × D
def cE : Ent → Ent → Int := lx (fun p q => cmpN 6 p.2 q.2) (fun p q => sg p.1 q.1)
theorem cE_ord : Ord cE := lx_ord ((cmpN_ord 6).pull fun p : Ent => p.2) (sg_ord.pull fun p : Ent => p.1)
def leE (p q : Ent) : Bool := decide (cE p q ≤ 0)
def srt (L : List Ent) : List Ent := L.mergeSort leE
def rowT (p : Ent) : D := .tup [rkN 6 p.2, .int p.1]
theorem cE_def (p q : Ent) : cE p q = if cmpN 6 p.2 q.2 = 0 then sg p.1 q.1 else cmpN 6 p.2 q.2 := rfl
theorem sg_ne {i j : Int} (h : i ≠ j) : sg i j ≠ 0 := by
  unfold sg; split
  · omega
  · split <;> omega
theorem cE_ne {p q : Ent} (h : p.1 ≠ q.1) : cE p q ≠ 0 := by
  rw [cE_def]; split
  · exact sg_ne h
  · assumption
theorem srt_perm (L : List Ent) : (srt L).Perm L := List.mergeSort_perm L leE
theorem srt_pw (L : List Ent) : (srt L).Pairwise fun p q => cE p q ≤ 0 := by
  have h := List.pairwise_mergeSort (le := leE) (fun a b c h1 h2 => by
    unfold leE at *
    simp only [decide_eq_true_eq] at *
    exact cE_ord.tr a b c h1 h2) (fun a b => by
    unfold leE
    have := cE_ord.asym a b
    simp only [Bool.or_eq_true, decide_eq_true_eq]; omega) L
  exact h.imp fun h => by simpa [leE] using h
theorem srt_mem {L : List Ent} {p : Ent} : p ∈ srt L ↔ p ∈ L := (srt_perm L).mem_iff
theorem srt_len (L : List Ent) : (srt L).length = L.length := (srt_perm L).length_eq
theorem nd_inj {α β : Type} {f : α → β} : ∀ {L : List α}, (L.map f).Nodup → ∀ a ∈ L, ∀ b ∈ L, f a = f b → a = b
  | [], _, a, h, _, _, _ => nomatch h
  | x :: L, nd, a, ha, b, hb, e => by
    rw [List.map_cons, List.nodup_cons] at nd
    rcases List.mem_cons.mp ha with rfl | _
    · rcases List.mem_cons.mp hb with rfl | hb
      · rfl
      · exact absurd (List.mem_map.mpr ⟨b, hb, e.symm⟩) nd.1
    · rename_i ha2
      rcases List.mem_cons.mp hb with hb2 | hb
      · rw [hb2] at e; exact absurd (List.mem_map.mpr ⟨a, ha2, e⟩) nd.1
      · exact nd_inj nd.2 a ha2 b hb e
/-- in order, one key once: there is only one such list -/
theorem ord_uniq {A B : List Ent} (p : A.Perm B) (hA : A.Pairwise fun p q => cE p q ≤ 0) (hB : B.Pairwise fun p q => cE p q ≤ 0) (nd : (A.map (·.1)).Nodup) : A = B := by
  refine List.Perm.eq_of_pairwise (le := fun p q => cE p q ≤ 0) (fun a b ha hb h1 h2 => ?_) hA hB p
  have h := cE_ord.asym a b
  by_cases e : a.1 = b.1
  · exact nd_inj nd a ha b (p.mem_iff.mpr hb) e
  · have := cE_ne e
    omega
theorem row_lt {b : Nat} (hb : b ≤ 60) {p q : Ent} (hp : TD b 5 p.2) (hq : TD b 5 q.2) : ltN 32 (rowT p) (rowT q) = some (decide (cE p q < 0)) := by
  obtain ⟨h1, h2⟩ := rk_cmp hb (F := 31) hp hq (by decide)
  unfold rowT
  rw [ltN_tup]
  simp only [lexO, h1, h2, Option.bind_some, eqN_ii, ltN_ii]
  by_cases hz : cmpN 6 p.2 q.2 = 0
  · have e : cE p q = sg p.1 q.1 := by rw [cE_def, if_pos hz]
    rw [if_pos (by simpa using hz), e, sg_lt]
    by_cases hk : p.1 = q.1
    · rw [hk]; simp [sg_self]
    · rw [if_neg (by simpa using hk)]
  · have e : cE p q = cmpN 6 p.2 q.2 := by rw [cE_def, if_neg hz]
    rw [if_neg (by simpa using hz), e]
structure Es (L : List Ent) : Prop where
  nd : (L.map (·.1)).Nodup
  td : ∀ p ∈ L, TD 20 5 p.2
  ln : L.length ≤ 20
theorem row_ltB {p q : Ent} (hp : TD 20 5 p.2) (hq : TD 20 5 q.2) : ltB (rowT p) (rowT q) = decide (cE p q < 0) := by
  unfold ltB; rw [row_lt (by decide) hp hq]; rfl
theorem rows_ord {L : List Ent} (h : Es L) : OkOrd (L.map rowT) := by
  have mem : ∀ x ∈ L.map rowT, ∃ p ∈ L, x = rowT p := fun x hx => by
    obtain ⟨p, hp, rfl⟩ := List.mem_map.mp hx
    exact ⟨p, hp, rfl⟩
  refine ⟨fun x hx => ?_, ?_, fun x hx y hy => ?_, fun x hx y hy => ?_, fun x hx y hy z hz => ?_⟩
  · obtain ⟨p, hp, rfl⟩ := mem x hx
    obtain ⟨ts, e⟩ := rk_tup 6 p.2
    exact ⟨ts, [.int p.1], by unfold rowT; rw [e]⟩
  · rw [List.pairwise_map]
    have nd := h.nd
    unfold List.Nodup at nd
    rw [List.pairwise_map] at nd
    refine List.Pairwise.imp_of_mem (fun {p q} hp hq hne => ?_) nd
    rw [row_ltB (h.td p hp) (h.td q hq), row_ltB (h.td q hq) (h.td p hp)]
    have := cE_ne hne
    have a := cE_ord.asym p q
    simp only [decide_eq_true_eq]
    omega
  · obtain ⟨p, hp, rfl⟩ := mem x hx
    obtain ⟨q, hq, rfl⟩ := mem y hy
    exact ⟨_, row_lt (by decide) (h.td p hp) (h.td q hq)⟩
  · obtain ⟨p, hp, rfl⟩ := mem x hx
    obtain ⟨q, hq, rfl⟩ := mem y hy
    rw [row_ltB (h.td p hp) (h.td q hq), row_ltB (h.td q hq) (h.td p hp)]
    have a := cE_ord.asym p q
    simp only [decide_eq_true_eq, decide_eq_false_iff_not]
    omega
  · obtain ⟨p, hp, rfl⟩ := mem x hx
    obtain ⟨q, hq, rfl⟩ := mem y hy
    obtain ⟨r, hr, rfl⟩ := mem z hz
    rw [row_ltB (h.td q hq) (h.td p hp), row_ltB (h.td r hr) (h.td q hq), row_ltB (h.td r hr) (h.td p hp)]
    simp only [decide_eq_false_iff_not]
    have a := cE_ord.asym p q
    have b := cE_ord.asym q r
    have c := cE_ord.asym p r
    have t := cE_ord.tr p q r
    omega
theorem rows_in {L : List Ent} (h : Es L) : InOrd (L.map rowT) ((srt L).map rowT) := by
  refine ⟨(srt_perm L).map _, ?_⟩
  rw [List.pairwise_map]
  refine List.Pairwise.imp_of_mem (fun {p q} hp hq hle => ?_) (srt_pw L)
  rw [row_ltB (h.td q (srt_mem.mp hq)) (h.td p (srt_mem.mp hp))]
  have := cE_ord.asym p q
  simp only [decide_eq_false_iff_not]
  omega
theorem rows_sort {L : List Ent} (h : Es L) : ∃ fl, fl ≠ Fl.S ∧ sortD2 [.lst (L.map rowT)] = some (fl, .lst ((srt L).map rowT)) := by
  cases L with
  | nil => exact ⟨.T, by decide, by unfold sortD2; simp [sortD, asInts, oT, sortInt, srt]⟩
  | cons p L =>
    have h1 : sortD [.lst ((p :: L).map rowT)] = none := rfl
    refine ⟨.R, by decide, ?_⟩
    unfold sortD2
    rw [h1]
    simp only
    rw [sortR_eq (rows_ord h) (rows_in h)]
    rfl
theorem before_ok {a b : D} (ha : TD 20 5 a) (hb : TD 20 5 b) : m_before [a, b] = .ok (.T, .bl (decide (cmpN 6 a b < 0))) := by
  obtain ⟨f1, e1⟩ := rank_ok (b := 20) (by decide) (m := 12) ha (by decide)
  obtain ⟨f2, e2⟩ := rank_ok (b := 20) (by decide) (m := 12) hb (by decide)
  obtain ⟨t1', r1⟩ := rk_tup 6 a
  obtain ⟨t2', r2⟩ := rk_tup 6 b
  have h := (rk_cmp (b := 20) (by decide) (F := 32) ha hb (by decide)).2
  have h2 : ltD2 (rkN 6 a) (rkN 6 b) = some (decide (cmpN 6 a b < 0)) := by
    rw [← h, r1, r2]; rfl
  have v : viewF [0, 1] 0 (enter 2 [a, b]) = [some a, some b] := by
    simp [enter, viewF, sh]
  unfold m_before g_before
  refine run_of (q_ret (x := (.T, .bl (decide (cmpN 6 a b < 0)))) ?_) rfl
  rw [v]
  simp only [g2, gCall, VL.gCons, VL.gNil, gVar, List.getElem?_cons_zero, List.getElem?_cons_succ, Res.bind_ok, sh_2, e1, e2, fB, h2, Option.map_some, ofO_some]
end G
end

section
set_option Elab.async false
set_option maxRecDepth 100000
set_option linter.all false
set_option maxHeartbeats 4000000
namespace G
open PySem PySem.Spec
open PyProof.Rows hiding intD
open L2 hiding gCons gNil gLst
open VL
/-! the order's fields -/
def Fld (W : D) (S : List (Key × D)) (N : List D) : List (Key × D) := [(.inr "way", W), (.inr "spots_of", .dct S), (.inr "nowhere", .lst N)]
theorem ne_ws : ¬ (Sum.inr "way" : Key) = .inr "spots_of" := by decide +kernel
theorem ne_wn : ¬ (Sum.inr "way" : Key) = .inr "nowhere" := by decide +kernel
theorem ne_sw : ¬ (Sum.inr "spots_of" : Key) = .inr "way" := by decide +kernel
theorem ne_sn : ¬ (Sum.inr "spots_of" : Key) = .inr "nowhere" := by decide +kernel
theorem ne_nw : ¬ (Sum.inr "nowhere" : Key) = .inr "way" := by decide +kernel
theorem ne_ns : ¬ (Sum.inr "nowhere" : Key) = .inr "spots_of" := by decide +kernel
section
variable {W : D} {S : List (Key × D)} {N : List D}
theorem lk_w : look (Fld W S N) (.inr "way") = some W := look_cons_pos rfl
theorem lk_s : look (Fld W S N) (.inr "spots_of") = some (.dct S) := (look_cons_neg ne_ws).trans (look_cons_pos rfl)
theorem lk_n : look (Fld W S N) (.inr "nowhere") = some (.lst N) := (look_cons_neg ne_wn).trans ((look_cons_neg ne_sn).trans (look_cons_pos rfl))
theorem pt_s {S' : List (Key × D)} : putD (Fld W S N) (.inr "spots_of") (.dct S') = Fld W S' N := by
  unfold putD Fld
  rw [if_pos (by simp)]
  simp only [List.map_cons, List.map_nil, if_neg ne_ws, if_neg ne_ns, if_true]
theorem pt_n {N' : List D} : putD (Fld W S N) (.inr "nowhere") (.lst N') = Fld W S N' := by
  unfold putD Fld
  rw [if_pos (by simp)]
  simp only [List.map_cons, List.map_nil, if_neg ne_wn, if_neg ne_sn, if_true]
theorem pt_1 : putD [] (.inr "way") W = [(.inr "way", W)] := rfl
theorem pt_2 : putD [(.inr "way", W)] (.inr "spots_of") (.dct S) = [(.inr "way", W), (.inr "spots_of", .dct S)] := putD_new fun h => ne_sw (List.mem_singleton.mp h)
theorem pt_3 : putD [(.inr "way", W), (.inr "spots_of", .dct S)] (.inr "nowhere") (.lst N) = Fld W S N := putD_new (by
  intro h
  rcases List.mem_cons.mp h with h | h
  · exact ne_nw h
  · exact ne_ns (List.mem_singleton.mp h))
theorem lk_m (k : Str) (h1 : ¬ (Sum.inr "way" : Key) = .inr k) (h2 : ¬ (Sum.inr "spots_of" : Key) = .inr k) (h3 : ¬ (Sum.inr "nowhere" : Key) = .inr k) : look (Fld W S N) (.inr k) = none := (look_cons_neg h1).trans ((look_cons_neg h2).trans (look_cons_neg h3))
theorem lk_between : look (Fld W S N) (.inr "between") = none := lk_m _ (by decide +kernel) (by decide +kernel) (by decide +kernel)
theorem lk_keys : look (Fld W S N) (.inr "keys_in_order") = none := lk_m _ (by decide +kernel) (by decide +kernel) (by decide +kernel)
theorem lk_put : look (Fld W S N) (.inr "put") = none := lk_m _ (by decide +kernel) (by decide +kernel) (by decide +kernel)
theorem lk_cleared : look (Fld W S N) (.inr "cleared") = none := lk_m _ (by decide +kernel) (by decide +kernel) (by decide +kernel)
end
theorem flL_stp {ps : List D} (h : ∀ p ∈ ps, Stp p) : flL ps = .T := by
  have : atoms ps = true := List.all_eq_true.mpr fun p hp => by rcases h p hp with ⟨s, rfl⟩ | ⟨k, rfl⟩ <;> rfl
  unfold flL; rw [this]; rfl
theorem init_ok {cO : Addr} {ps : List D} (h : ∀ p ∈ ps, Stp p) : R_init cO [] [.lst ps] (Fld (.lst ps) [] []) := fun a => by
  refine ⟨[some (.T, .ins (some a) cO (Fld (.lst ps) [] [])), some (.S, .lst ps)], ?_, rfl⟩
  show g_o_init cO [some (.T, .ins (some a) cO []), some (.S, .lst ps)] = _
  have e1 : gSetF cO 0 "way" [1] (gCall (VL.gCons (gVar 1) VL.gNil) (fun ds => ofO (listD ds))) [some (.T, .ins (some a) cO []), some (.S, .lst ps)] = .nx [some (.T, .ins (some a) cO [(.inr "way", .lst ps)]), some (.S, .lst ps)] := by
    simp [gSetF, viewF, gCall, VL.gCons, VL.gNil, gVar, sh_lst, listD, flL_stp h, viaE, pt_1]
  have e2 : gSetF cO 0 "spots_of" [] (gCon (.dct [])) [some (.T, .ins (some a) cO [(.inr "way", .lst ps)]), some (.S, .lst ps)] = .nx [some (.T, .ins (some a) cO [(.inr "way", .lst ps), (.inr "spots_of", .dct [])]), some (.S, .lst ps)] := by
    simp [gSetF, viewF, gCon, viaE, pt_2]
  have e3 : gSetF cO 0 "nowhere" [] (VL.gLst lNil) [some (.T, .ins (some a) cO [(.inr "way", .lst ps), (.inr "spots_of", .dct [])]), some (.S, .lst ps)] = .nx [some (.T, .ins (some a) cO (Fld (.lst ps) [] [])), some (.S, .lst ps)] := by
    simp [gSetF, viewF, VL.gLst, lNil, chk, mkL, allT, viaE, pt_3]
  exact q_seq e1 (q_seq e2 e3)
theorem compL_fil {α : Type} {t : D → Option (List D)} {is : List Nat} {c : GT} {g : GE} {ρ : List (Option D)} {xf yf : α → FD} {pf : α → Bool} : ∀ {l : List α}, (∀ a ∈ l, ∃ as, t (xf a).2 = some as ∧ c (setsD ρ is as) = .ok (pf a) ∧ g (setsD ρ is as) = .ok (yf a)) → compL t is c g ρ (l.map xf) = .ok ((l.filter pf).map yf)
  | [], _ => rfl
  | x :: xs, h => by
    obtain ⟨as, h1, h2, h3⟩ := h x List.mem_cons_self
    have ih := compL_fil (l := xs) fun a ha => h a (List.mem_cons_of_mem _ ha)
    simp only [List.map_cons, compL, h1, h2, Res.nox_ok, Res.bind_ok, List.filter_cons]
    cases hp : pf x with
    | true => simp only [if_true, h3, Res.nox_ok, Res.bind_ok, ih, List.map_cons]
    | false => rw [if_neg (by decide), if_neg (by decide)]; exact ih
theorem allT_mapf {α : Type} {f : α → D} : ∀ {l : List α}, allT (l.map fun a => ((.T, f a) : FD)) = true
  | [] => rfl
  | x :: l => by
    have ih := allT_mapf (f := f) (l := l)
    unfold allT at *
    rw [List.map_cons, List.all_cons, ih]; rfl
theorem mkL_T {α : Type} {f : α → D} {l : List α} : mkL (l.map fun a => ((.T, f a) : FD)) = (.T, .lst (l.map f)) := by
  unfold mkL
  rw [allT_mapf, if_pos rfl, List.map_map]; rfl
theorem drop_no {S : List (Key × D)} {k : Key} (h : k ∉ S.map (·.1)) : dropD S k = S := by
  unfold dropD
  rw [List.filter_eq_self]
  intro a ha
  simp only [decide_eq_true_eq]
  exact fun e => h (List.mem_map.mpr ⟨a, ha, e⟩)
theorem cleared_ok {cO : Addr} {W : D} {S : List (Key × D)} {ns : List Int} {k : Int} (h1 : .inl k ∉ S.map (·.1)) (h2 : k ∉ ns) (hl : ns.length < 1000) : R_cleared cO (Fld W S (ns.map .int)) [.int k] (Fld W S (ns.map .int)) := fun a => by
  refine ⟨[some (.T, .ins (some a) cO (Fld W S (ns.map .int))), some (.T, .int k), none], ?_, rfl⟩
  show g_o_cleared cO [some (.T, .ins (some a) cO (Fld W S (ns.map .int))), some (.T, .int k), none] = _
  have e1 : gPopF cO 0 "spots_of" [1] (gVar 1) [some (.T, .ins (some a) cO (Fld W S (ns.map .int))), some (.T, .int k), none] = .nx [some (.T, .ins (some a) cO (Fld W S (ns.map .int))), some (.T, .int k), none] := by
    simp [gPopF, fldAt, lk_s, viewF, gVar, sh_int, viaE, keyOf, drop_no h1, pt_s]
  have e0 : ns.filter (fun n => !(n == k)) = ns := List.filter_eq_self.mpr fun n hn => by
    simp only [Bool.not_eq_true', beq_eq_false_iff_ne, ne_eq]
    exact fun e => h2 (e ▸ hn)
  have e3 : compL t1 [2] (gTest (g2 (gVar 2) (gVar 1) (fun x y => ofO ((fB fun a b => (eqN 32 a b).map (!·)) x.2 y.2)))) (gVar 2) [some (.ins (some a) cO (Fld W S (ns.map .int))), some (.int k), none] (ns.map fun n => sh (.int n)) = .ok (ns.map fun n => ((.T, .int n) : FD)) := by
    have := compL_fil (α := Int) (t := t1) (is := [2]) (c := gTest (g2 (gVar 2) (gVar 1) (fun x y => ofO ((fB fun a b => (eqN 32 a b).map (!·)) x.2 y.2)))) (g := gVar 2) (ρ := [some (.ins (some a) cO (Fld W S (ns.map .int))), some (.int k), none]) (xf := fun n => sh (.int n)) (yf := fun n => ((.T, .int n) : FD)) (pf := fun n => !(n == k)) (l := ns) fun n hn => ⟨[.int n], rfl, by
      simp [setsD, gTest, g2, gVar, sh_int, fB, eqN_int, toB], by simp [setsD, gVar, sh_int]⟩
    rw [this, e0]
  have hz : (ns.map D.int).length ≤ sizeLine := by rw [List.length_map]; exact Nat.le_trans (Nat.le_of_lt hl) (by decide)
  have e2 : gSetF cO 0 "nowhere" [0, 1] (gComp [2] [2] (gItL (gFld cO "nowhere" (gVar 0))) t1 (gTest (g2 (gVar 2) (gVar 1) (fun x y => ofO ((fB fun a b => (eqN 32 a b).map (!·)) x.2 y.2)))) (gVar 2)) [some (.T, .ins (some a) cO (Fld W S (ns.map .int))), some (.T, .int k), none] = .nx [some (.T, .ins (some a) cO (Fld W S (ns.map .int))), some (.T, .int k), none] := by
    have hv : gComp [2] [2] (gItL (gFld cO "nowhere" (gVar 0))) t1 (gTest (g2 (gVar 2) (gVar 1) (fun x y => ofO ((fB fun a b => (eqN 32 a b).map (!·)) x.2 y.2)))) (gVar 2) [some (.ins (some a) cO (Fld W S (ns.map .int))), some (.int k), none] = .ok (.T, .lst (ns.map .int)) := by
      unfold gComp
      simp only [gItL, gFld, gVar, List.getElem?_cons_zero, Res.bind_ok, sh_2, fldD, if_true, lk_n, itemsL, List.map_map, List.length_map]
      rw [if_pos (by simpa using hz)]
      simp only [wipeD, List.set_cons_succ, List.set_cons_zero, Function.comp_def]
      rw [e3]
      simp only [Res.bind_ok]
      rw [mkL_T]
    have v : viewF [0, 1] 0 [some (.T, .ins (some a) cO (Fld W S (ns.map .int))), some (.T, .int k), none] = [some (.ins (some a) cO (Fld W S (ns.map .int))), some (.int k), none] := rfl
    have hL : (Fld W S (ns.map .int)).length < 1000 := by show 3 < 1000; decide
    unfold gSetF
    simp only [List.getElem?_cons_zero, if_true, v, hv, viaE]
    rw [if_pos ⟨trivial, hL⟩, pt_n]; rfl
  exact q_seq e1 e2
theorem thing_at_ok {d e : D} {ps : List D} (h : TD 20 5 d) (hp : ∀ p ∈ ps, Stp p) (hl : ps.length < 1000) (hw : walk d ps = some e) (he : TD 20 5 e) : m_thing_at [d, .lst ps] = .ok (.T, e) := by
  obtain ⟨f, e1⟩ := reached_ok h hp hl hw
  have e2 := copied_ok (n := 5) (m := 12) (TD.mono (b := 20) (by decide) (Nat.le_refl _) he) (by decide)
  have v : viewF [0, 1] 0 (enter 2 [d, .lst ps]) = [some d, some (.lst ps)] := by simp [enter, viewF, sh]
  unfold m_thing_at g_thing_at
  refine run_of (q_ret (x := (.T, e)) ?_) rfl
  rw [v]
  simp only [gCall, VL.gCons, VL.gNil, gVar, List.getElem?_cons_zero, List.getElem?_cons_succ, Res.bind_ok, sh_2, e1, e2]
theorem walk_td {b n : Nat} : ∀ {ps : List D} {d e : D}, TD b n d → walk d ps = some e → TD b n e
  | [], d, e, h, hw => by cases hw; exact h
  | p :: ps, d, e, h, hw => by
    obtain ⟨d', h1, h2⟩ := Option.bind_eq_some_iff.mp hw
    exact walk_td (step_td h h1) h2
/-- what put leaves -/
def putF (ps : List D) (k : Int) (d : D) (SN : List (Key × D) × List Int) : List (Key × D) × List Int := match walk d ps with
  | some e => (SN.1 ++ [(.inl k, e)], SN.2)
  | none => (SN.1, SN.2 ++ [k])
theorem put_ok {cO : Addr} {ps : List D} {S : List (Key × D)} {ns : List Int} {k : Int} {d : D} (hd : TD 20 5 d) (hp : ∀ p ∈ ps, Stp p) (hl : ps.length < 1000) (h1 : .inl k ∉ S.map (·.1)) (h2 : k ∉ ns) (hl1 : S.length < 900) (hl2 : ns.length < 900) :
    R_put cO (Fld (.lst ps) S (ns.map .int)) [.int k, d] (Fld (.lst ps) (putF ps k d (S, ns)).1 ((putF ps k d (S, ns)).2.map .int)) := fun a => by
  obtain ⟨f, hf⟩ : ∃ f, sh d = (f, d) := ⟨_, rfl⟩
  refine ⟨[some (.T, .ins (some a) cO (Fld (.lst ps) (putF ps k d (S, ns)).1 ((putF ps k d (S, ns)).2.map .int))), some (.T, .int k), some (f, d)], ?_, rfl⟩
  have e0 : (some ((.T, .ins (some a) cO (Fld (.lst ps) S (ns.map .int))) : FD) :: enter (3 - 1) [.int k, d]) = [some (.T, .ins (some a) cO (Fld (.lst ps) S (ns.map .int))), some (.T, .int k), some (f, d)] := by
    show _ :: (List.map _ [_, _] ++ _) = _
    simp only [List.map_cons, List.map_nil, hf]; rfl
  rw [e0]
  have em : mOf (R_cleared cO) (Fld (.lst ps) S (ns.map .int)) [.int k] = some (Fld (.lst ps) S (ns.map .int)) := mOf_eq (n := 3) (g := g_o_cleared cO) (cleared_ok h1 h2 (by omega))
  have e1 : gMethS cO 0 "cleared" (R_cleared cO) [1] (VL.gCons (gVar 1) (VL.gNil)) [some (.T, .ins (some a) cO (Fld (.lst ps) S (ns.map .int))), some (.T, .int k), some (f, d)] = .nx [some (.T, .ins (some a) cO (Fld (.lst ps) S (ns.map .int))), some (.T, .int k), some (f, d)] := by
    have hg : VL.gCons (gVar 1) VL.gNil (viewF [1] 0 [some (.T, .ins (some a) cO (Fld (.lst ps) S (ns.map .int))), some (.T, .int k), some (f, d)]) = .ok [.int k] := rfl
    unfold gMethS
    simp only [List.getElem?_cons_zero, hg, viaE, em]
    rw [if_pos ⟨trivial, lk_cleared, rfl⟩]
    simp [leakF, sh_int]
  have v : viewF [0, 2] 0 [some (.T, .ins (some a) cO (Fld (.lst ps) S (ns.map .int))), some (.T, .int k), some (f, d)] = [some (.ins (some a) cO (Fld (.lst ps) S (ns.map .int))), none, some d] := by simp [viewF]
  have v2 : viewF [0, 1, 2] 0 [some (.T, .ins (some a) cO (Fld (.lst ps) S (ns.map .int))), some (.T, .int k), some (f, d)] = [some (.ins (some a) cO (Fld (.lst ps) S (ns.map .int))), some (.int k), some d] := by simp [viewF]
  have hc : gTest (gCall (VL.gCons (gVar 2) (VL.gCons (gFld cO "way" (gVar 0)) (VL.gNil))) m_has) [some (.ins (some a) cO (Fld (.lst ps) S (ns.map .int))), none, some d] = .ok (walk d ps).isSome := by
    simp only [gTest, gCall, VL.gCons, VL.gNil, gFld, gVar, List.getElem?_cons_zero, List.getElem?_cons_succ, Res.bind_ok, sh_2, fldD, if_true, lk_w, has_ok hd hp, toB]
  unfold g_o_put
  refine q_seq e1 ?_
  cases hw : walk d ps with
  | none =>
    have ep : putF ps k d (S, ns) = (S, ns ++ [k]) := by unfold putF; rw [hw]
    rw [hw] at hc
    refine q_iff (by rw [v]; exact hc) ?_
    rw [ep]
    have hz : (ns.map D.int).length < sizeLine := by rw [List.length_map]; exact Nat.lt_of_lt_of_le hl2 (by decide)
    have hz' : ns.length < sizeLine := by simpa using hz
    simp [gAppF, fldAt, lk_n, viewF, gVar, sh_int, viaE, pt_n, hz']
  | some e =>
    have ep : putF ps k d (S, ns) = (S ++ [(.inl k, e)], ns) := by unfold putF; rw [hw]
    rw [hw] at hc
    refine q_ift (by rw [v]; exact hc) ?_
    rw [ep]
    have hz : S.length < sizeLine := Nat.lt_of_lt_of_le hl1 (by decide)
    have ht := thing_at_ok hd hp hl hw (walk_td hd hw)
    have hv : gCall (VL.gCons (gVar 2) (VL.gCons (gFld cO "way" (gVar 0)) (VL.gNil))) m_thing_at [some (.ins (some a) cO (Fld (.lst ps) S (ns.map .int))), some (.int k), some d] = .ok (.T, e) := by
      simp only [gCall, VL.gCons, VL.gNil, gFld, gVar, List.getElem?_cons_zero, List.getElem?_cons_succ, Res.bind_ok, sh_2, fldD, if_true, lk_w, ht]
    have hk : gVar 1 [some (.ins (some a) cO (Fld (.lst ps) S (ns.map .int))), some (.int k), some d] = .ok (.T, .int k) := rfl
    unfold gSetIF
    simp only [fldAt, List.getElem?_cons_zero, if_true, lk_s, Option.map_some, v2, hv, hk, viaE, keyOf]
    rw [if_pos ⟨trivial, hz⟩, putD_new h1, pt_s]
    rfl
end G
end

section
set_option Elab.async false
set_option maxRecDepth 100000
set_option linter.all false
set_option maxHeartbeats 4000000
namespace G
open PySem PySem.Spec
open PyProof.Rows hiding intD
open L2 hiding gCons gNil gLst
open VL
/-! the keys in order, and those between two ends -/
def spt (L : List Ent) : List (Key × D) := L.map fun p => (.inl p.1, p.2)
theorem spt_keys (L : List Ent) : (spt L).map (·.1) = (L.map (·.1)).map Sum.inl := by
  unfold spt; rw [List.map_map, List.map_map]; rfl
theorem spt_look {L : List Ent} (h : Es L) {p : Ent} (hp : p ∈ L) : look (spt L) (.inl p.1) = some p.2 := by
  refine look_mem (kds := spt L) (kv := (.inl p.1, p.2)) ?_ (List.mem_map.mpr ⟨p, hp, rfl⟩)
  rw [spt_keys]
  unfold List.Nodup
  rw [List.pairwise_map]
  exact List.Pairwise.imp (fun hne e => hne (by cases e; rfl)) h.nd
def ksD (L : List Ent) : D := .lst (L.map fun p => .int p.1)
theorem ix_row {p : Ent} : ixD (rowT p) (.int 1) = some (.T, .int p.1) := rfl
theorem keys_ok {cO : Addr} {o : Option Addr} {W : D} {N : List D} {L : List Ent} (h : Es L) : m_keys cO [.ins o cO (Fld W (spt L) N)] = .ok (.T, ksD (srt L)) := by
  obtain ⟨I, hI⟩ : ∃ I, I = D.ins o cO (Fld W (spt L) N) := ⟨_, rfl⟩
  have hsI : sh I = (.S, I) := by rw [hI]; rfl
  have hfK : fldK cO "spots_of" I = some (spt L) := by
    rw [hI]; unfold fldK; simp only [if_true, lk_s]
  have hl : L.length ≤ sizeLine := Nat.le_trans h.ln (by decide)
  have hf : ∀ p ∈ L, ∃ fl, m_rank 12 [p.2] = .ok (fl, rkN 6 p.2) := fun p hp => rank_ok (b := 20) (by decide) (m := 12) (h.td p hp) (by decide)
  obtain ⟨f, hff⟩ : ∃ f : Ent → Fl, ∀ p ∈ L, m_rank 12 [p.2] = .ok (f p, rkN 6 p.2) := by
    refine ⟨fun p => (match m_rank 12 [p.2] with | .ok x => x.1 | _ => .T), fun d hd => ?_⟩
    obtain ⟨fl, e⟩ := hf d hd
    simp only [e]
  have e1 : compL t2 [3, 4] cYes (gTpl (lCons (gCall (VL.gCons (gVar 4) VL.gNil) (m_rank 12)) (lCons (gVar 3) lNil))) [some I, none, none, none, none] (itemsD (spt L)) = .ok (L.map fun p => mkT [((f p, rkN 6 p.2) : FD), (.T, .int p.1)]) := by
    have ei : itemsD (spt L) = L.map fun p => ((if p.2.atom = true then Fl.T else Fl.R, D.tup [.int p.1, p.2]) : FD) := by
      unfold itemsD spt; rw [List.map_map]; rfl
    rw [ei]
    refine compL_on fun p hp => ⟨[.int p.1, p.2], rfl, ?_⟩
    have hm := hff p hp
    have e0 : setsD [some I, none, none, none, none] [3, 4] [D.int p.1, p.2] = [some I, none, none, some (.int p.1), some p.2] := rfl
    rw [e0]
    simp only [gTpl, lCons, lNil, gCall, VL.gCons, VL.gNil, gVar, List.getElem?_cons_zero, List.getElem?_cons_succ, Res.bind_ok, sh_2, hm, sh_int, chk, List.length_cons, List.length_nil]
    rfl
  obtain ⟨fl, hfl, hs⟩ := rows_sort h
  have e2 : gSet 1 [0] (gCall (VL.gCons (gComp [3, 4] [3, 4] (gDctF cO 0 "spots_of" itemsD) t2 (cYes) (gTpl (lCons (gCall (VL.gCons (gVar 4) (VL.gNil)) (m_rank 12)) (lCons (gVar 3) (lNil))))) (VL.gNil)) (fun ds => ofO (sortD2 ds))) [some (.S, I), none, none, none, none] = .nx [some (.S, I), some (fl, .lst ((srt L).map rowT)), none, none, none] := by
    have hg : gCall (VL.gCons (gComp [3, 4] [3, 4] (gDctF cO 0 "spots_of" itemsD) t2 (cYes) (gTpl (lCons (gCall (VL.gCons (gVar 4) (VL.gNil)) (m_rank 12)) (lCons (gVar 3) (lNil))))) (VL.gNil)) (fun ds => ofO (sortD2 ds)) [some I, none, none, none, none] = .ok (fl, .lst ((srt L).map rowT)) := by
      have hg0 : gComp [3, 4] [3, 4] (gDctF cO 0 "spots_of" itemsD) t2 (cYes) (gTpl (lCons (gCall (VL.gCons (gVar 4) (VL.gNil)) (m_rank 12)) (lCons (gVar 3) (lNil)))) [some I, none, none, none, none] = .ok (mkL (L.map fun p => mkT [((f p, rkN 6 p.2) : FD), (.T, .int p.1)])) := by
        unfold gComp gDctF
        simp only [List.getElem?_cons_zero, hfK, Res.bind_ok]
        rw [if_pos (by unfold itemsD spt; rw [List.length_map, List.length_map]; exact hl)]
        show (compL _ _ _ _ [some I, none, none, none, none] _).bind _ = _
        rw [e1]; rfl
      have ml : (mkL (L.map fun p => mkT [((f p, rkN 6 p.2) : FD), (.T, .int p.1)])).2 = .lst (L.map rowT) := by
        unfold mkL; rw [List.map_map]; rfl
      simp only [gCall, VL.gCons, VL.gNil, hg0, Res.bind_ok, ml, hs, ofO_some]
    refine q_set hg ?_
    cases fl
    · exact absurd rfl hfl
    · simp [putV, leakF, hsI]
    · simp [putV]
  have e3 : gRet [1] (gComp [2] [2] (gItL (gVar 1)) t1 cYes (g2 (gVar 2) (gCon (.int 1)) (fun x y => ofO (ixD x.2 y.2)))) [some (.S, I), some (fl, .lst ((srt L).map rowT)), none, none, none] = .rt (.T, ksD (srt L)) := by
    refine q_ret ?_
    have v : viewF [1] 0 [some (.S, I), some (fl, .lst ((srt L).map rowT)), none, none, none] = [some I, some (.lst ((srt L).map rowT)), none, none, none] := by simp [viewF]
    rw [v]
    have e4 : compL t1 [2] cYes (g2 (gVar 2) (gCon (.int 1)) (fun x y => ofO (ixD x.2 y.2))) [some I, some (.lst ((srt L).map rowT)), none, none, none] ((srt L).map fun p => sh (rowT p)) = .ok ((srt L).map fun p => ((.T, .int p.1) : FD)) := compL_on fun p hp => ⟨[rowT p], rfl, by
      have e0 : setsD [some I, some (.lst ((srt L).map rowT)), none, none, none] [2] [rowT p] = [some I, some (.lst ((srt L).map rowT)), some (rowT p), none, none] := rfl
      rw [e0]
      simp only [g2, gVar, gCon, List.getElem?_cons_zero, List.getElem?_cons_succ, Res.bind_ok, sh_2, ix_row, ofO_some]⟩
    unfold gComp
    simp only [gItL, gVar, List.getElem?_cons_zero, List.getElem?_cons_succ, Res.bind_ok, sh_2, itemsL, List.map_map]
    rw [if_pos (by rw [List.length_map, srt_len]; exact hl)]
    show (compL _ _ _ _ [some I, some (.lst ((srt L).map rowT)), none, none, none] ((srt L).map fun p => sh (rowT p))).bind _ = _
    rw [e4]
    exact congrArg Res.ok mkL_T
  unfold m_keys g_o_keys_in_order
  rw [← hI]
  refine run_of (q_seq (ρ1 := [some (.S, I), some (fl, .lst ((srt L).map rowT)), none, none, none]) ?_ e3) rfl
  have : enter 5 [I] = [some (.S, I), none, none, none, none] := by
    show [some (sh I)] ++ _ = _; rw [hsI]; rfl
  rw [this]; exact e2
end G
end

section
set_option Elab.async false
set_option maxRecDepth 100000
set_option linter.all false
set_option maxHeartbeats 4000000
namespace G
open PySem PySem.Spec
open PyProof.Rows hiding intD
open L2 hiding gCons gNil gLst
open VL
def okLo (lo : D) (p : Ent) : Bool := isN lo || !decide (cmpN 6 p.2 lo < 0)
def okHi (hi : D) (p : Ent) : Bool := isN hi || !decide (cmpN 6 hi p.2 < 0)
def btw (lo hi : D) (A : List Ent) : List Ent := (A.filter (okLo lo)).filter (okHi hi)
theorem fil_yes {α : Type} {f : α → Bool} {l : List α} (h : ∀ a, f a = true) : l.filter f = l := List.filter_eq_self.mpr fun a _ => h a
section
variable {cO : Addr} {o : Option Addr} {W : D} {N : List D} {L : List Ent}
theorem comp_lo (h : Es L) {lo : D} (hlo : TD 20 5 lo) (hn : isN lo = false) {o2 : Option D} {A : List Ent} (hA : ∀ p ∈ A, p ∈ L) (hl : A.length ≤ 20) :
    gComp [4] [4] (gItL (gVar 3)) t1 (gNotT (gTest (gCall (VL.gCons (g2 (gFld cO "spots_of" (gVar 0)) (gVar 4) (fun x y => ofO (ixD x.2 y.2))) (VL.gCons (gVar 1) (VL.gNil))) m_before))) (gVar 4) [some (.ins o cO (Fld W (spt L) N)), some lo, o2, some (ksD A), none] = .ok (.T, ksD (A.filter (okLo lo))) := by
  obtain ⟨I, hI⟩ : ∃ I, I = D.ins o cO (Fld W (spt L) N) := ⟨_, rfl⟩
  have hF : fldD cO "spots_of" I = .ok (sh (.dct (spt L))) := by rw [hI]; unfold fldD; simp only [if_true, lk_s]
  rw [← hI]
  have e4 : compL t1 [4] (gNotT (gTest (gCall (VL.gCons (g2 (gFld cO "spots_of" (gVar 0)) (gVar 4) (fun x y => ofO (ixD x.2 y.2))) (VL.gCons (gVar 1) (VL.gNil))) m_before))) (gVar 4) [some I, some lo, o2, some (ksD A), none] (A.map fun p => sh (.int p.1)) = .ok ((A.filter (okLo lo)).map fun p => ((.T, .int p.1) : FD)) := compL_fil fun p hp => ⟨[.int p.1], rfl, by
      have e0 : setsD [some I, some lo, o2, some (ksD A), none] [4] [D.int p.1] = [some I, some lo, o2, some (ksD A), some (.int p.1)] := rfl
      have hb := before_ok (h.td p (hA p hp)) hlo
      rw [e0]
      simp only [gNotT, gTest, gCall, VL.gCons, VL.gNil, g2, gFld, gVar, List.getElem?_cons_zero, List.getElem?_cons_succ, Res.bind_ok, sh_2, hF, ixD, keyOf, Option.bind_some, spt_look h (hA p hp), Option.map_some, ofO_some, hb, toB, okLo, hn, Bool.false_or], rfl⟩
  unfold gComp
  simp only [gItL, gVar, List.getElem?_cons_zero, List.getElem?_cons_succ, Res.bind_ok, sh_2, ksD, itemsL, List.map_map]
  rw [if_pos (by rw [List.length_map]; exact Nat.le_trans hl (by decide))]
  show (compL _ _ _ _ [some I, some lo, o2, some (ksD A), none] (A.map fun p => sh (.int p.1))).bind _ = _
  rw [e4]
  exact congrArg Res.ok mkL_T
theorem comp_hi (h : Es L) {hi : D} (hhi : TD 20 5 hi) (hn : isN hi = false) {o1 : Option D} {A : List Ent} (hA : ∀ p ∈ A, p ∈ L) (hl : A.length ≤ 20) :
    gComp [4] [4] (gItL (gVar 3)) t1 (gNotT (gTest (gCall (VL.gCons (gVar 2) (VL.gCons (g2 (gFld cO "spots_of" (gVar 0)) (gVar 4) (fun x y => ofO (ixD x.2 y.2))) (VL.gNil))) m_before))) (gVar 4) [some (.ins o cO (Fld W (spt L) N)), o1, some hi, some (ksD A), none] = .ok (.T, ksD (A.filter (okHi hi))) := by
  obtain ⟨I, hI⟩ : ∃ I, I = D.ins o cO (Fld W (spt L) N) := ⟨_, rfl⟩
  have hF : fldD cO "spots_of" I = .ok (sh (.dct (spt L))) := by rw [hI]; unfold fldD; simp only [if_true, lk_s]
  rw [← hI]
  have e4 : compL t1 [4] (gNotT (gTest (gCall (VL.gCons (gVar 2) (VL.gCons (g2 (gFld cO "spots_of" (gVar 0)) (gVar 4) (fun x y => ofO (ixD x.2 y.2))) (VL.gNil))) m_before))) (gVar 4) [some I, o1, some hi, some (ksD A), none] (A.map fun p => sh (.int p.1)) = .ok ((A.filter (okHi hi)).map fun p => ((.T, .int p.1) : FD)) := compL_fil fun p hp => ⟨[.int p.1], rfl, by
      have e0 : setsD [some I, o1, some hi, some (ksD A), none] [4] [D.int p.1] = [some I, o1, some hi, some (ksD A), some (.int p.1)] := rfl
      have hb := before_ok hhi (h.td p (hA p hp))
      rw [e0]
      simp only [gNotT, gTest, gCall, VL.gCons, VL.gNil, g2, gFld, gVar, List.getElem?_cons_zero, List.getElem?_cons_succ, Res.bind_ok, sh_2, hF, ixD, keyOf, Option.bind_some, spt_look h (hA p hp), Option.map_some, ofO_some, hb, toB, okHi, hn, Bool.false_or], rfl⟩
  unfold gComp
  simp only [gItL, gVar, List.getElem?_cons_zero, List.getElem?_cons_succ, Res.bind_ok, sh_2, ksD, itemsL, List.map_map]
  rw [if_pos (by rw [List.length_map]; exact Nat.le_trans hl (by decide))]
  show (compL _ _ _ _ [some I, o1, some hi, some (ksD A), none] (A.map fun p => sh (.int p.1))).bind _ = _
  rw [e4]
  exact congrArg Res.ok mkL_T
theorem between_ok (h : Es L) {lo hi : D} (hlo : TD 20 5 lo) (hhi : TD 20 5 hi) : m_between cO [.ins o cO (Fld W (spt L) N), lo, hi] = .ok (.T, ksD (btw lo hi (srt L))) := by
  obtain ⟨I, hI⟩ : ∃ I, I = D.ins o cO (Fld W (spt L) N) := ⟨_, rfl⟩
  have hsI : sh I = (.S, I) := by rw [hI]; rfl
  have hk : m_keys cO [I] = .ok (.T, ksD (srt L)) := by rw [hI]; exact keys_ok h
  obtain ⟨f1, hf1⟩ : ∃ f, sh lo = (f, lo) := ⟨_, rfl⟩
  obtain ⟨f2, hf2⟩ : ∃ f, sh hi = (f, hi) := ⟨_, rfl⟩
  have hent : enter 5 [I, lo, hi] = [some (.S, I), some (f1, lo), some (f2, hi), none, none] := by
    show [some (sh I), some (sh lo), some (sh hi)] ++ _ = _; rw [hsI, hf1, hf2]; rfl
  have e1 : gSet 3 [0] (gMethV cO "keys_in_order" (gVar 0) VL.gNil (fun ds => m_keys cO (ds ++ List.replicate 0 D.non))) [some (.S, I), some (f1, lo), some (f2, hi), none, none] = .nx [some (.S, I), some (f1, lo), some (f2, hi), some (.T, ksD (srt L)), none] := by
    refine q_set (x := (.T, ksD (srt L))) ?_ rfl
    have hv : (viewF [0] 0 [some (.S, I), some (f1, lo), some (f2, hi), none, none])[0]? = some (some I) := by simp [viewF]
    unfold gMethV gVar
    rw [hv]
    simp only [Res.bind_ok, sh_2]
    rw [hI]
    simp only
    rw [if_pos ⟨trivial, lk_keys⟩]
    show (noX (m_keys cO [.ins o cO (Fld W (spt L) N)])) = _
    rw [← hI, hk]; rfl
  have e2 : gIfS [1] (gTest (gNotN (gVar 1))) (gSet 3 [0, 1, 3] (gComp [4] [4] (gItL (gVar 3)) t1 (gNotT (gTest (gCall (VL.gCons (g2 (gFld cO "spots_of" (gVar 0)) (gVar 4) (fun x y => ofO (ixD x.2 y.2))) (VL.gCons (gVar 1) (VL.gNil))) m_before))) (gVar 4))) (gPass) [some (.S, I), some (f1, lo), some (f2, hi), some (.T, ksD (srt L)), none] = .nx [some (.S, I), some (f1, lo), some (f2, hi), some (.T, ksD ((srt L).filter (okLo lo))), none] := by
    have hv : (viewF [1] 0 [some (.S, I), some (f1, lo), some (f2, hi), some (.T, ksD (srt L)), none])[1]? = some (some lo) := by simp [viewF]
    have ht : gTest (gNotN (gVar 1)) (viewF [1] 0 [some (.S, I), some (f1, lo), some (f2, hi), some (.T, ksD (srt L)), none]) = .ok (!isN lo) := by
      unfold gTest gNotN gVar
      rw [hv]; simp only [Res.bind_ok, sh_2, toB]
    cases hn : isN lo with
    | true =>
      rw [hn] at ht
      refine q_iff ht ?_
      rw [fil_yes fun p => by unfold okLo; rw [hn]; rfl]; rfl
    | false =>
      rw [hn] at ht
      refine q_ift ht (q_set (x := (.T, ksD ((srt L).filter (okLo lo)))) ?_ rfl)
      have v : viewF [0, 1, 3] 0 [some (.S, I), some (f1, lo), some (f2, hi), some (.T, ksD (srt L)), none] = [some I, some lo, if f2 = .S then some hi else none, some (ksD (srt L)), none] := by simp [viewF]
      rw [v, hI]
      exact comp_lo h hlo hn (fun p hp => srt_mem.mp hp) (by rw [srt_len]; exact h.ln)
  have e3 : gIfS [2] (gTest (gNotN (gVar 2))) (gSet 3 [0, 2, 3] (gComp [4] [4] (gItL (gVar 3)) t1 (gNotT (gTest (gCall (VL.gCons (gVar 2) (VL.gCons (g2 (gFld cO "spots_of" (gVar 0)) (gVar 4) (fun x y => ofO (ixD x.2 y.2))) (VL.gNil))) m_before))) (gVar 4))) (gPass) [some (.S, I), some (f1, lo), some (f2, hi), some (.T, ksD ((srt L).filter (okLo lo))), none] = .nx [some (.S, I), some (f1, lo), some (f2, hi), some (.T, ksD (btw lo hi (srt L))), none] := by
    have hv : (viewF [2] 0 [some (.S, I), some (f1, lo), some (f2, hi), some (.T, ksD ((srt L).filter (okLo lo))), none])[2]? = some (some hi) := by simp [viewF]
    have ht : gTest (gNotN (gVar 2)) (viewF [2] 0 [some (.S, I), some (f1, lo), some (f2, hi), some (.T, ksD ((srt L).filter (okLo lo))), none]) = .ok (!isN hi) := by
      unfold gTest gNotN gVar
      rw [hv]; simp only [Res.bind_ok, sh_2, toB]
    unfold btw
    cases hn : isN hi with
    | true =>
      rw [hn] at ht
      refine q_iff ht ?_
      rw [fil_yes (f := okHi hi) fun p => by unfold okHi; rw [hn]; rfl]; rfl
    | false =>
      rw [hn] at ht
      refine q_ift ht (q_set (x := (.T, ksD (((srt L).filter (okLo lo)).filter (okHi hi)))) ?_ rfl)
      have v : viewF [0, 2, 3] 0 [some (.S, I), some (f1, lo), some (f2, hi), some (.T, ksD ((srt L).filter (okLo lo))), none] = [some I, if f1 = .S then some lo else none, some hi, some (ksD ((srt L).filter (okLo lo))), none] := by simp [viewF]
      rw [v, hI]
      exact comp_hi h hhi hn (fun p hp => srt_mem.mp (List.mem_filter.mp hp).1) (Nat.le_trans (List.length_filter_le _ _) (by rw [srt_len]; exact h.ln))
  unfold m_between g_o_between
  rw [← hI]
  refine run_of (o := .rt (.T, ksD (btw lo hi (srt L)))) (q_seq (ρ1 := [some (.S, I), some (f1, lo), some (f2, hi), some (.T, ksD (srt L)), none]) (by rw [hent]; exact e1) (q_seq e2 (q_seq e3 ?_))) rfl
  rfl
end
end G
end

section
set_option Elab.async false
set_option maxRecDepth 100000
set_option linter.all false
set_option maxHeartbeats 4000000
namespace G
open PySem PySem.Spec
open PyProof.Rows hiding intD
open L2 hiding gCons gNil gLst
open VL
/-! the rows that are due -/
theorem led_ok2 {b n : Nat} {d : D} {ps : List D} (h : TD b n d) (hp : ∀ p ∈ ps, Stp p) : ∃ fl, m_led [d, .lst ps] = .ok (fl, .lst [.bl (walk d ps).isSome, (walk d ps).getD .non]) := by
  have hL := led_loop (l := ps) (ps := ps) (d := d) (x := none) h hp
  obtain ⟨f, hf⟩ : ∃ f, sh d = (f, d) := ⟨_, rfl⟩
  unfold m_led g_law_led
  cases hw : walk d ps with
  | none =>
    refine ⟨.T, run_of (q_rt (q_for (xs := ps.map sh) ?_ ?_ (hL.2 hw))) rfl⟩
    · simp [enter, gItL, gVar, viewF, sh_lst, itemsL]
    · simp [enter, leakF, sh_lst]; rfl
  | some e =>
    obtain ⟨x', e1⟩ := hL.1 e hw
    obtain ⟨f2, hf2⟩ : ∃ f, sh e = (f, e) := ⟨_, rfl⟩
    refine ⟨_, run_of (q_seq (q_for (xs := ps.map sh) ?_ ?_ e1) (q_ret (x := mkL [((.T, .bl true) : FD), sh e]) ?_)) rfl⟩
    · simp [enter, gItL, gVar, viewF, sh_lst, itemsL]
    · simp [enter, leakF, sh_lst]; rfl
    · simp [hf2, gLst, lCons, lNil, gCon, gVar, viewF, chk, le2]
def posE (e : D) : List Ent → Nat
  | [] => 0
  | a :: A => if cmpN 6 a.2 e ≤ 0 then posE e A + 1 else 0
def insE (p : Ent) : List Ent → List Ent
  | [] => [p]
  | a :: A => if cmpN 6 a.2 p.2 ≤ 0 then a :: insE p A else p :: a :: A
theorem insE_eq (p : Ent) : ∀ A : List Ent, A.take (posE p.2 A) ++ [p] ++ A.drop (posE p.2 A) = insE p A
  | [] => rfl
  | a :: A => by
    unfold posE insE
    split
    · rw [List.take_succ_cons, List.drop_succ_cons, List.cons_append, List.cons_append, insE_eq p A]
    · rfl
theorem insE_perm (p : Ent) : ∀ A : List Ent, (insE p A).Perm (A ++ [p])
  | [] => List.Perm.refl _
  | a :: A => by
    unfold insE
    split
    · exact (insE_perm p A).cons a
    · exact (List.perm_append_comm (l₁ := [p]) (l₂ := a :: A))
theorem posE_le (e : D) : ∀ A : List Ent, posE e A ≤ A.length
  | [] => Nat.le_refl _
  | a :: A => by
    unfold posE
    split
    · exact Nat.succ_le_succ (posE_le e A)
    · exact Nat.zero_le _
theorem insE_pw {p : Ent} : ∀ {A : List Ent}, A.Pairwise (fun a b => cE a b ≤ 0) → (∀ a ∈ A, a.1 < p.1) → (insE p A).Pairwise fun a b => cE a b ≤ 0
  | [], _, _ => List.pairwise_singleton _ _
  | a :: A, h, hk => by
    rw [List.pairwise_cons] at h
    have ih := insE_pw h.2 fun x hx => hk x (List.mem_cons_of_mem _ hx)
    unfold insE
    split
    · rename_i hc
      rw [List.pairwise_cons]
      refine ⟨fun x hx => ?_, ih⟩
      rcases List.mem_append.mp ((insE_perm p A).mem_iff.mp hx) with hx | hx
      · exact h.1 x hx
      · rw [List.mem_singleton.mp hx, cE_def]
        have := hk a List.mem_cons_self
        split
        · unfold sg; rw [if_pos this]; omega
        · exact hc
    · rename_i hc
      have hpa : cE p a ≤ 0 := by
        have := (cmpN_ord 6).asym a.2 p.2
        rw [cE_def, if_neg (by omega)]
        omega
      rw [List.pairwise_cons]
      refine ⟨fun x hx => ?_, List.pairwise_cons.mpr h⟩
      rcases List.mem_cons.mp hx with rfl | hx
      · exact hpa
      · exact cE_ord.tr p a x hpa (h.1 x hx)
def rowL (p : Ent) : D := .lst [p.2, .int p.1]
abbrev c_while : GT := gAndT (gTest (g2 (gVar 4) (gCon (.int 0)) (fun x y => ofO (ixD x.2 y.2)))) (gAndT (gTest (g2 (gVar 5) (gCall (VL.gCons (gVar 2) (VL.gNil)) (fun ds => ofO (lenD ds))) (fun x y => ofO ((fB ltD) x.2 y.2)))) (gTest (g2 (gCall (VL.gCons (g2 (g2 (gVar 2) (gVar 5) (fun x y => ofO (ixD x.2 y.2))) (gCon (.int 0)) (fun x y => ofO (ixD x.2 y.2))) (VL.gCons (g2 (gVar 4) (gCon (.int 1)) (fun x y => ofO (ixD x.2 y.2))) (VL.gNil))) (m_compare 24)) (gCon (.int 1)) (fun x y => ofO ((fB ltD) x.2 y.2)))))
abbrev b_while : GS := gSet 5 [5] (g2 (gVar 5) (gCon (.int 1)) (fun x y => ofO (addD x.2 y.2)))
abbrev b_rdue : GS := gSeq (gSet 4 [0, 1, 3] (gCall (VL.gCons (g2 (gVar 0) (gVar 3) (fun x y => ofO (ixD x.2 y.2))) (VL.gCons (gVar 1) (VL.gNil))) m_led)) (gSeq (gSet 5 [] (gCon (.int 0))) (gSeq (whL [2, 4, 5] c_while b_while 1000) (gIfS [4] (gTest (g2 (gVar 4) (gCon (.int 0)) (fun x y => ofO (ixD x.2 y.2)))) (gIns 2 [3, 4, 5] (gVar 5) (VL.gLst (lCons (gCall (VL.gCons (g2 (gVar 4) (gCon (.int 1)) (fun x y => ofO (ixD x.2 y.2))) (VL.gNil)) (m_held 12)) (lCons (gVar 3) (lNil))))) (gPass))))
theorem rowL_get {A : List Ent} {i : Nat} (h : i < A.length) : ixD (.lst (A.map rowL)) (.int (i : Int)) = some (.S, rowL A[i]) := by
  have h' : i < (A.map rowL).length := by rw [List.length_map]; exact h
  show (atI _ _).map sh = _
  rw [atI_nat2 h', List.getElem_map]; rfl
theorem rowL_0 (p : Ent) : ixD (rowL p) (.int 0) = some (sh p.2) := rfl
theorem rowL_1 (p : Ent) : ixD (rowL p) (.int 1) = some (.T, .int p.1) := rfl
theorem pair_0 (b : Bool) (e : D) : ixD (.lst [.bl b, e]) (.int 0) = some (.T, .bl b) := rfl
theorem pair_1 (b : Bool) (e : D) : ixD (.lst [.bl b, e]) (.int 1) = some (sh e) := rfl
theorem lt_int (i j : Int) : (fB ltD) (.int i) (.int j) = some (.T, .bl (decide (i < j))) := rfl
theorem len_lst (xs : List D) : lenD [.lst xs] = some (.T, .int xs.length) := rfl
section
variable {r p0 : D} {A : List Ent} {k : Int} {fp : Fl} {e : D}
theorem vw_while {R : D} {pr : D} {i : Int} : viewF [2, 4, 5] 0 [some (.S, r), some (.S, p0), some (.T, R), some (.T, .int k), some (fp, pr), some (.T, .int i)] = [some r, some p0, some R, none, some pr, some (.int i)] := by
  simp [viewF]
theorem c_no {R : D} {i : Int} : c_while [some r, some p0, some R, none, some (.lst [.bl false, e]), some (.int i)] = .ok false := by
  simp only [gAndT, gTest, g2, gVar, gCon, List.getElem?_cons_zero, List.getElem?_cons_succ, Res.bind_ok, sh_2, sh_int, pair_0, ofO_some, toB]
  rfl
theorem c_len {R : D} {xs : List D} (hR : R = .lst xs) {i : Int} (h : ¬ i < xs.length) : c_while [some r, some p0, some R, none, some (.lst [.bl true, e]), some (.int i)] = .ok false := by
  subst hR
  simp only [gAndT, gTest, g2, gVar, gCon, gCall, VL.gCons, VL.gNil, List.getElem?_cons_zero, List.getElem?_cons_succ, Res.bind_ok, sh_2, sh_int, pair_0, ofO_some, toB, if_true, len_lst, lt_int, decide_eq_false h]
  rfl
theorem c_cmp {xs : List D} {i : Int} {a : Ent} (h : i < xs.length) (hx : ixD (.lst xs) (.int i) = some (.S, rowL a)) (ha : TD 20 5 a.2) (he : TD 20 5 e) : c_while [some r, some p0, some (.lst xs), none, some (.lst [.bl true, e]), some (.int i)] = .ok (decide (cmpN 6 a.2 e < 1)) := by
  have hc := compare_gen (b := 20) (by decide) (m := 24) ha he (by decide)
  have hl : decide (i < (xs.length : Int)) = true := decide_eq_true h
  simp only [gAndT, gTest, g2, gVar, gCon, gCall, VL.gCons, VL.gNil, List.getElem?_cons_zero, List.getElem?_cons_succ, Res.bind_ok, sh_2, sh_int, pair_0, pair_1, ofO_some, toB, if_true, len_lst, lt_int, hl, hx, rowL_0, hc]
theorem wh_loop (hA : ∀ a ∈ A, TD 20 5 a.2) (he : TD 20 5 e) : ∀ (B : List Ent) (i n : Nat), B = A.drop i → posE e B < n →
    whL [2, 4, 5] c_while b_while n [some (.S, r), some (.S, p0), some (.T, .lst (A.map rowL)), some (.T, .int k), some (fp, .lst [.bl true, e]), some (.T, .int (i : Int))] =
      .nx [some (.S, r), some (.S, p0), some (.T, .lst (A.map rowL)), some (.T, .int k), some (fp, .lst [.bl true, e]), some (.T, .int ((i + posE e B : Nat) : Int))]
  | [], i, 0, _, h => absurd h (Nat.not_lt_zero _)
  | [], i, n + 1, hB, h => by
    have hi : A.length ≤ i := List.drop_eq_nil_iff.mp hB.symm
    unfold whL
    rw [vw_while, c_len rfl (by rw [List.length_map]; omega)]
    rfl
  | a :: B, i, 0, _, h => absurd h (Nat.not_lt_zero _)
  | a :: B, i, n + 1, hB, h => by
    have hi : i < A.length := by
      rcases Nat.lt_or_ge i A.length with h | h
      · exact h
      · rw [List.drop_eq_nil_of_le h] at hB; cases hB
    rw [List.drop_eq_getElem_cons hi] at hB
    have ha : a = A[i] := (List.cons.inj hB).1
    have hB' : B = A.drop (i + 1) := (List.cons.inj hB).2
    have hx := rowL_get hi
    rw [← ha] at hx
    have htd : TD 20 5 a.2 := ha ▸ hA _ (List.getElem_mem hi)
    unfold whL
    rw [vw_while, c_cmp (by rw [List.length_map]; omega) hx htd he]
    unfold posE at h ⊢
    by_cases hc : cmpN 6 a.2 e ≤ 0
    · rw [if_pos hc] at h ⊢
      have hd : decide (cmpN 6 a.2 e < 1) = true := decide_eq_true (by omega)
      have hb : b_while [some (.S, r), some (.S, p0), some (.T, .lst (A.map rowL)), some (.T, .int k), some (fp, .lst [.bl true, e]), some (.T, .int (i : Int))] = .nx [some (.S, r), some (.S, p0), some (.T, .lst (A.map rowL)), some (.T, .int k), some (fp, .lst [.bl true, e]), some (.T, .int ((i + 1 : Nat) : Int))] := by
        refine q_set (x := (.T, .int ((i : Int) + 1))) ?_ rfl
        have v : ∃ o, viewF [5] 0 [some (.S, r), some (.S, p0), some (.T, .lst (A.map rowL)), some (.T, .int k), some (fp, .lst [.bl true, e]), some (.T, .int (i : Int))] = [some r, some p0, none, none, o, some (.int (i : Int))] := ⟨_, by simp [viewF]; rfl⟩
        obtain ⟨o, v⟩ := v
        rw [v]
        simp only [g2, gVar, gCon, List.getElem?_cons_zero, List.getElem?_cons_succ, Res.bind_ok, sh_2, sh_int, ad_i, ofO_some]
      rw [hd]
      simp only [viaE, if_true, hb]
      rw [wh_loop hA he B (i + 1) n hB' (by omega)]
      rw [show i + 1 + posE e B = i + (posE e B + 1) by omega]
    · rw [if_neg hc] at h ⊢
      have hd : decide (cmpN 6 a.2 e < 1) = false := decide_eq_false (by omega)
      rw [hd]
      rfl
end
end G
end

section
set_option Elab.async false
set_option maxRecDepth 100000
set_option linter.all false
set_option maxHeartbeats 4000000
namespace G
open PySem PySem.Spec
open PyProof.Rows hiding intD
open L2 hiding gCons gNil gLst
open VL
def stepA (k : Int) (o : Option D) (A : List Ent) : List Ent := match o with
  | some e => insE (k, e) A
  | none => A
theorem held_0 {e : D} (he : TD 20 5 e) : m_held 12 [e] = .ok (.T, e) := held_ok (b := 20) (by decide) he (by decide)
theorem rdue_body {recs : List (Key × D)} {ps : List D} {A : List Ent} {k : Int} {x4 x5 : Option FD} {d : D} (hk : look recs (.inl k) = some d) (hd : TD 20 5 d) (hp : ∀ p ∈ ps, Stp p) (hA : ∀ a ∈ A, TD 20 5 a.2) (hl : A.length < 900) :
    ∃ x4' x5', b_rdue [some (.S, .dct recs), some (.S, .lst ps), some (.T, .lst (A.map rowL)), some (.T, .int k), x4, x5] = .nx [some (.S, .dct recs), some (.S, .lst ps), some (.T, .lst ((stepA k (walk d ps) A).map rowL)), some (.T, .int k), x4', x5'] := by
  obtain ⟨fl, hled⟩ := led_ok2 hd hp
  have e1 : gSet 4 [0, 1, 3] (gCall (VL.gCons (g2 (gVar 0) (gVar 3) (fun x y => ofO (ixD x.2 y.2))) (VL.gCons (gVar 1) (VL.gNil))) m_led) [some (.S, .dct recs), some (.S, .lst ps), some (.T, .lst (A.map rowL)), some (.T, .int k), x4, x5] = .nx [some (.S, .dct recs), some (.S, .lst ps), some (.T, .lst (A.map rowL)), some (.T, .int k), some (fl, .lst [.bl (walk d ps).isSome, (walk d ps).getD .non]), x5] := by
    have v : ∃ o4 o5, viewF [0, 1, 3] 0 [some (.S, .dct recs), some (.S, .lst ps), some (.T, .lst (A.map rowL)), some (.T, .int k), x4, x5] = [some (.dct recs), some (.lst ps), none, some (.int k), o4, o5] := by
      rcases x4 with _ | ⟨f4, d4⟩ <;> rcases x5 with _ | ⟨f5, d5⟩ <;> exact ⟨_, _, rfl⟩
    obtain ⟨o4, o5, v⟩ := v
    refine q_set (x := (fl, .lst [.bl (walk d ps).isSome, (walk d ps).getD .non])) ?_ ?_
    · rw [v]
      simp only [gCall, VL.gCons, VL.gNil, g2, gVar, List.getElem?_cons_zero, List.getElem?_cons_succ, Res.bind_ok, sh_2, ixD, keyOf, Option.bind_some, hk, Option.map_some, ofO_some, hled]
    · rcases x4 with _ | ⟨f4, d4⟩ <;> rcases x5 with _ | ⟨f5, d5⟩ <;> cases fl <;> simp [putV, leakF, sh_lst, sh_dct, sh_int]
  have e2 : gSet 5 [] (gCon (.int 0)) [some (.S, .dct recs), some (.S, .lst ps), some (.T, .lst (A.map rowL)), some (.T, .int k), some (fl, .lst [.bl (walk d ps).isSome, (walk d ps).getD .non]), x5] = .nx [some (.S, .dct recs), some (.S, .lst ps), some (.T, .lst (A.map rowL)), some (.T, .int k), some (fl, .lst [.bl (walk d ps).isSome, (walk d ps).getD .non]), some (.T, .int ((0 : Nat) : Int))] := q_set (x := (.T, .int 0)) rfl rfl
  cases hw : walk d ps with
  | none =>
    rw [hw] at e1 e2
    refine ⟨some (fl, .lst [.bl false, .non]), some (.T, .int ((0 : Nat) : Int)), q_seq e1 (q_seq e2 (q_seq (ρ1 := [some (.S, .dct recs), some (.S, .lst ps), some (.T, .lst (A.map rowL)), some (.T, .int k), some (fl, .lst [.bl false, .non]), some (.T, .int ((0 : Nat) : Int))]) ?_ (q_iff ?_ rfl)))⟩
    · show whL _ _ _ (999 + 1) _ = _
      unfold whL
      rw [vw_while]
      show viaE _ (c_while [some (.dct recs), some (.lst ps), some (.lst (A.map rowL)), none, some (.lst [.bl false, .non]), some (.int ((0 : Nat) : Int))]) _ _ = _
      rw [c_no]; rfl
    · have hv : (viewF [4] 0 [some (.S, .dct recs), some (.S, .lst ps), some (.T, .lst (A.map rowL)), some (.T, .int k), some (fl, .lst [.bl false, .non]), some (.T, .int ((0 : Nat) : Int))])[4]? = some (some (.lst [.bl false, .non])) := by simp [viewF]
      unfold gTest g2 gVar
      rw [hv]
      simp only [gCon, Res.bind_ok, sh_2, pair_0, ofO_some, toB]
  | some e =>
    rw [hw] at e1 e2
    have he : TD 20 5 e := walk_td hd hw
    have hpl := posE_le e A
    have ew := wh_loop (r := .dct recs) (p0 := .lst ps) (k := k) (fp := fl) hA he A 0 1000 rfl (by omega)
    rw [Nat.zero_add] at ew
    refine ⟨some (fl, .lst [.bl true, e]), some (.T, .int ((posE e A : Nat) : Int)), q_seq e1 (q_seq e2 (q_seq (ρ1 := [some (.S, .dct recs), some (.S, .lst ps), some (.T, .lst (A.map rowL)), some (.T, .int k), some (fl, .lst [.bl true, e]), some (.T, .int ((posE e A : Nat) : Int))]) ew (q_ift ?_ ?_)))⟩
    · have hv : (viewF [4] 0 [some (.S, .dct recs), some (.S, .lst ps), some (.T, .lst (A.map rowL)), some (.T, .int k), some (fl, .lst [.bl true, e]), some (.T, .int ((posE e A : Nat) : Int))])[4]? = some (some (.lst [.bl true, e])) := by simp [viewF]
      unfold gTest g2 gVar
      rw [hv]
      simp only [gCon, Res.bind_ok, sh_2, pair_0, ofO_some, toB]
    · have v : viewF [3, 4, 5] 0 [some (.S, .dct recs), some (.S, .lst ps), some (.T, .lst (A.map rowL)), some (.T, .int k), some (fl, .lst [.bl true, e]), some (.T, .int ((posE e A : Nat) : Int))] = [some (.dct recs), some (.lst ps), none, some (.int k), some (.lst [.bl true, e]), some (.int ((posE e A : Nat) : Int))] := by simp [viewF]
      have hg : gVar 5 [some (.dct recs), some (.lst ps), none, some (.int k), some (.lst [.bl true, e]), some (.int ((posE e A : Nat) : Int))] = .ok (.T, .int ((posE e A : Nat) : Int)) := rfl
      have hy : VL.gLst (lCons (gCall (VL.gCons (g2 (gVar 4) (gCon (.int 1)) (fun x y => ofO (ixD x.2 y.2))) (VL.gNil)) (m_held 12)) (lCons (gVar 3) (lNil))) [some (.dct recs), some (.lst ps), none, some (.int k), some (.lst [.bl true, e]), some (.int ((posE e A : Nat) : Int))] = .ok (.T, rowL (k, e)) := by
        simp only [VL.gLst, lCons, lNil, gCall, VL.gCons, VL.gNil, g2, gVar, gCon, List.getElem?_cons_zero, List.getElem?_cons_succ, Res.bind_ok, sh_2, pair_1, ofO_some, held_0 he, sh_int, chk]
        rfl
      have hz : (A.map rowL).length < sizeLine := by rw [List.length_map]; exact Nat.lt_of_lt_of_le hl (by decide)
      have h63 : ∀ i : Int, i < 900 → i < 2 ^ 63 := fun i h => by omega
      unfold gIns
      simp only [List.getElem?_cons_zero, List.getElem?_cons_succ, v, hg, hy, viaE]
      rw [if_pos ⟨trivial, hz, by omega, h63 _ (by omega)⟩]
      rw [Int.toNat_natCast, ← List.map_take, ← List.map_drop, show [rowL (k, e)] = [(k, e)].map rowL from rfl, ← List.map_append, ← List.map_append]
      have := insE_eq (k, e) A
      show Fo.nx [_, _, some (.T, .lst ((A.take (posE e A) ++ [(k, e)] ++ A.drop (posE e A)).map rowL)), _, _, _] = _
      rw [show A.take (posE e A) ++ [(k, e)] ++ A.drop (posE e A) = insE (k, e) A from this]
      rfl
end G
end

section
set_option Elab.async false
set_option maxRecDepth 100000
set_option linter.all false
set_option maxHeartbeats 4000000
namespace G
open PySem PySem.Spec
open PyProof.Rows hiding intD
open L2 hiding gCons gNil gLst
open VL
def spotOf (recs : List (Key × D)) (ps : List D) (k : Int) : Option D := (look recs (.inl k)).bind fun d => walk d ps
def entK (recs : List (Key × D)) (ps : List D) (ks : List Int) : List Ent := ks.filterMap fun k => (spotOf recs ps k).map fun e => (k, e)
theorem rdue_loop {recs : List (Key × D)} {ps : List D} (hp : ∀ p ∈ ps, Stp p) : ∀ (ks : List Int) (A : List Ent) (x3 x4 x5 : Option FD), (∀ k ∈ ks, ∃ d, look recs (.inl k) = some d ∧ TD 20 5 d) → (∀ a ∈ A, TD 20 5 a.2) → A.length + ks.length < 900 → A.Pairwise (fun a b => cE a b ≤ 0) → (∀ a ∈ A, ∀ k ∈ ks, a.1 < k) → ks.Pairwise (· < ·) →
    ∃ (A' : List Ent) (x3' x4' x5' : Option FD), forL t1 [3] b_rdue (ks.map fun k => sh (.int k)) [some (.S, .dct recs), some (.S, .lst ps), some (.T, .lst (A.map rowL)), x3, x4, x5] = .nx [some (.S, .dct recs), some (.S, .lst ps), some (.T, .lst (A'.map rowL)), x3', x4', x5'] ∧ A'.Perm (A ++ entK recs ps ks) ∧ A'.Pairwise fun a b => cE a b ≤ 0
  | [], A, x3, x4, x5, _, _, _, h, _, _ => ⟨A, x3, x4, x5, rfl, by unfold entK; rw [List.filterMap_nil, List.append_nil], h⟩
  | k :: ks, A, x3, x4, x5, hks, hA, hl, hpw, hlt, hks2 => by
    obtain ⟨d, hd, ht⟩ := hks k List.mem_cons_self
    rw [List.pairwise_cons] at hks2
    rw [List.length_cons] at hl
    obtain ⟨y4, y5, e⟩ := rdue_body (x4 := x4) (x5 := x5) hd ht hp hA (by omega)
    have hent : entK recs ps (k :: ks) = ((walk d ps).map fun e => (k, e)).toList ++ entK recs ps ks := by
      unfold entK
      rw [List.filterMap_cons]
      unfold spotOf
      rw [hd, Option.bind_some]
      cases walk d ps <;> rfl
    have hst : ∀ A' : List Ent, A' = stepA k (walk d ps) A → (A'.Perm (A ++ ((walk d ps).map fun e => (k, e)).toList) ∧ A'.Pairwise fun a b => cE a b ≤ 0) := by
      intro A' hA'
      subst hA'
      cases hw : walk d ps with
      | none =>
        show (A.Perm (A ++ []) ∧ _)
        rw [List.append_nil]
        exact ⟨List.Perm.refl _, hpw⟩
      | some e =>
        exact ⟨insE_perm (k, e) A, insE_pw (p := (k, e)) hpw fun a ha => hlt a ha k List.mem_cons_self⟩
    obtain ⟨hperm, hpw'⟩ := hst _ rfl
    have hmem : ∀ a ∈ stepA k (walk d ps) A, a ∈ A ∨ ∃ e, walk d ps = some e ∧ a = (k, e) := fun a ha => by
      rcases List.mem_append.mp (hperm.mem_iff.mp ha) with h | h
      · exact .inl h
      · right
        cases hw : walk d ps with
        | none => rw [hw] at h; cases h
        | some e => rw [hw] at h; exact ⟨e, rfl, List.mem_singleton.mp h⟩
    have hlen : (stepA k (walk d ps) A).length ≤ A.length + 1 := by
      rw [hperm.length_eq, List.length_append]
      cases walk d ps <;> simp
    obtain ⟨A', z3, z4, z5, e2, hp2, hpw2⟩ := rdue_loop hp ks (stepA k (walk d ps) A) (some (.T, .int k)) y4 y5 (fun k' hk' => hks k' (List.mem_cons_of_mem _ hk')) (fun a ha => by
      rcases hmem a ha with h | ⟨e, he, rfl⟩
      · exact hA a h
      · exact walk_td ht he) (by omega) hpw' (fun a ha k' hk' => by
      rcases hmem a ha with h | ⟨e, he, rfl⟩
      · exact hlt a h k' (List.mem_cons_of_mem _ hk')
      · exact hks2.1 k' hk') hks2.2
    refine ⟨A', z3, z4, z5, ?_, ?_, hpw2⟩
    · rw [List.map_cons, forL.eq_2]
      simp only [t1, sh_2, setsF, sh_int, List.set_cons_succ, List.set_cons_zero, e]
      exact e2
    · rw [hent, ← List.append_assoc]
      exact hp2.trans (hperm.append_right _)
theorem sortInt_lt {ks : List Int} (nd : ks.Nodup) : (sortInt ks).Pairwise (· < ·) := by
  have h1 : (sortInt ks).Pairwise (· ≤ ·) := (List.pairwise_mergeSort (le := leInt) (fun a b c h1 h2 => by
    unfold leInt at *; simp only [decide_eq_true_eq] at *; omega) (fun a b => by
    unfold leInt; simp only [Bool.or_eq_true, decide_eq_true_eq]; omega) ks).imp fun h => by simpa [leInt] using h
  have h2 : (sortInt ks).Nodup := (List.mergeSort_perm ks leInt).nodup_iff.mpr nd
  have h3 := List.pairwise_and_iff.mpr ⟨h1, h2⟩
  exact h3.imp fun ⟨a, b⟩ => by omega
structure KR (recs : List (Key × D)) (ks : List Int) : Prop where
  mp : recs.map (·.1) = ks.map Sum.inl
  nd : ks.Nodup
  ln : ks.length ≤ 10
  td : ∀ k ∈ ks, ∃ d, look recs (.inl k) = some d ∧ TD 20 5 d
theorem KR.of {recs : List (Key × D)} (h : Recs 10 recs) : ∃ ks, KR recs ks := by
  obtain ⟨h1, h2, ⟨ks, h3, h5⟩, h4⟩ := h
  have hl : ks.length = recs.length := by
    have := congrArg List.length h3
    simpa using this.symm
  refine ⟨ks, h3, ?_, by omega, fun k hk => ?_⟩
  · rw [h3] at h2
    unfold List.Nodup at h2 ⊢
    rw [List.pairwise_map] at h2
    exact h2.imp fun hne e => hne (by rw [e])
  · obtain ⟨v, hv, hm⟩ := look_key (kds := recs) (k := .inl k) (by rw [h3]; exact List.mem_map.mpr ⟨k, hk, rfl⟩)
    exact ⟨v, hv, h4 _ hm⟩
theorem entK_keys {recs : List (Key × D)} {ps : List D} : ∀ {ks : List Int}, ((entK recs ps ks).map (·.1)).Sublist ks
  | [] => List.Sublist.refl _
  | k :: ks => by
    unfold entK
    rw [List.filterMap_cons]
    cases h : (spotOf recs ps k).map fun e => (k, e) with
    | none => exact (entK_keys (ks := ks)).cons k
    | some x =>
      obtain ⟨e, _, rfl⟩ := Option.map_eq_some_iff.mp h
      exact (entK_keys (ks := ks)).cons_cons k
theorem entK_es {recs : List (Key × D)} {ps : List D} {ks : List Int} (h : KR recs ks) : Es (entK recs ps ks) := by
  refine ⟨(entK_keys (recs := recs) (ps := ps) (ks := ks)).nodup h.nd, fun p hp => ?_, ?_⟩
  · obtain ⟨k, hk, e⟩ := List.mem_filterMap.mp hp
    obtain ⟨x, hx, rfl⟩ := Option.map_eq_some_iff.mp e
    obtain ⟨d, hd, ht⟩ := h.td k hk
    unfold spotOf at hx
    rw [hd] at hx
    exact walk_td ht hx
  · have := (entK_keys (recs := recs) (ps := ps) (ks := ks)).length_le
    have := h.ln
    rw [List.length_map] at *
    omega
theorem rows_due_ok {recs : List (Key × D)} {ps : List D} {ks : List Int} (h : KR recs ks) (hp : ∀ p ∈ ps, Stp p) : m_rows_due [.dct recs, .lst ps] = .ok (.T, .lst ((srt (entK recs ps ks)).map rowL)) := by
  have hrl : recs.length = ks.length := by
    have := congrArg List.length h.mp
    simpa using this
  have hln := h.ln
  have hs := sortD_int h.mp (by omega)
  have hpm : (sortInt ks).Perm ks := List.mergeSort_perm ks leInt
  obtain ⟨A', z3, z4, z5, e, hperm, hpw⟩ := rdue_loop (recs := recs) hp (sortInt ks) [] none none none (fun k hk => h.td k (hpm.mem_iff.mp hk)) (fun a ha => nomatch ha) (by rw [hpm.length_eq]; simp only [List.length_nil]; omega) List.Pairwise.nil (fun a ha => nomatch ha) (sortInt_lt h.nd)
  rw [List.nil_append] at hperm
  have hperm2 : A'.Perm (entK recs ps ks) := hperm.trans (hpm.filterMap _)
  have hA : A' = srt (entK recs ps ks) := ord_uniq (hperm2.trans (srt_perm _).symm) hpw (srt_pw _) ((hperm2.map _).nodup_iff.mpr (entK_es h).nd)
  rw [← hA]
  unfold m_rows_due g_law_rows_due
  refine run_of (o := .rt (.T, .lst (A'.map rowL))) (q_seq (ρ1 := [some (.S, .dct recs), some (.S, .lst ps), some (.T, .lst []), none, none, none]) (q_set (x := (.T, .lst [])) rfl rfl) (q_seq (ρ1 := [some (.S, .dct recs), some (.S, .lst ps), some (.T, .lst (A'.map rowL)), z3, z4, z5]) (q_for (xs := (sortInt ks).map fun k => sh (.int k)) (ρ0 := [some (.S, .dct recs), some (.S, .lst ps), some (.T, .lst []), none, none, none]) ?_ ?_ e) rfl)) rfl
  · have v : viewF [0] 0 [some (.S, .dct recs), some (.S, .lst ps), some (.T, .lst []), none, none, none] = [some (.dct recs), some (.lst ps), none, none, none, none] := by simp [viewF]
    rw [v]
    simp only [gItL, gCall, VL.gCons, VL.gNil, gVar, List.getElem?_cons_zero, Res.bind_ok, sh_2, hs, ofO_some, itemsL, List.map_map]
    rfl
  · simp [leakF, sh_dct]
end G
end

section
set_option Elab.async false
set_option maxRecDepth 100000
set_option linter.all false
set_option maxHeartbeats 4000000
namespace G
open PySem PySem.Spec
open PyProof.Rows hiding intD
open L2 hiding gCons gNil gLst
open VL
theorem gt_int2 (i j : Int) : (fB gtD) (.int i) (.int j) = some (.T, .bl (decide (j < i))) := rfl
theorem ne_nil (xs : List D) : (fB fun a b => (eqN 32 a b).map (!·)) (.lst xs) (.lst []) = some (.T, .bl (!xs.isEmpty)) := by
  cases xs <;> rfl
theorem end_ok {ns : List Int} (hn : ns.length ≤ 1000) {k : Int} (h0 : 0 ≤ k) (h1 : k < 2 ^ 25) {A : List Ent} (hA : ∀ a ∈ A, TD 20 5 a.2) : ∃ fl d, m_end [.scr ns, .int k, .lst (A.map rowL)] = .ok (fl, d) ∧ TD 20 5 d := by
  obtain ⟨c, hc, c0, c1⟩ := cell_ok hn h0 (k := k) (by omega)
  obtain ⟨fs, ds, hs, hts⟩ := small_ok hn (k := k + 1) (by omega) (by omega)
  have e1 : gSet 3 [0, 1] (gCall (VL.gCons (gVar 0) (VL.gCons (gVar 1) (VL.gNil))) m_cell) (enter 4 [.scr ns, .int k, .lst (A.map rowL)]) = .nx [some (.S, .scr ns), some (.T, .int k), some (.S, .lst (A.map rowL)), some (.T, .int c)] := by
    refine q_set (x := (.T, .int c)) ?_ rfl
    show gCall _ _ [some (.scr ns), some (.int k), some (.lst (A.map rowL)), none] = _
    simp only [gCall, VL.gCons, VL.gNil, gVar, List.getElem?_cons_zero, List.getElem?_cons_succ, sh_int, sh_scr, Res.bind_ok, hc]
  have v : viewF [2, 3] 0 [some (.S, .scr ns), some (.T, .int k), some (.S, .lst (A.map rowL)), some (.T, .int c)] = [some (.scr ns), none, some (.lst (A.map rowL)), some (.int c)] := rfl
  have v2 : viewF [0, 1] 0 [some (.S, .scr ns), some (.T, .int k), some (.S, .lst (A.map rowL)), some (.T, .int c)] = [some (.scr ns), some (.int k), some (.lst (A.map rowL)), none] := rfl
  have ht : gAndT (gTest (g2 (g2 (gVar 3) (gCon (.int 3)) (fun x y => ofO (modD x.2 y.2))) (gCon (.int 0)) (fun x y => ofO ((fB gtD) x.2 y.2)))) (gTest (g2 (gVar 2) (VL.gLst (lNil)) (fun x y => ofO ((fB fun a b => (eqN 32 a b).map (!·)) x.2 y.2)))) [some (.scr ns), none, some (.lst (A.map rowL)), some (.int c)] = .ok (decide (0 < c % 3) && !(A.map rowL).isEmpty) := by
    have hl : VL.gLst lNil [some (.scr ns), none, some (.lst (A.map rowL)), some (.int c)] = .ok (.T, .lst []) := rfl
    simp only [gAndT, gTest, g2, gVar, gCon, hl, List.getElem?_cons_zero, List.getElem?_cons_succ, Res.bind_ok, sh_2, sh_int, md_3, gt_int2, ofO_some, toB, ne_nil]
    cases decide (0 < c % 3) <;> rfl
  unfold m_end g_law_end
  cases hb : (decide (0 < c % 3) && !(A.map rowL).isEmpty) with
  | false =>
    rw [hb] at ht
    refine ⟨fs, ds, run_of (q_seq e1 (q_seq (q_iff (by rw [v]; exact ht) rfl) (q_ret (x := (fs, ds)) ?_))) rfl, TD.mono (Nat.le_refl _) (by decide) hts⟩
    rw [v2]
    simp only [gCall, VL.gCons, VL.gNil, g2, gVar, gCon, List.getElem?_cons_zero, List.getElem?_cons_succ, Res.bind_ok, sh_2, sh_int, sh_scr, ad_i, ofO_some, hs]
  | true =>
    rw [hb] at ht
    have hne : A ≠ [] := by
      rintro rfl
      simp at hb
    obtain ⟨n, hn'⟩ : ∃ n : Nat, A.length = n + 1 := by
      cases A with
      | nil => exact absurd rfl hne
      | cons _ l => exact ⟨l.length, rfl⟩
    have hlen : ((A.map rowL).length : Int) = ((n + 1 : Nat) : Int) := by rw [List.length_map, hn']
    have hmod : ∀ (q m : Int), 0 < m → m.natAbs.log2 < 9000 → modD (.int q) (.int m) = some (.T, .int (q % m)) := fun q m h _ => md_of h
    have hm0 : 0 ≤ c / 3 % ((A.map rowL).length : Int) := by rw [hlen]; exact Int.emod_nonneg _ (by omega)
    have hm1 : c / 3 % ((A.map rowL).length : Int) < (A.map rowL).length := by
      have := Int.emod_lt_of_pos (c / 3) (b := ((A.map rowL).length : Int)) (by rw [hlen]; omega)
      exact this
    obtain ⟨j, hj⟩ := Int.eq_ofNat_of_zero_le hm0
    have hjl : j < A.length := by rw [hj, List.length_map] at hm1; omega
    have hix := rowL_get hjl
    have hmd : modD (.int (c / 3)) (.int ((A.map rowL).length : Int)) = some (.T, .int (j : Int)) := by
      rw [← hj]; exact md_of (by rw [hlen]; omega)
    refine ⟨.T, A[j].2, run_of (q_seq e1 (q_rt (q_ift (by rw [v]; exact ht) (q_ret (x := (.T, A[j].2)) ?_)))) rfl, hA _ (List.getElem_mem hjl)⟩
    rw [v]
    simp only [gCall, VL.gCons, VL.gNil, g2, gVar, gCon, List.getElem?_cons_zero, List.getElem?_cons_succ, Res.bind_ok, sh_2, sh_int, sh_scr, dv_3, ofO_some, len_lst, hmd, hix, rowL_0, held_0 (hA _ (List.getElem_mem hjl))]
end G
end

section
set_option Elab.async false
set_option maxRecDepth 100000
set_option linter.all false
set_option maxHeartbeats 4000000
namespace G
open PySem PySem.Spec
open PyProof.Rows hiding intD
open L2 hiding gCons gNil gLst
open VL
abbrev b_kdue : GS := gSeq (gSet 5 [1, 4] (gOrV (gIsN (gVar 1)) (g2 (gCall (VL.gCons (g2 (gVar 4) (gCon (.int 0)) (fun x y => ofO (ixD x.2 y.2))) (VL.gCons (gVar 1) (VL.gNil))) (m_compare 24)) (fun ρ => ((gCon (.int 1)) ρ).bind fun x => ofO (negD x.2)) (fun x y => ofO ((fB gtD) x.2 y.2))))) (gIfS [2, 4, 5] (gAndT (gTest (gVar 5)) (gOrT (gTest (gIsN (gVar 2))) (gTest (g2 (gCall (VL.gCons (g2 (gVar 4) (gCon (.int 0)) (fun x y => ofO (ixD x.2 y.2))) (VL.gCons (gVar 2) (VL.gNil))) (m_compare 24)) (gCon (.int 1)) (fun x y => ofO ((fB ltD) x.2 y.2)))))) (gApp 3 [4] (g2 (gVar 4) (gCon (.int 1)) (fun x y => ofO (ixD x.2 y.2)))) (gPass))
section
variable {lo hi : D} {f1 f2 : Fl} {r : D}
theorem kdue_body (hlo : TD 20 5 lo) (hhi : TD 20 5 hi) {acc : List Ent} {p : Ent} (ht : TD 20 5 p.2) (hl : acc.length < 900) {x5 : Option FD} :
    b_kdue [some (.S, r), some (f1, lo), some (f2, hi), some (.T, ksD acc), some (.S, rowL p), x5] = .nx [some (.S, r), some (f1, lo), some (f2, hi), some (.T, ksD (acc ++ btw lo hi [p])), some (.S, rowL p), some (.T, .bl (okLo lo p))] := by
  have hc1 := compare_gen (b := 20) (by decide) (m := 24) ht hlo (by decide)
  have hc2 := compare_gen (b := 20) (by decide) (m := 24) ht hhi (by decide)
  have e1 : gSet 5 [1, 4] (gOrV (gIsN (gVar 1)) (g2 (gCall (VL.gCons (g2 (gVar 4) (gCon (.int 0)) (fun x y => ofO (ixD x.2 y.2))) (VL.gCons (gVar 1) (VL.gNil))) (m_compare 24)) (fun ρ => ((gCon (.int 1)) ρ).bind fun x => ofO (negD x.2)) (fun x y => ofO ((fB gtD) x.2 y.2)))) [some (.S, r), some (f1, lo), some (f2, hi), some (.T, ksD acc), some (.S, rowL p), x5] = .nx [some (.S, r), some (f1, lo), some (f2, hi), some (.T, ksD acc), some (.S, rowL p), some (.T, .bl (okLo lo p))] := by
    have v : ∃ o2 o5, viewF [1, 4] 0 [some (.S, r), some (f1, lo), some (f2, hi), some (.T, ksD acc), some (.S, rowL p), x5] = [some r, some lo, o2, none, some (rowL p), o5] := by
      rcases x5 with _ | ⟨f5, d5⟩ <;> cases f1 <;> cases f2 <;> exact ⟨_, _, rfl⟩
    obtain ⟨o2, o5, v⟩ := v
    refine q_set (x := (.T, .bl (okLo lo p))) ?_ rfl
    rw [v]
    have hneg : negD (.int 1) = some (.T, .int (-1)) := rfl
    have hd : decide (-1 < cmpN 6 p.2 lo) = !decide (cmpN 6 p.2 lo < 0) := by
      rcases (cmpN_ord 6).rng p.2 lo with e | e | e <;> rw [e] <;> rfl
    unfold okLo
    cases hn : isN lo with
    | true => simp only [gOrV, gIsN, gVar, List.getElem?_cons_zero, List.getElem?_cons_succ, Res.bind_ok, sh_2, hn, toB, if_true, Bool.true_or]
    | false =>
      simp only [gOrV, gIsN, gVar, List.getElem?_cons_zero, List.getElem?_cons_succ, Res.bind_ok, sh_2, hn, toB, Bool.false_or]
      rw [if_neg (by decide)]
      simp only [g2, gCall, VL.gCons, VL.gNil, gVar, gCon, List.getElem?_cons_zero, List.getElem?_cons_succ, Res.bind_ok, sh_2, rowL_0, ofO_some, hc1, hneg, gt_int2, hd]
  have v : viewF [2, 4, 5] 0 [some (.S, r), some (f1, lo), some (f2, hi), some (.T, ksD acc), some (.S, rowL p), some (.T, .bl (okLo lo p))] = [some r, if f1 = .S then some lo else none, some hi, none, some (rowL p), some (.bl (okLo lo p))] := by simp [viewF]
  have ht2 : ∀ o1, gAndT (gTest (gVar 5)) (gOrT (gTest (gIsN (gVar 2))) (gTest (g2 (gCall (VL.gCons (g2 (gVar 4) (gCon (.int 0)) (fun x y => ofO (ixD x.2 y.2))) (VL.gCons (gVar 2) (VL.gNil))) (m_compare 24)) (gCon (.int 1)) (fun x y => ofO ((fB ltD) x.2 y.2))))) [some r, o1, some hi, none, some (rowL p), some (.bl (okLo lo p))] = .ok (okLo lo p && okHi hi p) := fun o1 => by
    have hd : decide (cmpN 6 p.2 hi < 1) = !decide (cmpN 6 hi p.2 < 0) := by
      rw [(cmpN_ord 6).asym p.2 hi]
      rcases (cmpN_ord 6).rng p.2 hi with e | e | e <;> rw [e] <;> rfl
    have h1 : gTest (gVar 5) [some r, o1, some hi, none, some (rowL p), some (.bl (okLo lo p))] = .ok (okLo lo p) := rfl
    unfold gAndT
    rw [h1, Res.bind_ok]
    cases okLo lo p with
    | false => rfl
    | true =>
      rw [if_pos rfl, Bool.true_and]
      unfold okHi
      cases hn : isN hi with
      | true => simp only [gOrT, gTest, gIsN, gVar, List.getElem?_cons_zero, List.getElem?_cons_succ, Res.bind_ok, sh_2, hn, toB, if_true, Bool.true_or]
      | false =>
        simp only [gOrT, gTest, gIsN, gVar, List.getElem?_cons_zero, List.getElem?_cons_succ, Res.bind_ok, sh_2, hn, toB, Bool.false_or]
        rw [if_neg (by decide)]
        simp only [g2, gCall, VL.gCons, VL.gNil, gVar, gCon, List.getElem?_cons_zero, List.getElem?_cons_succ, Res.bind_ok, sh_2, rowL_0, ofO_some, hc2, lt_int, toB, hd]
  refine q_seq e1 ?_
  have hb : btw lo hi [p] = if (okLo lo p && okHi hi p) = true then [p] else [] := by
    unfold btw
    cases h1 : okLo lo p <;> cases h2 : okHi hi p <;> simp [h1, h2]
  cases hc : (okLo lo p && okHi hi p) with
  | false =>
    refine q_iff (by rw [v, ht2, hc]) ?_
    rw [hb, hc, if_neg (by decide), List.append_nil]; rfl
  | true =>
    refine q_ift (by rw [v, ht2, hc]) ?_
    rw [hb, hc, if_pos rfl]
    have v4 : ∃ o1 o2 o5, viewF [4] 0 [some (.S, r), some (f1, lo), some (f2, hi), some (.T, ksD acc), some (.S, rowL p), some (.T, .bl (okLo lo p))] = [some r, o1, o2, none, some (rowL p), o5] := by cases f1 <;> cases f2 <;> exact ⟨_, _, _, rfl⟩
    obtain ⟨o1, o2, o5, v4⟩ := v4
    have hy : g2 (gVar 4) (gCon (.int 1)) (fun x y => ofO (ixD x.2 y.2)) [some r, o1, o2, none, some (rowL p), o5] = .ok (.T, .int p.1) := by
      simp only [g2, gVar, gCon, List.getElem?_cons_zero, List.getElem?_cons_succ, Res.bind_ok, sh_2, rowL_1, ofO_some]
    have hz : (acc.map fun p : Ent => D.int p.1).length < sizeLine := by rw [List.length_map]; exact Nat.lt_of_lt_of_le hl (by decide)
    unfold gApp
    simp only [List.getElem?_cons_zero, List.getElem?_cons_succ, ksD, v4, hy, viaE]
    rw [show viewF [4] 0 [some (.S, r), some (f1, lo), some (f2, hi), some (.T, .lst (acc.map fun p : Ent => D.int p.1)), some (.S, rowL p), some (.T, .bl (okLo lo p))] = [some r, o1, o2, none, some (rowL p), o5] from v4, hy]
    simp only
    rw [if_pos hz]
    unfold mutV
    rw [if_pos ⟨rfl, rfl⟩, List.map_append]
    rfl
theorem kdue_loop (hlo : TD 20 5 lo) (hhi : TD 20 5 hi) : ∀ (A acc : List Ent) (x4 x5 : Option FD), (∀ a ∈ A, TD 20 5 a.2) → acc.length + A.length < 900 →
    ∃ x4' x5', forL t1 [4] b_kdue (A.map fun p => sh (rowL p)) [some (.S, r), some (f1, lo), some (f2, hi), some (.T, ksD acc), x4, x5] = .nx [some (.S, r), some (f1, lo), some (f2, hi), some (.T, ksD (acc ++ btw lo hi A)), x4', x5']
  | [], acc, x4, x5, _, _ => ⟨x4, x5, by rw [show btw lo hi [] = [] from rfl, List.append_nil]; rfl⟩
  | p :: A, acc, x4, x5, hA, hl => by
    rw [List.length_cons] at hl
    have hb := kdue_body (r := r) (f1 := f1) (f2 := f2) hlo hhi (acc := acc) (p := p) (hA p List.mem_cons_self) (by omega) (x5 := x5)
    have hbl : (btw lo hi [p]).length ≤ 1 := by
      unfold btw
      exact Nat.le_trans (List.length_filter_le _ _) (List.length_filter_le _ _)
    obtain ⟨y4, y5, e⟩ := kdue_loop hlo hhi A (acc ++ btw lo hi [p]) (some (.S, rowL p)) (some (.T, .bl (okLo lo p))) (fun a ha => hA a (List.mem_cons_of_mem _ ha)) (by rw [List.length_append]; omega)
    refine ⟨y4, y5, ?_⟩
    have hsplit : acc ++ btw lo hi (p :: A) = acc ++ btw lo hi [p] ++ btw lo hi A := by
      rw [List.append_assoc]
      congr 1
      unfold btw
      rw [← List.filter_append, ← List.filter_append]; rfl
    rw [hsplit, ← e, List.map_cons, forL.eq_2]
    simp only [t1, sh_2, setsF, List.set_cons_succ, List.set_cons_zero]
    rw [show sh (rowL p) = (.S, rowL p) from rfl, hb]
end
theorem keys_due_ok {A : List Ent} {lo hi : D} (hA : ∀ a ∈ A, TD 20 5 a.2) (hl : A.length ≤ 20) (hlo : TD 20 5 lo) (hhi : TD 20 5 hi) : m_keys_due [.lst (A.map rowL), lo, hi] = .ok (.T, ksD (btw lo hi A)) := by
  obtain ⟨f1, hf1⟩ : ∃ f, sh lo = (f, lo) := ⟨_, rfl⟩
  obtain ⟨f2, hf2⟩ : ∃ f, sh hi = (f, hi) := ⟨_, rfl⟩
  have hent : enter 6 [.lst (A.map rowL), lo, hi] = [some (.S, .lst (A.map rowL)), some (f1, lo), some (f2, hi), none, none, none] := by
    show [some (sh _), some (sh lo), some (sh hi)] ++ _ = _; rw [hf1, hf2]; rfl
  obtain ⟨y4, y5, e⟩ := kdue_loop (r := .lst (A.map rowL)) (f1 := f1) (f2 := f2) hlo hhi A [] none none hA (by simp only [List.length_nil]; omega)
  unfold m_keys_due g_law_keys_due
  refine run_of (o := .rt (.T, ksD (btw lo hi A))) (q_seq (ρ1 := [some (.S, .lst (A.map rowL)), some (f1, lo), some (f2, hi), some (.T, ksD []), none, none]) (by rw [hent]; exact q_set (x := (.T, .lst [])) rfl rfl) (q_seq (q_for (xs := A.map fun p => sh (rowL p)) (ρ0 := [some (.S, .lst (A.map rowL)), some (f1, lo), some (f2, hi), some (.T, ksD []), none, none]) ?_ ?_ e) rfl)) rfl
  · have v : ∃ o1 o2, viewF [0] 0 [some (.S, .lst (A.map rowL)), some (f1, lo), some (f2, hi), some (.T, ksD []), none, none] = [some (.lst (A.map rowL)), o1, o2, none, none, none] := by cases f1 <;> cases f2 <;> exact ⟨_, _, rfl⟩
    obtain ⟨o1, o2, v⟩ := v
    rw [v]
    simp only [gItL, gVar, List.getElem?_cons_zero, Res.bind_ok, sh_2, itemsL, List.map_map]
    rfl
  · simp [leakF, sh_lst]
end G
end

section
set_option Elab.async false
set_option maxRecDepth 100000
set_option linter.all false
set_option maxHeartbeats 4000000
namespace G
open PySem PySem.Spec
open PyProof.Rows hiding intD
open L2 hiding gCons gNil gLst
open VL
/-! the order filled, and what is asked of it -/
def nwK (recs : List (Key × D)) (ps : List D) (ks : List Int) : List Int := ks.filter fun k => (spotOf recs ps k).isNone
theorem put_step {recs : List (Key × D)} {ps : List D} {done : List Int} {k : Int} {d : D} (hk : look recs (.inl k) = some d) : putF ps k d (spt (entK recs ps done), nwK recs ps done) = (spt (entK recs ps (done ++ [k])), nwK recs ps (done ++ [k])) := by
  have hs : spotOf recs ps k = walk d ps := by unfold spotOf; rw [hk]; rfl
  unfold putF entK nwK spt
  rw [List.filterMap_append, List.map_append, List.filter_append]
  cases hw : walk d ps with
  | none => rw [hw] at hs; simp [hs]
  | some e => rw [hw] at hs; simp [hs]
noncomputable abbrev b_put (cO : Addr) : GS := gMethS cO 3 "put" (R_put cO) [2, 4] (VL.gCons (gVar 4) (VL.gCons (g2 (gVar 2) (gVar 4) (fun x y => ofO (ixD x.2 y.2))) (VL.gNil)))
section
variable {cO : Addr} {recs : List (Key × D)} {ps : List D} {scr : D} {g1 : Fl}
abbrev ordD (cO : Addr) (recs : List (Key × D)) (ps : List D) (ks : List Int) : D := .ins none cO (Fld (.lst ps) (spt (entK recs ps ks)) ((nwK recs ps ks).map .int))
theorem entK_len {ks : List Int} : (entK recs ps ks).length ≤ ks.length := by
  have := (entK_keys (recs := recs) (ps := ps) (ks := ks)).length_le
  rwa [List.length_map] at this
theorem put_loop (hp : ∀ p ∈ ps, Stp p) (hpl : ps.length < 1000) : ∀ (ks done : List Int) (x4 : Option FD), (∀ k ∈ ks, ∃ d, look recs (.inl k) = some d ∧ TD 20 5 d) → (done ++ ks).Nodup → done.length + ks.length < 800 →
    ∃ x4', forL t1 [4] (b_put cO) (ks.map fun k => ((.T, .int k) : FD)) [some (.S, scr), some (g1, .lst ps), some (.S, .dct recs), some (.T, ordD cO recs ps done), x4, none, none, none, none, none] = .nx [some (.S, scr), some (g1, .lst ps), some (.S, .dct recs), some (.T, ordD cO recs ps (done ++ ks)), x4', none, none, none, none, none]
  | [], done, x4, _, _, _ => ⟨x4, by rw [List.append_nil]; rfl⟩
  | k :: ks, done, x4, hk, nd, hl => by
    obtain ⟨d, hd, ht⟩ := hk k List.mem_cons_self
    rw [List.length_cons] at hl
    have hkd : k ∉ done := fun h => by
      have := (List.nodup_append.mp nd).2.2 k h k List.mem_cons_self
      exact this rfl
    have h1 : Sum.inl k ∉ (spt (entK recs ps done)).map (·.1) := by
      rw [spt_keys]
      intro h
      obtain ⟨k', hk', e⟩ := List.mem_map.mp h
      cases e
      exact hkd ((entK_keys (recs := recs) (ps := ps) (ks := done)).subset hk')
    have h2 : k ∉ nwK recs ps done := fun h => hkd (List.mem_filter.mp h).1
    have hl1 : (spt (entK recs ps done)).length < 900 := by
      unfold spt; rw [List.length_map]
      have := entK_len (recs := recs) (ps := ps) (ks := done)
      omega
    have hl2 : (nwK recs ps done).length < 900 := by
      have := List.length_filter_le (fun k => (spotOf recs ps k).isNone) done
      unfold nwK; omega
    have hput := put_ok (cO := cO) ht hp hpl h1 h2 hl1 hl2
    rw [put_step hd] at hput
    have em : mOf (R_put cO) (Fld (.lst ps) (spt (entK recs ps done)) ((nwK recs ps done).map .int)) [.int k, d] = some (Fld (.lst ps) (spt (entK recs ps (done ++ [k]))) ((nwK recs ps (done ++ [k])).map .int)) := mOf_eq (n := 3) (g := g_o_put cO (R_cleared cO) m_has m_thing_at) hput
    have hb : b_put cO [some (.S, scr), some (g1, .lst ps), some (.S, .dct recs), some (.T, ordD cO recs ps done), some (.T, .int k), none, none, none, none, none] = .nx [some (.S, scr), some (g1, .lst ps), some (.S, .dct recs), some (.T, ordD cO recs ps (done ++ [k])), some (.T, .int k), none, none, none, none, none] := by
      have hg : ∀ o1, VL.gCons (gVar 4) (VL.gCons (g2 (gVar 2) (gVar 4) (fun x y => ofO (ixD x.2 y.2))) (VL.gNil)) [some scr, o1, some (.dct recs), none, some (.int k), none, none, none, none, none] = .ok [.int k, d] := fun o1 => by
        simp only [VL.gCons, VL.gNil, g2, gVar, List.getElem?_cons_zero, List.getElem?_cons_succ, Res.bind_ok, sh_2, ixD, keyOf, Option.bind_some, hd, Option.map_some, ofO_some]
      have v : viewF [2, 4] 0 [some (.S, scr), some (g1, .lst ps), some (.S, .dct recs), some (.T, ordD cO recs ps done), some (.T, .int k), none, none, none, none, none] = [some scr, if g1 = .S then some (.lst ps) else none, some (.dct recs), none, some (.int k), none, none, none, none, none] := by simp [viewF]
      unfold b_put gMethS
      simp only [List.getElem?_cons_zero, List.getElem?_cons_succ, v, hg, viaE, em]
      rw [if_pos ⟨trivial, lk_put, rfl⟩]
      simp [leakF, sh_dct, sh_int]
    obtain ⟨y4, e⟩ := put_loop hp hpl ks (done ++ [k]) (some (.T, .int k)) (fun k' h => hk k' (List.mem_cons_of_mem _ h)) (by rw [List.append_assoc]; exact nd) (by rw [List.length_append, List.length_singleton]; omega)
    refine ⟨y4, ?_⟩
    rw [show done ++ k :: ks = done ++ [k] ++ ks by rw [List.append_assoc]; rfl, ← e, List.map_cons, forL.eq_2]
    simp only [t1, setsF, sh_int, List.set_cons_succ, List.set_cons_zero]
    rw [hb]
theorem methV_of {mn : Str} {n j : Nat} {ga : List (Option D) → Res (List D)} {m : List D → Res FD} {ρv : List (Option D)} {o : Option Addr} {fs : List (Key × D)} {ds : List D} {x : FD} (h : ρv[j]? = some (some (.ins o cO fs))) (hl : look fs (.inr mn) = none) (hg : ga ρv = .ok ds) (hm : m (.ins o cO fs :: ds) = .ok x) : gMethV cO mn (gVar j) ga m ρv = .ok x := by
  unfold gMethV gVar
  rw [h]
  simp only [Res.bind_ok, sh_2]
  rw [if_pos ⟨trivial, hl⟩, hg, Res.bind_ok, hm]; rfl
theorem methK_of {mn : Str} {n j : Nat} {ga : List (Option D) → Res (List D)} {arr : List D → List D} {m : List D → Res FD} {ρv : List (Option D)} {o : Option Addr} {fs : List (Key × D)} {ds : List D} {x : FD} (h : ρv[j]? = some (some (.ins o cO fs))) (hl : look fs (.inr mn) = none) (hg : ga ρv = .ok ds) (hm : m (.ins o cO fs :: arr ds) = .ok x) : gMethK cO mn (gVar j) ga arr m ρv = .ok x := by
  unfold gMethK gVar
  rw [h]
  simp only [Res.bind_ok, sh_2]
  rw [if_pos ⟨trivial, hl⟩, hg, Res.bind_ok, hm]; rfl
end
theorem eq_ints {n : Nat} : ∀ {A : List Ent}, allO (eqN n) (A.map fun p => .int p.1) (A.map fun p => .int p.1) = some true
  | [] => rfl
  | p :: A => by
    have ih := eq_ints (n := n) (A := A)
    simp only [List.map_cons, allO, eqN_ii, ih, Option.bind_some, Option.map_some]
    simp
theorem eq_ks (A : List Ent) : eqN 32 (ksD A) (ksD A) = some true := by
  show (if (A.map fun p : Ent => D.int p.1).length = (A.map fun p : Ent => D.int p.1).length then allO (eqN 31) (A.map fun p : Ent => D.int p.1) (A.map fun p : Ent => D.int p.1) else some false) = _
  rw [if_pos rfl, eq_ints]
theorem ne_ks (A : List Ent) : (fB fun a b => (eqN 32 a b).map (!·)) (ksD A) (ksD A) = some (.T, .bl false) := by
  unfold fB; simp only [eq_ks]; rfl
theorem same_ks (A : List Ent) : (fB (eqN 32)) (ksD A) (ksD A) = some (.T, .bl true) := by
  unfold fB; simp only [eq_ks]; rfl
end G
end

section
set_option Elab.async false
set_option maxRecDepth 100000
set_option linter.all false
set_option maxHeartbeats 4000000
namespace G
open PySem PySem.Spec
open PyProof.Rows hiding intD
open L2 hiding gCons gNil gLst
open VL
section
variable {cO : Addr} {o : Option Addr} {W : D} {N : List D} {L : List Ent} {lo hi : D} {ρv : List (Option D)}
theorem arg1v {j : Nat} {d : D} (h : ρv[j]? = some (some d)) : VL.gCons (gVar j) VL.gNil ρv = .ok [d] := by
  unfold VL.gCons gVar; rw [h]; rfl
theorem arg2v {i j : Nat} {d e : D} (h : ρv[i]? = some (some d)) (h2 : ρv[j]? = some (some e)) : VL.gCons (gVar i) (VL.gCons (gVar j) VL.gNil) ρv = .ok [d, e] := by
  unfold VL.gCons gVar; rw [h, h2]; rfl
theorem arg3v {i j k : Nat} {d e f : D} (h : ρv[i]? = some (some d)) (h2 : ρv[j]? = some (some e)) (h3 : ρv[k]? = some (some f)) : VL.gCons (gVar i) (VL.gCons (gVar j) (VL.gCons (gVar k) VL.gNil)) ρv = .ok [d, e, f] := by
  unfold VL.gCons gVar; rw [h, h2, h3]; rfl
theorem argin {i j : Nat} {d e : D} (h : ρv[i]? = some (some d)) (h2 : ρv[j]? = some (some e)) : VL.gCons (gVar i) (VL.gCons (gVar j) (VL.gCons (gCon .non) VL.gNil)) ρv = .ok [d, e, .non] := by
  unfold VL.gCons gVar; rw [h, h2]; rfl
theorem argni {i j : Nat} {d e : D} (h : ρv[i]? = some (some d)) (h2 : ρv[j]? = some (some e)) : VL.gCons (gVar i) (VL.gCons (gCon .non) (VL.gCons (gVar j) VL.gNil)) ρv = .ok [d, .non, e] := by
  unfold VL.gCons gVar; rw [h, h2]; rfl
theorem argn1 {j : Nat} {e : D} (h2 : ρv[j]? = some (some e)) : VL.gCons (gCon .non) (VL.gCons (gVar j) VL.gNil) ρv = .ok [.non, e] := by
  unfold VL.gCons gVar; rw [h2]; rfl
theorem argcp {j : Nat} {d e : D} {g : GE} {fl : Fl} (h : ρv[j]? = some (some d)) (h2 : g ρv = .ok (fl, e)) : VL.gCons (gVar j) (VL.gCons g VL.gNil) ρv = .ok [d, e] := by
  unfold VL.gCons gVar; rw [h, h2]; rfl
theorem andV_of {g k : GE} (h : g ρv = .ok (.T, .bl true)) : gAndV g k ρv = k ρv := by
  unfold gAndV; rw [h]; rfl
theorem eq_of {ga gb : GE} {A : List Ent} (ha : ga ρv = .ok (.T, ksD A)) (hb : gb ρv = .ok (.T, ksD A)) : g2 ga gb (fun x y => ofO ((fB (eqN 32)) x.2 y.2)) ρv = .ok (.T, .bl true) := by
  rw [g2_ok ha hb]; simp only [same_ks, ofO_some]
theorem td_non : TD 20 5 .non := trivial
theorem ne_test {ga gb : GE} {A : List Ent} (ha : ga ρv = .ok (.T, ksD A)) (hb : gb ρv = .ok (.T, ksD A)) : gTest (g2 ga gb (fun x y => ofO ((fB fun a b => (eqN 32 a b).map (!·)) x.2 y.2))) ρv = .ok false := by
  unfold gTest g2
  rw [ha, hb]
  simp only [Res.bind_ok, ne_ks, ofO_some, toB]
theorem kd_of {ga : List (Option D) → Res (List D)} {lo hi : D} (hA : ∀ a ∈ L, TD 20 5 a.2) (hl : L.length ≤ 20) (hlo : TD 20 5 lo) (hhi : TD 20 5 hi) (h : ga ρv = .ok [.lst (L.map rowL), lo, hi]) : gCall ga m_keys_due ρv = .ok (.T, ksD (btw lo hi L)) := by
  unfold gCall; rw [h, Res.bind_ok, keys_due_ok hA hl hlo hhi]
end
theorem viewF_at {vs : List Nat} : ∀ {ρ : DE} {k i : Nat} {f : Fl} {d : D}, ρ[i]? = some (some (f, d)) → vs.contains (k + i) = true → (viewF vs k ρ)[i]? = some (some d)
  | [], _, _, _, _, h, _ => by simp at h
  | none :: r, k, 0, _, _, h, _ => by simp at h
  | none :: r, k, i + 1, f, d, h, hc => by
    have := viewF_at (vs := vs) (ρ := r) (k := k + 1) (i := i) (f := f) (d := d) (by simpa using h) (by rw [show k + 1 + i = k + (i + 1) by omega]; exact hc)
    simpa [viewF] using this
  | some (g, e) :: r, k, 0, f, d, h, hc => by
    simp at h
    obtain ⟨rfl, rfl⟩ := h
    rw [Nat.add_zero] at hc
    unfold viewF
    rw [if_pos (.inr hc)]; rfl
  | some (g, e) :: r, k, i + 1, f, d, h, hc => by
    have := viewF_at (vs := vs) (ρ := r) (k := k + 1) (i := i) (f := f) (d := d) (by simpa using h) (by rw [show k + 1 + i = k + (i + 1) by omega]; exact hc)
    unfold viewF
    simpa using this
theorem viewF_lenq {vs : List Nat} : ∀ {ρ : DE} {k : Nat}, (viewF vs k ρ).length = ρ.length
  | [], _ => rfl
  | none :: r, k => by unfold viewF; rw [List.length_cons, List.length_cons, viewF_lenq]
  | some (g, e) :: r, k => by unfold viewF; rw [List.length_cons, List.length_cons, viewF_lenq]
theorem rows_keys {A : List Ent} {ρv : List (Option D)} (h : ρv[5]? = some (some (.lst (A.map rowL)))) (hl : ρv.length = 10) (hA : A.length ≤ 20) : gComp [9] [9] (gItL (gVar 5)) t1 (cYes) (g2 (gVar 9) (gCon (.int 1)) (fun x y => ofO (ixD x.2 y.2))) ρv = .ok (.T, ksD A) := by
  have e4 : compL t1 [9] cYes (g2 (gVar 9) (gCon (.int 1)) (fun x y => ofO (ixD x.2 y.2))) (ρv.set 9 none) (A.map fun p => sh (rowL p)) = .ok (A.map fun p => ((.T, .int p.1) : FD)) := compL_on fun p hp => ⟨[rowL p], rfl, by
      have e0 : setsD (ρv.set 9 none) [9] [rowL p] = (ρv.set 9 none).set 9 (some (rowL p)) := rfl
      have e1 : ((ρv.set 9 none).set 9 (some (rowL p)))[9]? = some (some (rowL p)) := List.getElem?_set_self (by rw [List.length_set]; omega)
      rw [e0]
      unfold g2 gVar
      rw [e1]
      simp only [gCon, Res.bind_ok, sh_2, rowL_1, ofO_some]⟩
  have hit : gItL (gVar 5) ρv = .ok (A.map fun p => sh (rowL p)) := by
    unfold gItL gVar
    rw [h]
    simp only [Res.bind_ok, sh_2, itemsL, List.map_map]
    rfl
  unfold gComp
  rw [hit, Res.bind_ok]
  rw [if_pos (by rw [List.length_map]; exact Nat.le_trans hA (by decide))]
  show (compL _ _ _ _ (ρv.set 9 none) (A.map fun p => sh (rowL p))).bind _ = _
  rw [e4]
  exact congrArg Res.ok mkL_T
theorem td_pair {lo hi : D} (hlo : TD 20 5 lo) (hhi : TD 20 5 hi) : TD 20 6 (.lst [lo, hi]) := ⟨by show 2 < 20; decide, fun d hd => by
  rcases List.mem_cons.mp hd with rfl | hd
  · exact hlo
  · rw [List.mem_singleton.mp hd]; exact hhi⟩
theorem law_ok (cO : Addr) {ns : List Int} (hn : ns.length ≤ 1000) : m_law cO [.scr ns] = .ok (.T, .bl true) := by
  obtain ⟨g1, ps, hpath, hps, hpl⟩ := path_ok hn (k := 1) (by decide) (by decide)
  obtain ⟨g2', recs, hrecs, hR⟩ := records_ok hn
  obtain ⟨ks, hK⟩ := KR.of hR
  have hes := entK_es (ps := ps) hK
  obtain ⟨L, hL⟩ : ∃ L, L = entK recs ps ks := ⟨_, rfl⟩
  have hsl : ∀ a ∈ srt L, TD 20 5 a.2 := fun a ha => hes.td a (hL ▸ srt_mem.mp ha)
  have hsn : (srt L).length ≤ 20 := by rw [srt_len, hL]; exact hes.ln
  rw [← hL] at hes
  have hrd := rows_due_ok (ps := ps) hK hps
  rw [← hL] at hrd
  obtain ⟨f6, lo, hlo, tlo⟩ := end_ok hn (k := 5) (by decide) (by decide) hsl
  obtain ⟨f7, hi, hhi, thi⟩ := end_ok hn (k := 8) (by decide) (by decide) hsl
  have hent : enter 10 [.scr ns] = [some (.S, .scr ns), none, none, none, none, none, none, none, none, none] := rfl
  have e1 : gSet 1 [0] (gCall (VL.gCons (gVar 0) (VL.gCons (gCon (.int 1)) (VL.gNil))) m_path) [some (.S, .scr ns), none, none, none, none, none, none, none, none, none] = .nx [some (.S, .scr ns), some (g1, .lst ps), none, none, none, none, none, none, none, none] := by
    refine q_set (x := (g1, .lst ps)) ?_ (by cases g1 <;> rfl)
    show gCall _ _ [some (.scr ns), none, none, none, none, none, none, none, none, none] = _
    unfold gCall
    rw [show VL.gCons (gVar 0) (VL.gCons (gCon (.int 1)) VL.gNil) [some (.scr ns), none, none, none, none, none, none, none, none, none] = .ok [.scr ns, .int 1] from rfl, Res.bind_ok, hpath]
  have e2 : gSet 2 [0] (gCall (VL.gCons (gVar 0) (VL.gCons (gCon (.int 10)) (VL.gNil))) m_records) [some (.S, .scr ns), some (g1, .lst ps), none, none, none, none, none, none, none, none] = .nx [some (.S, .scr ns), some (g1, .lst ps), some (g2', .dct recs), none, none, none, none, none, none, none] := by
    refine q_set (x := (g2', .dct recs)) ?_ (by cases g2' <;> cases g1 <;> rfl)
    unfold gCall
    rw [show VL.gCons (gVar 0) (VL.gCons (gCon (.int 10)) VL.gNil) (viewF [0] 0 [some (.S, .scr ns), some (g1, .lst ps), none, none, none, none, none, none, none, none]) = .ok [.scr ns, .int 10] from rfl, Res.bind_ok, hrecs]
  have e3 : gSet 3 [1] (gMake cO (R_init cO) (VL.gCons (gVar 1) (VL.gNil))) [some (.S, .scr ns), some (g1, .lst ps), some (g2', .dct recs), none, none, none, none, none, none, none] = .nx [some (.S, .scr ns), some (g1, .lst ps), some (g2', .dct recs), some (.T, ordD cO recs ps []), none, none, none, none, none, none] := by
    refine q_set (x := (.T, ordD cO recs ps [])) ?_ rfl
    have em : mOf (R_init cO) [] [.lst ps] = some (Fld (.lst ps) [] []) := mOf_eq (n := 2) (g := g_o_init cO) (init_ok hps)
    have hv : (viewF [1] 0 [some (.S, .scr ns), some (g1, .lst ps), some (g2', .dct recs), none, none, none, none, none, none, none])[1]? = some (some (.lst ps)) := by cases g1 <;> rfl
    unfold gMake
    rw [arg1v hv, Res.bind_ok, em]; rfl
  obtain ⟨x4, e4⟩ := put_loop (cO := cO) (recs := recs) (scr := .scr ns) (g1 := g1) hps hpl ks [] none hK.td (by rw [List.nil_append]; exact hK.nd) (by have := hK.ln; simp only [List.length_nil]; omega)
  rw [List.nil_append] at e4
  have e4' : gForD 2 [2] [4] keysD t1 (b_put cO) [some (.S, .scr ns), some (g1, .lst ps), some (g2', .dct recs), some (.T, ordD cO recs ps []), none, none, none, none, none, none] = .nx [some (.S, .scr ns), some (g1, .lst ps), some (.S, .dct recs), some (.T, ordD cO recs ps ks), x4, none, none, none, none, none] := by
    have hkd : keysD recs = ks.map fun k => ((.T, .int k) : FD) := by
      have : keysD recs = (recs.map (·.1)).map fun k => ((.T, kD k) : FD) := by unfold keysD; rw [List.map_map]; rfl
      rw [this, hK.mp, List.map_map]; rfl
    have hlk : leakF [2] 0 [some (.S, .scr ns), some (g1, .lst ps), some (g2', .dct recs), some (.T, ordD cO recs ps []), none, none, none, none, none, none] = [some (.S, .scr ns), some (g1, .lst ps), some (.S, .dct recs), some (.T, ordD cO recs ps []), none, none, none, none, none, none] := rfl
    unfold gForD
    simp only [List.getElem?_cons_zero, List.getElem?_cons_succ]
    rw [if_pos (show [2].contains 2 = true from rfl), hkd, hlk, e4]; rfl
  obtain ⟨O, hO⟩ : ∃ O, O = ordD cO recs ps ks := ⟨_, rfl⟩
  have hO' : O = .ins none cO (Fld (.lst ps) (spt L) ((nwK recs ps ks).map .int)) := by rw [hO, hL]
  rw [← hO] at e4'
  have e5 : gSet 5 [1, 2] (gCall (VL.gCons (gVar 2) (VL.gCons (gVar 1) (VL.gNil))) m_rows_due) [some (.S, .scr ns), some (g1, .lst ps), some (.S, .dct recs), some (.T, O), x4, none, none, none, none, none] = .nx [some (.S, .scr ns), some (g1, .lst ps), some (.S, .dct recs), some (.T, O), x4, some (.T, .lst ((srt L).map rowL)), none, none, none, none] := by
    refine q_set (x := (.T, .lst ((srt L).map rowL))) ?_ rfl
    have hv1 : (viewF [1, 2] 0 [some (.S, .scr ns), some (g1, .lst ps), some (.S, .dct recs), some (.T, O), x4, none, none, none, none, none])[1]? = some (some (.lst ps)) := by rcases x4 with _ | ⟨f4, d4⟩ <;> cases g1 <;> rfl
    have hv2 : (viewF [1, 2] 0 [some (.S, .scr ns), some (g1, .lst ps), some (.S, .dct recs), some (.T, O), x4, none, none, none, none, none])[2]? = some (some (.dct recs)) := by rcases x4 with _ | ⟨f4, d4⟩ <;> cases g1 <;> rfl
    unfold gCall
    rw [arg2v hv2 hv1, Res.bind_ok, hrd]
  -- the ends
  obtain ⟨RW, hRW⟩ : ∃ RW, RW = D.lst ((srt L).map rowL) := ⟨_, rfl⟩
  rw [← hRW] at e5
  rw [← hRW] at hlo hhi
  have hsR : sh RW = (.S, RW) := by rw [hRW]; rfl
  have ee : ∀ (i : Nat) (k : Int) (f : Fl) (d : D) (f5 : Fl) (x6 : Option FD) (ρ' : DE → Option FD → Option FD → DE), m_end [.scr ns, .int k, RW] = .ok (f, d) → gCall (VL.gCons (gVar 0) (VL.gCons (gCon (.int k)) (VL.gCons (gVar 5) (VL.gNil)))) m_end (viewF [0, 5] 0 [some (.S, .scr ns), some (g1, .lst ps), some (.S, .dct recs), some (.T, O), x4, some (f5, RW), x6, none, none, none]) = .ok (f, d) := fun i k f d f5 x6 _ h => by
    have hv0 : (viewF [0, 5] 0 [some (.S, .scr ns), some (g1, .lst ps), some (.S, .dct recs), some (.T, O), x4, some (f5, RW), x6, none, none, none])[0]? = some (some (.scr ns)) := rfl
    have hv5 : (viewF [0, 5] 0 [some (.S, .scr ns), some (g1, .lst ps), some (.S, .dct recs), some (.T, O), x4, some (f5, RW), x6, none, none, none])[5]? = some (some RW) := by rcases x4 with _ | ⟨f4, d4⟩ <;> cases f5 <;> rfl
    unfold gCall VL.gCons gVar
    rw [hv0, hv5]
    show m_end [.scr ns, .int k, RW] = _
    exact h
  obtain ⟨f5, e6⟩ : ∃ f5, gSet 6 [0, 5] (gCall (VL.gCons (gVar 0) (VL.gCons (gCon (.int 5)) (VL.gCons (gVar 5) (VL.gNil)))) m_end) [some (.S, .scr ns), some (g1, .lst ps), some (.S, .dct recs), some (.T, O), x4, some (.T, RW), none, none, none, none] = .nx [some (.S, .scr ns), some (g1, .lst ps), some (.S, .dct recs), some (.T, O), x4, some (f5, RW), some (f6, lo), none, none, none] := by
    cases f6 with
    | T => exact ⟨.T, q_set (ee 6 5 .T lo .T none (fun ρ _ _ => ρ) hlo) rfl⟩
    | S => exact ⟨.S, q_set (ee 6 5 .S lo .T none (fun ρ _ _ => ρ) hlo) (by rcases x4 with _ | ⟨f4, d4⟩ <;> simp [putV, leakF, hsR, sh_scr])⟩
    | R => exact ⟨.S, q_set (ee 6 5 .R lo .T none (fun ρ _ _ => ρ) hlo) (by rcases x4 with _ | ⟨f4, d4⟩ <;> simp [putV, leakF, hsR, sh_scr])⟩
  obtain ⟨f5', e7⟩ : ∃ f5', gSet 7 [0, 5] (gCall (VL.gCons (gVar 0) (VL.gCons (gCon (.int 8)) (VL.gCons (gVar 5) (VL.gNil)))) m_end) [some (.S, .scr ns), some (g1, .lst ps), some (.S, .dct recs), some (.T, O), x4, some (f5, RW), some (f6, lo), none, none, none] = .nx [some (.S, .scr ns), some (g1, .lst ps), some (.S, .dct recs), some (.T, O), x4, some (f5', RW), some (f6, lo), some (f7, hi), none, none] := by
    cases f7 with
    | T => exact ⟨f5, q_set (ee 7 8 .T hi f5 (some (f6, lo)) (fun ρ _ _ => ρ) hhi) rfl⟩
    | S => exact ⟨.S, q_set (ee 7 8 .S hi f5 (some (f6, lo)) (fun ρ _ _ => ρ) hhi) (by rcases x4 with _ | ⟨f4, d4⟩ <;> simp [putV, leakF, hsR, sh_scr])⟩
    | R => exact ⟨.S, q_set (ee 7 8 .R hi f5 (some (f6, lo)) (fun ρ _ _ => ρ) hhi) (by rcases x4 with _ | ⟨f4, d4⟩ <;> simp [putV, leakF, hsR, sh_scr])⟩
  have hheld : m_held 12 [.lst [lo, hi]] = .ok (.T, .lst [lo, hi]) := held_ok (b := 20) (by decide) (td_pair tlo thi) (by decide)
  have hsame : m_same [.lst [lo, hi], .lst [lo, hi]] = .ok (.T, .bl true) := same_ok (b := 20) (by decide) (by decide) (td_pair tlo thi)
  have pairv : ∀ (ρv : List (Option D)), ρv[6]? = some (some lo) → ρv[7]? = some (some hi) → ∃ fl, VL.gLst (lCons (gVar 6) (lCons (gVar 7) lNil)) ρv = .ok (fl, .lst [lo, hi]) := fun ρv h6 h7 => by
    refine ⟨(mkL [sh lo, sh hi]).1, ?_⟩
    unfold VL.gLst lCons gVar
    rw [h6, h7]
    rfl
  obtain ⟨R, hRdef⟩ : ∃ R : DE, R = [some (.S, .scr ns), some (g1, .lst ps), some (.S, .dct recs), some (.T, O), x4, some (f5', RW), some (f6, lo), some (f7, hi), some (.T, .lst [lo, hi]), none] := ⟨_, rfl⟩
  have R3 : R[3]? = some (some (.T, O)) := by rw [hRdef]; rfl
  have R5 : R[5]? = some (some (f5', RW)) := by rw [hRdef]; rfl
  have R6 : R[6]? = some (some (f6, lo)) := by rw [hRdef]; rfl
  have R7 : R[7]? = some (some (f7, hi)) := by rw [hRdef]; rfl
  have R8 : R[8]? = some (some (.T, .lst [lo, hi])) := by rw [hRdef]; rfl
  have Rl : R.length = 10 := by rw [hRdef]; rfl
  have e8 : gSet 8 [6, 7] (gCall (VL.gCons (VL.gLst (lCons (gVar 6) (lCons (gVar 7) (lNil)))) (VL.gNil)) (m_held 12)) [some (.S, .scr ns), some (g1, .lst ps), some (.S, .dct recs), some (.T, O), x4, some (f5', RW), some (f6, lo), some (f7, hi), none, none] = .nx R := by
    refine q_set (x := (.T, .lst [lo, hi])) ?_ (by rw [hRdef]; rfl)
    obtain ⟨fl, hp⟩ := pairv _ (viewF_at (vs := [6, 7]) (ρ := [some (.S, .scr ns), some (g1, .lst ps), some (.S, .dct recs), some (.T, O), x4, some (f5', RW), some (f6, lo), some (f7, hi), none, none]) (k := 0) (i := 6) (f := f6) (d := lo) rfl rfl) (viewF_at (vs := [6, 7]) (ρ := [some (.S, .scr ns), some (g1, .lst ps), some (.S, .dct recs), some (.T, O), x4, some (f5', RW), some (f6, lo), some (f7, hi), none, none]) (k := 0) (i := 7) (f := f7) (d := hi) rfl rfl)
    unfold gCall
    rw [show VL.gCons (VL.gLst (lCons (gVar 6) (lCons (gVar 7) lNil))) VL.gNil (viewF [6, 7] 0 [some (.S, .scr ns), some (g1, .lst ps), some (.S, .dct recs), some (.T, O), x4, some (f5', RW), some (f6, lo), some (f7, hi), none, none]) = .ok [.lst [lo, hi]] from by unfold VL.gCons; rw [hp]; rfl, Res.bind_ok, hheld]
  clear hRdef
  have V3 : ∀ vs : List Nat, vs.contains 3 = true → (viewF vs 0 R)[3]? = some (some O) := fun vs h => viewF_at R3 (by rw [Nat.zero_add]; exact h)
  have V5 : ∀ vs : List Nat, vs.contains 5 = true → (viewF vs 0 R)[5]? = some (some RW) := fun vs h => viewF_at R5 (by rw [Nat.zero_add]; exact h)
  have V6 : ∀ vs : List Nat, vs.contains 6 = true → (viewF vs 0 R)[6]? = some (some lo) := fun vs h => viewF_at R6 (by rw [Nat.zero_add]; exact h)
  have V7 : ∀ vs : List Nat, vs.contains 7 = true → (viewF vs 0 R)[7]? = some (some hi) := fun vs h => viewF_at R7 (by rw [Nat.zero_add]; exact h)
  have bt : ∀ a b : D, TD 20 5 a → TD 20 5 b → m_between cO [O, a, b] = .ok (.T, ksD (btw a b (srt L))) := fun a b ha hb => by
    rw [hO']; exact between_ok hes ha hb
  have lkO : look (Fld (.lst ps) (spt L) ((nwK recs ps ks).map .int)) (.inr "between") = none := lk_between
  rw [hO'] at V3 bt
  have kd : ∀ (ρv : List (Option D)) (ga : List (Option D) → Res (List D)) (a b : D), TD 20 5 a → TD 20 5 b → ga ρv = .ok [RW, a, b] → gCall ga m_keys_due ρv = .ok (.T, ksD (btw a b (srt L))) := fun ρv ga a b ha hb h => kd_of hsl hsn ha hb (by rw [← hRW]; exact h)
  have e9 : gDropApp [3, 6, 7] (gMethV cO "between" (gVar 3) (VL.gCons (gVar 6) (VL.gCons (gVar 7) (VL.gNil))) (fun ds => m_between cO (ds ++ List.replicate 0 D.non))) (gCon (.int 0)) R = .nx R := by
    have hm := methV_of (n := 0) (V3 [3, 6, 7] rfl) lkO (arg2v (V6 [3, 6, 7] rfl) (V7 [3, 6, 7] rfl)) (m := fun ds => m_between cO (ds ++ List.replicate 0 D.non)) (bt lo hi tlo thi)
    have hz : ((btw lo hi (srt L)).map fun p : Ent => D.int p.1).length < sizeLine := by
      rw [List.length_map]
      refine Nat.lt_of_le_of_lt (Nat.le_trans (List.length_filter_le _ _) (List.length_filter_le _ _)) (Nat.lt_of_le_of_lt hsn (by decide))
    unfold gDropApp
    rw [hm]
    simp only [viaE, ksD]
    rw [if_pos ⟨trivial, hz⟩]
    rfl
  have e10 : gIfS [3, 5, 6, 7] (gTest (g2 (gMethV cO "between" (gVar 3) (VL.gCons (gVar 6) (VL.gCons (gVar 7) (VL.gNil))) (fun ds => m_between cO (ds ++ List.replicate 0 D.non))) (gCall (VL.gCons (gVar 5) (VL.gCons (gVar 6) (VL.gCons (gVar 7) (VL.gNil)))) m_keys_due) (fun x y => ofO ((fB fun a b => (eqN 32 a b).map (!·)) x.2 y.2)))) (gRet [] (gCon (.bl false))) (gPass) R = .nx R :=
    q_iff (ne_test (methV_of (n := 0) (V3 [3, 5, 6, 7] rfl) lkO (arg2v (V6 [3, 5, 6, 7] rfl) (V7 [3, 5, 6, 7] rfl)) (m := fun ds => m_between cO (ds ++ List.replicate 0 D.non)) (bt lo hi tlo thi)) (kd _ _ lo hi tlo thi (arg3v (V5 _ rfl) (V6 _ rfl) (V7 _ rfl)))) rfl
  have e11 : gIfS [3, 5, 6] (gTest (g2 (gMethV cO "between" (gVar 3) (VL.gCons (gVar 6) (VL.gNil)) (fun ds => m_between cO (ds ++ List.replicate 1 D.non))) (gCall (VL.gCons (gVar 5) (VL.gCons (gVar 6) (VL.gCons (gCon .non) (VL.gNil)))) m_keys_due) (fun x y => ofO ((fB fun a b => (eqN 32 a b).map (!·)) x.2 y.2)))) (gRet [] (gCon (.bl false))) (gPass) R = .nx R :=
    q_iff (ne_test (methV_of (n := 0) (V3 [3, 5, 6] rfl) lkO (arg1v (V6 [3, 5, 6] rfl)) (m := fun ds => m_between cO (ds ++ List.replicate 1 D.non)) (bt lo .non tlo td_non)) (kd _ _ lo .non tlo td_non (argin (V5 _ rfl) (V6 _ rfl)))) rfl
  have e12 : gIfS [3, 5, 6, 7] (gOrT (gTest (g2 (gMethK cO "between" (gVar 3) (VL.gCons (gVar 7) VL.gNil) (fun ds => D.non :: ds) (m_between cO)) (gCall (VL.gCons (gVar 5) (VL.gCons (gCon .non) (VL.gCons (gVar 7) (VL.gNil)))) m_keys_due) (fun x y => ofO ((fB fun a b => (eqN 32 a b).map (!·)) x.2 y.2)))) (gTest (g2 (gMethK cO "between" (gVar 3) (VL.gCons (gVar 6) VL.gNil) (fun ds => ds ++ [D.non]) (m_between cO)) (gMethV cO "between" (gVar 3) (VL.gCons (gVar 6) (VL.gNil)) (fun ds => m_between cO (ds ++ List.replicate 1 D.non))) (fun x y => ofO ((fB fun a b => (eqN 32 a b).map (!·)) x.2 y.2))))) (gRet [] (gCon (.bl false))) (gPass) R = .nx R := by
    refine q_iff ?_ rfl
    have h1 := ne_test (methK_of (n := 0) (V3 [3, 5, 6, 7] rfl) lkO (arg1v (V7 [3, 5, 6, 7] rfl)) (arr := fun ds => D.non :: ds) (m := m_between cO) (bt .non hi td_non thi)) (kd _ _ .non hi td_non thi (argni (V5 [3, 5, 6, 7] rfl) (V7 [3, 5, 6, 7] rfl)))
    have h2 := ne_test (methK_of (n := 0) (V3 [3, 5, 6, 7] rfl) lkO (arg1v (V6 [3, 5, 6, 7] rfl)) (arr := fun ds => ds ++ [D.non]) (m := m_between cO) (bt lo .non tlo td_non)) (methV_of (n := 0) (V3 [3, 5, 6, 7] rfl) lkO (arg1v (V6 [3, 5, 6, 7] rfl)) (m := fun ds => m_between cO (ds ++ List.replicate 1 D.non)) (bt lo .non tlo td_non))
    unfold gOrT
    rw [h1, Res.bind_ok, if_neg (by decide)]
    exact h2
  have e13 : gIfS [3, 7] (gTest (g2 (gMethV cO "between" (gVar 3) (VL.gCons (gCon .non) (VL.gCons (gVar 7) (VL.gNil))) (fun ds => m_between cO (ds ++ List.replicate 0 D.non))) (gMethK cO "between" (gVar 3) (VL.gCons (gVar 7) VL.gNil) (fun ds => D.non :: ds) (m_between cO)) (fun x y => ofO ((fB fun a b => (eqN 32 a b).map (!·)) x.2 y.2)))) (gRet [] (gCon (.bl false))) (gPass) R = .nx R :=
    q_iff (ne_test (methV_of (n := 0) (V3 [3, 7] rfl) lkO (argn1 (V7 [3, 7] rfl)) (m := fun ds => m_between cO (ds ++ List.replicate 0 D.non)) (bt .non hi td_non thi)) (methK_of (n := 0) (V3 [3, 7] rfl) lkO (arg1v (V7 [3, 7] rfl)) (arr := fun ds => D.non :: ds) (m := m_between cO) (bt .non hi td_non thi))) rfl
  have e14 : gRet [3, 5, 6, 7, 8] (gAndV (g2 (gMethV cO "between" (gVar 3) VL.gNil (fun ds => m_between cO (ds ++ List.replicate 2 D.non))) (gComp [9] [9] (gItL (gVar 5)) t1 (cYes) (g2 (gVar 9) (gCon (.int 1)) (fun x y => ofO (ixD x.2 y.2)))) (fun x y => ofO ((fB (eqN 32)) x.2 y.2))) (gCall (VL.gCons (gVar 8) (VL.gCons (VL.gLst (lCons (gVar 6) (lCons (gVar 7) (lNil)))) (VL.gNil))) m_same)) R = .rt (.T, .bl true) := by
    refine q_ret ?_
    have h1 := methV_of (n := 0) (V3 [3, 5, 6, 7, 8] rfl) lkO (ga := VL.gNil) (ds := []) rfl (m := fun ds => m_between cO (ds ++ List.replicate 2 D.non)) (bt .non .non td_non td_non)
    have hbn : btw .non .non (srt L) = srt L := by
      unfold btw
      rw [fil_yes (f := okLo .non) fun _ => rfl, fil_yes (f := okHi .non) fun _ => rfl]
    rw [hbn] at h1
    have h2 := rows_keys (A := srt L) (ρv := viewF [3, 5, 6, 7, 8] 0 R) (by rw [← hRW]; exact V5 _ rfl) (by rw [viewF_lenq, Rl]) hsn
    obtain ⟨fl, h3⟩ := pairv _ (V6 [3, 5, 6, 7, 8] rfl) (V7 [3, 5, 6, 7, 8] rfl)
    have h8 : (viewF [3, 5, 6, 7, 8] 0 R)[8]? = some (some (.lst [lo, hi])) := viewF_at R8 rfl
    refine (andV_of (eq_of h1 h2)).trans ?_
    unfold gCall
    rw [argcp h8 h3, Res.bind_ok, hsame]
  exact run_of (q_seq e1 (q_seq e2 (q_seq e3 (q_seq e4' (q_seq e5 (q_seq e6 (q_seq e7 (q_seq e8 (q_seq e9 (q_seq e10 (q_seq e11 (q_seq e12 (q_seq e13 e14))))))))))))) rfl
end G
end

section
set_option Elab.async false
set_option maxRecDepth 100000
set_option linter.all false
set_option maxHeartbeats 4000000
namespace G
open PySem PySem.Spec
open PyProof.Rows hiding intD
open L2 hiding gCons gNil gLst
open VL
section
variable {P : Program} {w : World} {K : PySem.W.Frag} {mg : Str → Option Value} {base : Heap} {cO : Addr}
/-- a def is there -/
def DefOk (K : PySem.W.Frag) (mg : Str → Option Value) (x : Str) (st : Stmt) (ps : List Str) : Prop := ∃ f fd, Dfn K mg x st ps f fd
def MethOk (K : PySem.W.Frag) (cO : Addr) (x q : Str) (st : Stmt) (ps : List Str) : Prop := ∃ f fd, Fun K x q st f fd ∧ Meth K cO x f ∧ Binds K fd ps []
structure Defs (K : PySem.W.Frag) (mg : Str → Option Value) (cO : Addr) : Prop where
  d_copied : DefOk K mg "copied" s_copied ["thing"]
  d_rank : DefOk K mg "rank" s_rank ["thing"]
  d_before : DefOk K mg "before" s_before ["one", "other"]
  d_leads_on : DefOk K mg "leads_on" s_leads_on ["thing", "step"]
  d_reached : DefOk K mg "reached" s_reached ["thing", "path"]
  d_thing_at : DefOk K mg "thing_at" s_thing_at ["thing", "path"]
  d_has : DefOk K mg "has" s_has ["thing", "path"]
  d_law_cell : DefOk K mg "_law_cell" s_law_cell ["_law_script", "_law_k"]
  d_law_name_by : DefOk K mg "_law_name_by" s_law_name_by ["_law_more"]
  d_law_signs : DefOk K mg "_law_signs" s_law_signs []
  d_law_text_by : DefOk K mg "_law_text_by" s_law_text_by ["_law_more"]
  d_law_number_by : DefOk K mg "_law_number_by" s_law_number_by ["_law_more"]
  d_law_thing_by : DefOk K mg "_law_thing_by" s_law_thing_by ["_law_script", "_law_k", "_law_deep"]
  d_law_kind : DefOk K mg "_law_kind" s_law_kind ["_law_thing"]
  d_law_rows_compare : DefOk K mg "_law_rows_compare" s_law_rows_compare ["_law_one", "_law_other"]
  d_law_compare : DefOk K mg "_law_compare" s_law_compare ["_law_one", "_law_other"]
  d_law_same : DefOk K mg "_law_same" s_law_same ["_law_one", "_law_other"]
  d_law_held : DefOk K mg "_law_held" s_law_held ["_law_thing"]
  d_law_small : DefOk K mg "_law_small" s_law_small ["_law_script", "_law_k"]
  d_law_record : DefOk K mg "_law_record" s_law_record ["_law_script", "_law_k"]
  d_law_records : DefOk K mg "_law_records" s_law_records ["_law_script", "_law_high"]
  d_law_names : DefOk K mg "_law_names" s_law_names ["_law_script"]
  d_law_path : DefOk K mg "_law_path" s_law_path ["_law_script", "_law_k"]
  d_law_led : DefOk K mg "_law_led" s_law_led ["_law_thing", "_law_path_here"]
  d_law_rows_due : DefOk K mg "_law_rows_due" s_law_rows_due ["_law_kept", "_law_path_here"]
  d_law_end : DefOk K mg "_law_end" s_law_end ["_law_script", "_law_k", "_law_rows"]
  d_law_keys_due : DefOk K mg "_law_keys_due" s_law_keys_due ["_law_rows", "_law_low", "_law_high"]
  o_init : ∃ f fd, Fun K "__init__" "Order.__init__" s_o_init f fd ∧ Mk K cO f ∧ Binds K fd ["self", "path"] []
  o_put : MethOk K cO "put" "Order.put" s_o_put ["self", "key", "thing"]
  o_cleared : MethOk K cO "cleared" "Order.cleared" s_o_cleared ["self", "key"]
  o_keys_in_order : MethOk K cO "keys_in_order" "Order.keys_in_order" s_o_keys_in_order ["self"]
  o_between : ∃ f fd, FunD K "between" "Order.between" (defArgs s_o_between) (defBody s_o_between) (defScope s_o_between) [.non, .non] [] f fd ∧ Meth K cO "between" f ∧ (∀ i, i ≤ 2 → ∃ ds, Vals (List.replicate i V.non) ds ∧ Binds K fd ["self", "least", "most"] ds) ∧ (∃ g, KBn K fd ["self", "least", "most"] 1 ["least"] g (fun vs zs => vs ++ zs ++ [.non])) ∧ ∃ g, KBn K fd ["self", "least", "most"] 1 ["most"] g (fun vs zs => vs ++ [.non] ++ zs)
theorem copied_cal (T : Txt K mg cO) (d : DefOk K mg "copied" s_copied ["thing"]) : ∀ n, Cal P w K mg base n "copied" ["thing"] (m_copied n)
  | 0 => by obtain ⟨f, fd, d⟩ := d; exact Cal.none d 0
  | n + 1 => by have h := copied_cal T d n; obtain ⟨f, fd, d⟩ := d; exact ok_copied T d h
theorem rank_cal (T : Txt K mg cO) (d : DefOk K mg "rank" s_rank ["thing"]) : ∀ n, Cal P w K mg base n "rank" ["thing"] (m_rank n)
  | 0 => by obtain ⟨f, fd, d⟩ := d; exact Cal.none d 0
  | n + 1 => by have h := rank_cal T d n; obtain ⟨f, fd, d⟩ := d; exact ok_rank T d h
theorem held_cal (T : Txt K mg cO) (d : DefOk K mg "_law_held" s_law_held ["_law_thing"]) : ∀ n, Cal P w K mg base n "_law_held" ["_law_thing"] (m_held n)
  | 0 => by obtain ⟨f, fd, d⟩ := d; exact Cal.none d 0
  | n + 1 => by have h := held_cal T d n; obtain ⟨f, fd, d⟩ := d; exact ok_law_held T d h
theorem compare_cal (T : Txt K mg cO) (dk : DefOk K mg "_law_kind" s_law_kind ["_law_thing"]) (dr : DefOk K mg "_law_rows_compare" s_law_rows_compare ["_law_one", "_law_other"]) (d : DefOk K mg "_law_compare" s_law_compare ["_law_one", "_law_other"]) : ∀ n, Cal P w K mg base (2 * n) "_law_compare" ["_law_one", "_law_other"] (m_compare n)
  | 0 => by obtain ⟨f, fd, d⟩ := d; exact Cal.none d 0
  | n + 1 => by
    have h := compare_cal T dk dr d n
    obtain ⟨f, fd, d⟩ := d
    obtain ⟨fk, fdk, dk⟩ := dk
    obtain ⟨fr, fdr, dr⟩ := dr
    have hr := ok_law_rows_compare T dr h
    have hk : Cal P w K mg base (0 + 1) "_law_kind" ["_law_thing"] m_kind := ok_law_kind T dk
    exact ok_law_compare T d (hk.mono (by omega)) hr
theorem thing_cal {j : Nat} (T : Txt K mg cO) (d : DefOk K mg "_law_thing_by" s_law_thing_by ["_law_script", "_law_k", "_law_deep"]) (hc : Cal P w K mg base j "_law_cell" ["_law_script", "_law_k"] m_cell) (hn : Cal P w K mg base j "_law_number_by" ["_law_more"] m_number_by) (ht : Cal P w K mg base j "_law_text_by" ["_law_more"] m_text_by) (hm : Cal P w K mg base j "_law_name_by" ["_law_more"] m_name_by) : ∀ n, Cal P w K mg base (j + n) "_law_thing_by" ["_law_script", "_law_k", "_law_deep"] (m_thing_by n)
  | 0 => by obtain ⟨f, fd, d⟩ := d; exact Cal.none d _
  | n + 1 => by
    have h := thing_cal T d hc hn ht hm n
    obtain ⟨f, fd, d⟩ := d
    exact ok_law_thing_by T d (hc.mono (by omega)) (hn.mono (by omega)) (ht.mono (by omega)) h (hm.mono (by omega))
theorem signs_x : ∀ c fs, m_signs [] ≠ .xc c fs := by
  intro c fs h
  obtain ⟨z, e, _⟩ := signs_ok
  rw [e] at h
  cases h
theorem chain (T : Txt K mg cO) (A : Defs K mg cO) {f : Addr} {fd : FuncData} (F : Fun K "law" "law" s_law f fd) : FnOk P w K mg base (L2.CX P w) 60 f fd ["_law_script"] (spD ⟨K, mg⟩ 1 (m_law cO)) := by
  have c_copied := copied_cal (P := P) (w := w) (base := base) T A.d_copied 12
  have c_rank := rank_cal (P := P) (w := w) (base := base) T A.d_rank 12
  have c_held := held_cal (P := P) (w := w) (base := base) T A.d_law_held 12
  have c_comp := compare_cal (P := P) (w := w) (base := base) T A.d_law_kind A.d_law_rows_compare A.d_law_compare 24
  obtain ⟨_, _, d0⟩ := A.d_before
  obtain ⟨_, _, d1⟩ := A.d_leads_on
  obtain ⟨_, _, d2⟩ := A.d_reached
  obtain ⟨_, _, d3⟩ := A.d_thing_at
  obtain ⟨_, _, d4⟩ := A.d_has
  obtain ⟨_, _, d7⟩ := A.d_law_cell
  obtain ⟨_, _, d8⟩ := A.d_law_name_by
  obtain ⟨_, _, d9⟩ := A.d_law_signs
  obtain ⟨_, _, d10⟩ := A.d_law_text_by
  obtain ⟨_, _, d11⟩ := A.d_law_number_by
  obtain ⟨_, _, d12⟩ := A.d_law_kind
  obtain ⟨_, _, d13⟩ := A.d_law_same
  obtain ⟨_, _, d14⟩ := A.d_law_small
  obtain ⟨_, _, d15⟩ := A.d_law_record
  obtain ⟨_, _, d16⟩ := A.d_law_records
  obtain ⟨_, _, d17⟩ := A.d_law_names
  obtain ⟨_, _, d18⟩ := A.d_law_path
  obtain ⟨_, _, d19⟩ := A.d_law_led
  obtain ⟨_, _, d20⟩ := A.d_law_rows_due
  obtain ⟨_, _, d21⟩ := A.d_law_end
  obtain ⟨_, _, d22⟩ := A.d_law_keys_due
  obtain ⟨fi, fdi, Fi, Mi, Bi⟩ := A.o_init
  obtain ⟨fp, fdp, Fp, Mp, Bp⟩ := A.o_put
  obtain ⟨fc, fdc, Fc, Mc, Bc⟩ := A.o_cleared
  obtain ⟨fk, fdk, Fk, Mk', Bk⟩ := A.o_keys_in_order
  obtain ⟨fb, fdb, Fb, Mb, Bb, ⟨gl, Bl⟩, gm, Bm⟩ := A.o_between
  have c_before : Cal P w K mg base (12 + 1) "before" ["one", "other"] m_before := ok_before T d0 c_rank
  have c_leads : Cal P w K mg base (0 + 1) "leads_on" ["thing", "step"] m_leads_on := ok_leads_on T d1
  have c_reached : Cal P w K mg base (11 + 1) "reached" ["thing", "path"] m_reached := ok_reached T d2 (c_leads.mono (by decide))
  have c_thing_at : Cal P w K mg base (12 + 1) "thing_at" ["thing", "path"] m_thing_at := ok_thing_at T d3 c_copied c_reached
  have c_has : Cal P w K mg base (12 + 1) "has" ["thing", "path"] m_has := ok_has T d4 (c_leads.mono (by decide))
  have c_cell : Cal P w K mg base (0 + 1) "_law_cell" ["_law_script", "_law_k"] m_cell := ok_law_cell T d7
  have c_name : Cal P w K mg base (0 + 1) "_law_name_by" ["_law_more"] m_name_by := ok_law_name_by T d8
  have c_signs : Cal P w K mg base (0 + 1) "_law_signs" [] m_signs := ok_law_signs T d9
  have c_text : Cal P w K mg base (1 + 1) "_law_text_by" ["_law_more"] m_text_by := ok_law_text_by T d10 c_signs signs_x
  have c_number : Cal P w K mg base (0 + 1) "_law_number_by" ["_law_more"] m_number_by := ok_law_number_by T d11
  have c_thing := thing_cal (P := P) (w := w) (base := base) (j := 2) T A.d_law_thing_by (c_cell.mono (by decide)) (c_number.mono (by decide)) c_text (c_name.mono (by decide)) 4
  have c_kind : Cal P w K mg base (0 + 1) "_law_kind" ["_law_thing"] m_kind := ok_law_kind T d12
  have c_same : Cal P w K mg base (48 + 1) "_law_same" ["_law_one", "_law_other"] m_same := ok_law_same T d13 (c_kind.mono (by decide)) c_comp
  have c_small : Cal P w K mg base (6 + 1) "_law_small" ["_law_script", "_law_k"] m_small := ok_law_small T d14 (c_cell.mono (by decide)) c_thing
  have c_names : Cal P w K mg base (1 + 1) "_law_names" ["_law_script"] m_names := ok_law_names T d17 c_cell c_name
  have c_record : Cal P w K mg base (7 + 1) "_law_record" ["_law_script", "_law_k"] m_record := ok_law_record T d15 (c_cell.mono (by decide)) c_small (c_names.mono (by decide))
  have c_records : Cal P w K mg base (8 + 1) "_law_records" ["_law_script", "_law_high"] m_records := ok_law_records T d16 (c_cell.mono (by decide)) c_record
  have c_path : Cal P w K mg base (2 + 1) "_law_path" ["_law_script", "_law_k"] m_path := ok_law_path T d18 (c_cell.mono (by decide)) c_names
  have c_led : Cal P w K mg base (0 + 1) "_law_led" ["_law_thing", "_law_path_here"] m_led := ok_law_led T d19
  have c_rows : Cal P w K mg base (48 + 1) "_law_rows_due" ["_law_kept", "_law_path_here"] m_rows_due := ok_law_rows_due T d20 (c_led.mono (by decide)) c_comp (c_held.mono (by decide))
  have c_end : Cal P w K mg base (12 + 1) "_law_end" ["_law_script", "_law_k", "_law_rows"] m_end := ok_law_end T d21 (c_cell.mono (by decide)) c_held (c_small.mono (by decide))
  have c_keys : Cal P w K mg base (48 + 1) "_law_keys_due" ["_law_rows", "_law_low", "_law_high"] m_keys_due := ok_law_keys_due T d22 c_comp
  have o_init : CalK P w K mg base cO (0 + 1) ["self", "path"] 1 (R_init cO) := ⟨fi, fdi, fn_o_init T Fi, Mi, Bi⟩
  have o_cleared : CalM P w K mg base cO (0 + 1) "cleared" ["self", "key"] 1 (R_cleared cO) := ⟨fc, fdc, fn_o_cleared T Fc, Mc, Bc⟩
  have o_put : CalM P w K mg base cO (13 + 1) "put" ["self", "key", "thing"] 2 (R_put cO) := ⟨fp, fdp, fn_o_put T Fp (o_cleared.mono (by decide)) c_has c_thing_at, Mp, Bp⟩
  have o_keys : CalV P w K mg base cO (12 + 1) "keys_in_order" 1 0 (m_keys cO) := ⟨fk, fdk, ["self"], fn_o_keys_in_order T Fk c_rank, Mk', fun i hi => by
    obtain rfl : i = 0 := Nat.le_zero.mp hi
    exact ⟨[], .nil, Bk⟩⟩
  have fb_ok : FnOk P w K mg base (L2.CX P w) (13 + 1) fb fdb ["self", "least", "most"] (spD ⟨K, mg⟩ 3 (m_between cO)) := fn_o_between T Fb o_keys c_before
  have o_between : CalV P w K mg base cO (13 + 1) "between" 3 2 (m_between cO) := ⟨fb, fdb, _, fb_ok, Mb, Bb⟩
  have o_most : CalW P w K mg base cO (13 + 1) "between" 3 "most" (fun vs zs => vs ++ [.non] ++ zs) (m_between cO) := ⟨fb, fdb, _, gm, fb_ok, Mb, Bm⟩
  have o_least : CalW P w K mg base cO (13 + 1) "between" 3 "least" (fun vs zs => vs ++ zs ++ [.non]) (m_between cO) := ⟨fb, fdb, _, gl, fb_ok, Mb, Bl⟩
  exact fn_law (k := 59) (k0 := 0 + 1) T F (c_path.mono (by decide)) (c_records.mono (by decide)) o_init (by decide) (o_put.mono (by decide)) (c_rows.mono (by decide)) (c_end.mono (by decide)) (c_held.mono (by decide)) (o_between.mono (by decide)) (c_keys.mono (by decide)) (o_most.mono (by decide)) (o_least.mono (by decide)) (c_same.mono (by decide))
end
end G
end

section
set_option Elab.async false
set_option maxRecDepth 100000
set_option linter.all false
set_option maxHeartbeats 4000000
namespace G
open PySem PySem.Spec
open PyProof.Rows hiding intD
open L2 hiding gCons gNil gLst
open VL
/-! the head: what the top leaves, told by names -/
theorem funOf {K : PySem.W.Frag} {x q : Str} {st : Stmt} {f : Addr} {fd : FuncData} (F : FunD K x q (defArgs st) (defBody st) (defScope st) [] [] f fd) : Fun K x q st f fd := by
  obtain ⟨⟨oc, od, dV, kV, doc, pm, an, cdv, ct, osl, e, l, c, hd, _⟩, kp⟩ := F
  rcases hd with ⟨_, rfl⟩ | ⟨h, _⟩
  · exact ⟨⟨oc, od, kV, doc, pm, an, cdv, ct, osl, e, l, c⟩, kp⟩
  · exact absurd rfl h
def dd (x : Str) (st : Stmt) : He.DefD := ⟨(x, none), x, x, defArgs st, defBody st, defScope st, [], []⟩
def dm (C x q : Str) (st : Stmt) (ds : List He.Dv) : He.DefD := ⟨(C, some x), x, q, defArgs st, defBody st, defScope st, ds, []⟩
def dfnOf {K : PySem.W.Frag} {h : Heap} {mg : Str → Option Value} {x : Str} {st : Stmt} {ps : List Str} (X : K.In h) (G : h.Ns mainGlobals mg) (c : ∃ fd, FunD K (dd x st).name (dd x st).qual (dd x st).params (dd x st).body (dd x st).scope (He.DefD.dvs K (dd x st)) (He.DefD.kws K (dd x st)) (He.fAd K (dd x st).at_) fd) (g : He.Fa.ok K (.glo x) = true)
    (hb : ∀ (kV doc pm : Value) (an : Option Addr) (cdv ct : Value) (us : List Value), us.length = ps.length → bindArgs (PySem.W.fnOf x x (defArgs st) (defBody st) (defScope st) .none kV doc pm an cdv ct) ⟨us, []⟩ = pure (ps.zip us)) : DefOk K mg x st ps := by
  obtain ⟨fd, F⟩ := c
  have F : FunD K x x (defArgs st) (defBody st) (defScope st) [] [] (He.ga K x) fd := F
  exact ⟨_, fd, funOf F, He.glo_ok X G g, FunD.bindsN F hb⟩
theorem methOf {K : PySem.W.Frag} {C x q : Str} {st : Stmt} {ps : List Str} (c : ∃ fd, FunD K (dm C x q st []).name (dm C x q st []).qual (dm C x q st []).params (dm C x q st []).body (dm C x q st []).scope (He.DefD.dvs K (dm C x q st [])) (He.DefD.kws K (dm C x q st [])) (He.fAd K (dm C x q st []).at_) fd)
    (hb : ∀ (kV doc pm : Value) (an : Option Addr) (cdv ct : Value) (us : List Value), us.length = ps.length → bindArgs (PySem.W.fnOf x q (defArgs st) (defBody st) (defScope st) .none kV doc pm an cdv ct) ⟨us, []⟩ = pure (ps.zip us)) : ∃ fd, Fun K x q st (He.ma K (He.ga K C) x) fd ∧ Binds K fd ps [] := by
  obtain ⟨fd, F⟩ := c
  have F : FunD K x q (defArgs st) (defBody st) (defScope st) [] [] (He.ma K (He.ga K C) x) fd := F
  exact ⟨fd, funOf F, FunD.bindsN F hb⟩
def fn : List He.DefD := [dd "copied" s_copied, dd "rank" s_rank, dd "before" s_before, dd "leads_on" s_leads_on, dd "reached" s_reached, dd "thing_at" s_thing_at, dd "has" s_has, dd "_law_cell" s_law_cell, dd "_law_name_by" s_law_name_by, dd "_law_signs" s_law_signs, dd "_law_text_by" s_law_text_by, dd "_law_number_by" s_law_number_by, dd "_law_thing_by" s_law_thing_by, dd "_law_kind" s_law_kind, dd "_law_rows_compare" s_law_rows_compare, dd "_law_compare" s_law_compare, dd "_law_same" s_law_same, dd "_law_held" s_law_held, dd "_law_small" s_law_small, dd "_law_record" s_law_record, dd "_law_records" s_law_records, dd "_law_names" s_law_names, dd "_law_path" s_law_path, dd "_law_led" s_law_led, dd "_law_rows_due" s_law_rows_due, dd "_law_end" s_law_end, dd "_law_keys_due" s_law_keys_due, dd "law" s_law, dm "Order" "__init__" "Order.__init__" s_o_init [], dm "Order" "put" "Order.put" s_o_put [], dm "Order" "cleared" "Order.cleared" s_o_cleared [], dm "Order" "keys_in_order" "Order.keys_in_order" s_o_keys_in_order [], dm "Order" "between" "Order.between" s_o_between [.non, .non]]
def fa : List He.Fa := [.glo "copied", .glo "rank", .glo "before", .glo "leads_on", .glo "reached", .glo "thing_at", .glo "has", .glo "_law_cell", .glo "_law_name_by", .glo "_law_signs", .glo "_law_text_by", .glo "_law_number_by", .glo "_law_thing_by", .glo "_law_kind", .glo "_law_rows_compare", .glo "_law_compare", .glo "_law_same", .glo "_law_held", .glo "_law_small", .glo "_law_record", .glo "_law_records", .glo "_law_names", .glo "_law_path", .glo "_law_led", .glo "_law_rows_due", .glo "_law_end", .glo "_law_keys_due", .glo "law", .free "bool", .free "dict", .free "int", .free "isinstance", .free "len", .free "list", .free "min", .free "range", .free "sorted", .free "str", .free "tuple", .glo "Order", .cls "Order", .noat "Order" "nowhere", .noat "Order" "spots_of", .noat "Order" "way", .mkr "Order", .meth "Order" "put", .meth "Order" "cleared", .meth "Order" "keys_in_order", .meth "Order" "between"]
theorem facts {K : PySem.W.Frag} {h : Heap} {mg : Str → Option Value} (X : K.In h) (G : h.Ns mainGlobals mg) (c : He.SaysD fa fn K) : Txt K mg (He.ga K "Order") ∧ Defs K mg (He.ga K "Order") ∧ ∃ fd, Dfn K mg "law" s_law ["_law_script"] (He.ga K "law") fd ∧ ∀ (s : Shared) (us : List Value), us.length = (["_law_script"] : List Str).length → BindsTo s fd ⟨us, []⟩ ((["_law_script"] : List Str).zip us) := by
  have hbL : ∀ (kV doc pm : Value) (an : Option Addr) (cdv ct : Value) (us : List Value), us.length = (["_law_script"] : List Str).length → bindArgs (PySem.W.fnOf "law" "law" (defArgs s_law) (defBody s_law) (defScope s_law) .none kV doc pm an cdv ct) ⟨us, []⟩ = pure ((["_law_script"] : List Str).zip us) := fun _ _ _ _ _ _ us hl => match us, hl with | [_], _ => rfl
  have z0 := He.free_ok X G (c.fact 28 (f := .free "bool") rfl)
  have z1 := He.free_ok X G (c.fact 29 (f := .free "dict") rfl)
  have z2 := He.free_ok X G (c.fact 30 (f := .free "int") rfl)
  have z3 := He.free_ok X G (c.fact 31 (f := .free "isinstance") rfl)
  have z4 := He.free_ok X G (c.fact 32 (f := .free "len") rfl)
  have z5 := He.free_ok X G (c.fact 33 (f := .free "list") rfl)
  have z6 := He.free_ok X G (c.fact 34 (f := .free "min") rfl)
  have z7 := He.free_ok X G (c.fact 35 (f := .free "range") rfl)
  have z8 := He.free_ok X G (c.fact 36 (f := .free "sorted") rfl)
  have z9 := He.free_ok X G (c.fact 37 (f := .free "str") rfl)
  have z10 := He.free_ok X G (c.fact 38 (f := .free "tuple") rfl)
  have gC := He.glo_ok X G (c.fact 39 (f := .glo "Order") rfl)
  have kC := He.cls_ok (c.fact 40 (f := .cls "Order") rfl)
  have n0 := He.noat_ok (c.fact 41 (f := .noat "Order" "nowhere") rfl)
  have n1 := He.noat_ok (c.fact 42 (f := .noat "Order" "spots_of") rfl)
  have n2 := He.noat_ok (c.fact 43 (f := .noat "Order" "way") rfl)
  have mk := He.mkr_ok (c.fact 44 (f := .mkr "Order") rfl)
  have m_put := He.meth_ok (c.fact 45 (f := .meth "Order" "put") rfl)
  have m_cleared := He.meth_ok (c.fact 46 (f := .meth "Order" "cleared") rfl)
  have m_keys_in_order := He.meth_ok (c.fact 47 (f := .meth "Order" "keys_in_order") rfl)
  have m_between := He.meth_ok (c.fact 48 (f := .meth "Order" "between") rfl)
  refine ⟨⟨z0, z1, z2, z3, z4, z5, z6, z7, z8, z9, z10, gC, kC, n0, n1, n2⟩, ⟨?_, ?_, ?_, ?_, ?_, ?_, ?_, ?_, ?_, ?_, ?_, ?_, ?_, ?_, ?_, ?_, ?_, ?_, ?_, ?_, ?_, ?_, ?_, ?_, ?_, ?_, ?_, ?_, ?_, ?_, ?_, ?_⟩, ?_⟩
  · exact dfnOf (ps := ["thing"]) X G (c.def_ 0 (d := dd "copied" s_copied) rfl) (c.fact 0 (f := .glo "copied") rfl) fun _ _ _ _ _ _ us hl => match us, hl with | [_], _ => rfl
  · exact dfnOf (ps := ["thing"]) X G (c.def_ 1 (d := dd "rank" s_rank) rfl) (c.fact 1 (f := .glo "rank") rfl) fun _ _ _ _ _ _ us hl => match us, hl with | [_], _ => rfl
  · exact dfnOf (ps := ["one", "other"]) X G (c.def_ 2 (d := dd "before" s_before) rfl) (c.fact 2 (f := .glo "before") rfl) fun _ _ _ _ _ _ us hl => match us, hl with | [_, _], _ => rfl
  · exact dfnOf (ps := ["thing", "step"]) X G (c.def_ 3 (d := dd "leads_on" s_leads_on) rfl) (c.fact 3 (f := .glo "leads_on") rfl) fun _ _ _ _ _ _ us hl => match us, hl with | [_, _], _ => rfl
  · exact dfnOf (ps := ["thing", "path"]) X G (c.def_ 4 (d := dd "reached" s_reached) rfl) (c.fact 4 (f := .glo "reached") rfl) fun _ _ _ _ _ _ us hl => match us, hl with | [_, _], _ => rfl
  · exact dfnOf (ps := ["thing", "path"]) X G (c.def_ 5 (d := dd "thing_at" s_thing_at) rfl) (c.fact 5 (f := .glo "thing_at") rfl) fun _ _ _ _ _ _ us hl => match us, hl with | [_, _], _ => rfl
  · exact dfnOf (ps := ["thing", "path"]) X G (c.def_ 6 (d := dd "has" s_has) rfl) (c.fact 6 (f := .glo "has") rfl) fun _ _ _ _ _ _ us hl => match us, hl with | [_, _], _ => rfl
  · exact dfnOf (ps := ["_law_script", "_law_k"]) X G (c.def_ 7 (d := dd "_law_cell" s_law_cell) rfl) (c.fact 7 (f := .glo "_law_cell") rfl) fun _ _ _ _ _ _ us hl => match us, hl with | [_, _], _ => rfl
  · exact dfnOf (ps := ["_law_more"]) X G (c.def_ 8 (d := dd "_law_name_by" s_law_name_by) rfl) (c.fact 8 (f := .glo "_law_name_by") rfl) fun _ _ _ _ _ _ us hl => match us, hl with | [_], _ => rfl
  · exact dfnOf (ps := []) X G (c.def_ 9 (d := dd "_law_signs" s_law_signs) rfl) (c.fact 9 (f := .glo "_law_signs") rfl) fun _ _ _ _ _ _ us hl => match us, hl with | [], _ => rfl
  · exact dfnOf (ps := ["_law_more"]) X G (c.def_ 10 (d := dd "_law_text_by" s_law_text_by) rfl) (c.fact 10 (f := .glo "_law_text_by") rfl) fun _ _ _ _ _ _ us hl => match us, hl with | [_], _ => rfl
  · exact dfnOf (ps := ["_law_more"]) X G (c.def_ 11 (d := dd "_law_number_by" s_law_number_by) rfl) (c.fact 11 (f := .glo "_law_number_by") rfl) fun _ _ _ _ _ _ us hl => match us, hl with | [_], _ => rfl
  · exact dfnOf (ps := ["_law_script", "_law_k", "_law_deep"]) X G (c.def_ 12 (d := dd "_law_thing_by" s_law_thing_by) rfl) (c.fact 12 (f := .glo "_law_thing_by") rfl) fun _ _ _ _ _ _ us hl => match us, hl with | [_, _, _], _ => rfl
  · exact dfnOf (ps := ["_law_thing"]) X G (c.def_ 13 (d := dd "_law_kind" s_law_kind) rfl) (c.fact 13 (f := .glo "_law_kind") rfl) fun _ _ _ _ _ _ us hl => match us, hl with | [_], _ => rfl
  · exact dfnOf (ps := ["_law_one", "_law_other"]) X G (c.def_ 14 (d := dd "_law_rows_compare" s_law_rows_compare) rfl) (c.fact 14 (f := .glo "_law_rows_compare") rfl) fun _ _ _ _ _ _ us hl => match us, hl with | [_, _], _ => rfl
  · exact dfnOf (ps := ["_law_one", "_law_other"]) X G (c.def_ 15 (d := dd "_law_compare" s_law_compare) rfl) (c.fact 15 (f := .glo "_law_compare") rfl) fun _ _ _ _ _ _ us hl => match us, hl with | [_, _], _ => rfl
  · exact dfnOf (ps := ["_law_one", "_law_other"]) X G (c.def_ 16 (d := dd "_law_same" s_law_same) rfl) (c.fact 16 (f := .glo "_law_same") rfl) fun _ _ _ _ _ _ us hl => match us, hl with | [_, _], _ => rfl
  · exact dfnOf (ps := ["_law_thing"]) X G (c.def_ 17 (d := dd "_law_held" s_law_held) rfl) (c.fact 17 (f := .glo "_law_held") rfl) fun _ _ _ _ _ _ us hl => match us, hl with | [_], _ => rfl
  · exact dfnOf (ps := ["_law_script", "_law_k"]) X G (c.def_ 18 (d := dd "_law_small" s_law_small) rfl) (c.fact 18 (f := .glo "_law_small") rfl) fun _ _ _ _ _ _ us hl => match us, hl with | [_, _], _ => rfl
  · exact dfnOf (ps := ["_law_script", "_law_k"]) X G (c.def_ 19 (d := dd "_law_record" s_law_record) rfl) (c.fact 19 (f := .glo "_law_record") rfl) fun _ _ _ _ _ _ us hl => match us, hl with | [_, _], _ => rfl
  · exact dfnOf (ps := ["_law_script", "_law_high"]) X G (c.def_ 20 (d := dd "_law_records" s_law_records) rfl) (c.fact 20 (f := .glo "_law_records") rfl) fun _ _ _ _ _ _ us hl => match us, hl with | [_, _], _ => rfl
  · exact dfnOf (ps := ["_law_script"]) X G (c.def_ 21 (d := dd "_law_names" s_law_names) rfl) (c.fact 21 (f := .glo "_law_names") rfl) fun _ _ _ _ _ _ us hl => match us, hl with | [_], _ => rfl
  · exact dfnOf (ps := ["_law_script", "_law_k"]) X G (c.def_ 22 (d := dd "_law_path" s_law_path) rfl) (c.fact 22 (f := .glo "_law_path") rfl) fun _ _ _ _ _ _ us hl => match us, hl with | [_, _], _ => rfl
  · exact dfnOf (ps := ["_law_thing", "_law_path_here"]) X G (c.def_ 23 (d := dd "_law_led" s_law_led) rfl) (c.fact 23 (f := .glo "_law_led") rfl) fun _ _ _ _ _ _ us hl => match us, hl with | [_, _], _ => rfl
  · exact dfnOf (ps := ["_law_kept", "_law_path_here"]) X G (c.def_ 24 (d := dd "_law_rows_due" s_law_rows_due) rfl) (c.fact 24 (f := .glo "_law_rows_due") rfl) fun _ _ _ _ _ _ us hl => match us, hl with | [_, _], _ => rfl
  · exact dfnOf (ps := ["_law_script", "_law_k", "_law_rows"]) X G (c.def_ 25 (d := dd "_law_end" s_law_end) rfl) (c.fact 25 (f := .glo "_law_end") rfl) fun _ _ _ _ _ _ us hl => match us, hl with | [_, _, _], _ => rfl
  · exact dfnOf (ps := ["_law_rows", "_law_low", "_law_high"]) X G (c.def_ 26 (d := dd "_law_keys_due" s_law_keys_due) rfl) (c.fact 26 (f := .glo "_law_keys_due") rfl) fun _ _ _ _ _ _ us hl => match us, hl with | [_, _, _], _ => rfl
  · obtain ⟨fd, F, b⟩ := methOf (ps := ["self", "path"]) (c.def_ 28 (d := dm "Order" "__init__" "Order.__init__" s_o_init []) rfl) fun _ _ _ _ _ _ us hl => match us, hl with | [_, _], _ => rfl
    exact ⟨_, fd, F, mk, b⟩
  · obtain ⟨fd, F, b⟩ := methOf (ps := ["self", "key", "thing"]) (c.def_ 29 (d := dm "Order" "put" "Order.put" s_o_put []) rfl) fun _ _ _ _ _ _ us hl => match us, hl with | [_, _, _], _ => rfl
    exact ⟨_, fd, F, m_put, b⟩
  · obtain ⟨fd, F, b⟩ := methOf (ps := ["self", "key"]) (c.def_ 30 (d := dm "Order" "cleared" "Order.cleared" s_o_cleared []) rfl) fun _ _ _ _ _ _ us hl => match us, hl with | [_, _], _ => rfl
    exact ⟨_, fd, F, m_cleared, b⟩
  · obtain ⟨fd, F, b⟩ := methOf (ps := ["self"]) (c.def_ 31 (d := dm "Order" "keys_in_order" "Order.keys_in_order" s_o_keys_in_order []) rfl) fun _ _ _ _ _ _ us hl => match us, hl with | [_], _ => rfl
    exact ⟨_, fd, F, m_keys_in_order, b⟩
  · obtain ⟨fd, F⟩ := c.def_ 32 (d := dm "Order" "between" "Order.between" s_o_between [.non, .non]) rfl
    have F : FunD K "between" "Order.between" (defArgs s_o_between) (defBody s_o_between) (defScope s_o_between) [.non, .non] [] (He.ma K (He.ga K "Order") "between") fd := F
    refine ⟨_, fd, F, m_between, fun i hi => ?_, ?_, ?_⟩
    · match i, hi with
      | 0, _ =>
        obtain ⟨ds, v, b⟩ := FunD.binds1 (ps := ["self", "least", "most"]) F 3 2 (by simp) rfl fun _ _ _ _ _ _ _ us its hu hi => match us, hu, its, hi with | [_, _, _], _, [_, _], _ => ⟨_, rfl, rfl⟩
        exact ⟨ds, v, b⟩
      | 1, _ =>
        obtain ⟨ds, v, b⟩ := FunD.binds1 (ps := ["self", "least", "most"]) F 2 1 (by simp) rfl fun _ _ _ _ _ _ _ us its hu hi => match us, hu, its, hi with | [_, _], _, [_, _], _ => ⟨_, rfl, rfl⟩
        exact ⟨ds, v, b⟩
      | 2, _ =>
        obtain ⟨ds, v, b⟩ := FunD.binds1 (ps := ["self", "least", "most"]) F 1 0 (by simp) rfl fun _ _ _ _ _ _ _ us its hu hi => match us, hu, its, hi with | [_], _, [_, _], _ => ⟨_, rfl, rfl⟩
        exact ⟨ds, v, b⟩
    · obtain ⟨its, h⟩ := FunD.kbindsD (ps := ["self", "least", "most"]) F 1 ["least"] (fun vs ds zs => vs ++ zs ++ ds.drop 1) (by simp) (fun r1 r2 r3 => (r1.append r3).append (r2.drop 1)) fun _ _ _ _ _ _ _ us its ws hu hi hw => match us, hu, its, hi, ws, hw with | [_], _, [_, _], _, [_], _ => ⟨_, rfl, rfl⟩
      exact ⟨_, h⟩
    · obtain ⟨its, h⟩ := FunD.kbindsD (ps := ["self", "least", "most"]) F 1 ["most"] (fun vs ds zs => vs ++ ds.take 1 ++ zs) (by simp) (fun r1 r2 r3 => (r1.append (r2.take 1)).append r3) fun _ _ _ _ _ _ _ us its ws hu hi hw => match us, hu, its, hi, ws, hw with | [_], _, [_, _], _, [_], _ => ⟨_, rfl, rfl⟩
      exact ⟨_, h⟩
  · obtain ⟨fd, F⟩ := c.def_ 27 (d := dd "law" s_law) rfl
    have F : FunD K "law" "law" (defArgs s_law) (defBody s_law) (defScope s_law) [] [] (He.ga K "law") fd := F
    exact ⟨fd, ⟨funOf F, He.glo_ok X G (c.fact 27 (f := .glo "law") rfl), FunD.bindsN F hbL⟩, FunD.bindsA F hbL⟩
end G
end

section
set_option Elab.async false
set_option maxRecDepth 100000
set_option linter.all false
set_option maxHeartbeats 0
namespace G
open PySem PySem.Spec
open PyProof.Rows hiding intD
open L2 hiding gCons gNil gLst
open VL
def spLaw (K : PySem.W.Frag) : Sp := fun vs H Q _ => ∃ (a : Addr) (ns : List Int), vs = [.ref a] ∧ SqL K H a (ns.map V.int) ∧ ns.length ≤ 63 ∧ ∀ H', Q (.bl true) H'
theorem law_call {P : Program} {w : World} {K : PySem.W.Frag} {mg : Str → Option Value} {base : Heap} {cO : Addr} (T : Txt K mg cO) (A : Defs K mg cO) {f : Addr} {fd : FuncData} (d : Dfn K mg "law" s_law ["_law_script"] f fd) : FnOk P w K mg base (L2.CX P w) 60 f fd ["_law_script"] (spLaw K) := by
  refine (chain (P := P) (w := w) (base := base) T A d.fn).imp fun vs H Q E ⟨a, ns, e, hS, hl, hQ⟩ => ?_
  subst e
  refine ⟨H, [.scr ns], Same.refl _, ⟨.ref a, [], rfl, ⟨a, rfl, hS⟩, rfl⟩, rfl, ?_⟩
  rw [law_ok cO (ns := ns) (by omega)]
  intro v H' H0' F e s f
  obtain ⟨rfl, rfl⟩ := s
  exact hQ H'
theorem law_call0 {P : Program} {w : World} {K : PySem.W.Frag} {mg : Str → Option Value} {base : Heap} {cO : Addr} (T : Txt K mg cO) (A : Defs K mg cO) {f : Addr} {fd : FuncData} (d : Dfn K mg "law" s_law ["_law_script"] f fd) : FnOk P w K mg base CX0 60 f fd ["_law_script"] (spLaw K) := by
  have F := law_call (P := P) (w := w) (base := base) T A d
  refine ⟨F.len, fun A outer s H args us vs Q E hr he hb hv h => codeAny_mono (F.run A outer s H args us vs Q (fun _ _ _ => False) hr he hb hv h) fun r s' q => ?_⟩
  cases r with
  | ok fl => cases fl <;> exact q
  | error e =>
    obtain ⟨_, _, _, _, _, _, _, _, _, _, _, _, hE⟩ := q
    exact hE.elim
abbrev R : PySem.W.OpenRow := PySem.W.OpenLaw.row PySem.Challenge.rw_cabinet_k77_between_ends
abbrev hk : PySem.W.Hook := He.hookX 6 fa fn [] [] fun _ => true
def ob (s : PySem.W.SharedT) : He.AlX := He.obsX 6 fa fn [] [] (fun _ => true) (HandSHeadRun.getT s)
theorem ob_eq (s : PySem.W.SharedT) : ob s = hk.obs s.abs := He.obsX_eq (HandSHeadRun.getT_eq s)
end G
end

section
set_option Elab.async false
set_option maxRecDepth 100000
set_option linter.all false
set_option maxHeartbeats 0
namespace G
open PySem PySem.Spec
open PyProof.Rows hiding intD
open L2 hiding gCons gNil gLst
open VL
def loose : List Str := ["_wall", "CabinetError", "NoPlace", "copied", "rank", "before", "leads_on", "reached", "thing_at", "has", "Order", "_law_cell", "_law_name_by", "_law_signs", "_law_text_by", "_law_number_by", "_law_thing_by", "_law_kind", "_law_rows_compare", "_law_compare", "_law_same", "_law_held", "_law_small", "_law_record", "_law_records", "_law_names", "_law_path", "_law_led", "_law_rows_due", "_law_end", "_law_keys_due"]
theorem run (w : World) : HandSHeadRun.RunEq R (PySem.W.view R.prog [37]) hk ob 2000 loose w := by
  intro os
  kernel_rfl
end G
open PySem PySem.W PySem.Calls PyProof.Rows
theorem PySem.Challenge.cw_cabinet_k77_between_ends_holds : PySem.Challenge.rw_cabinet_k77_between_ends.Holds := by
  w_on; o_law
  refine HandSHeadRun.head_any (r := OpenLaw.row PySem.Challenge.rw_cabinet_k77_between_ends) (q := view (OpenLaw.row PySem.Challenge.rw_cabinet_k77_between_ends).prog [37]) (H := G.hk) (ob := G.ob) (M := 2000) (loose := G.loose) (d := HandSHeadRun.topDef (OpenLaw.row PySem.Challenge.rw_cabinet_k77_between_ends).prog 37) (kwd := []) G.ob_eq
    (by kernel_rfl) (fun s => by kernel_rfl) G.run (by kernel_rfl) (by kernel_rfl) (by kernel_rfl) (by rfl) (by first | assumption | decide +kernel) (by decide +kernel) ⟨rfl, rfl, rfl, rfl, rfl, by decide +kernel⟩ ?hw ?hc
  case hw => w_witness2
  case hc =>
    refine L2.walk_ofE (l := PySem.Challenge.rw_cabinet_k77_between_ends) (n := 63) (k := 60) (x := "_law_script") (CX := L2.CX0) rfl (by decide) (by kernel_rfl) ⟨rfl, by decide, by decide⟩ ?F (fun _ _ _ _ z => z)
    intro w mg fa h Y Gn hmg0
    obtain ⟨K, KX, c⟩ := Y
    have hmg : mg ("law" : PySem.Str) = some (.ref fa) := by
      have e : (HandSHeadRun.topDef (OpenLaw.row PySem.Challenge.rw_cabinet_k77_between_ends).prog 37).name = ("law" : PySem.Str) := by kernel_rfl
      rw [← e]
      exact hmg0
    obtain ⟨T, A, fd, d, hb⟩ := G.facts KX Gn c.t.d
    have e := hmg.symm.trans d.mg
    cases e
    exact ⟨K, fd, G.spLaw K, KX, fun s v => hb s [v] rfl, fun H a ns hl _ hS => ⟨a, ns, rfl, hS, hl, fun _ => rfl⟩, fun base _ _ => G.law_call0 T A d⟩
end
