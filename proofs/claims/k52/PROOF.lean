import PyProof.Rows.All
import Wide.All
import OpenK.AllK
import Wide.FinOn
import HandS.ForMost
import HandS.Deep
import HandS.TupLe
import HandS.SortOrd
import HandS.SortRule
import HandS.SortInts
import HandS.IsInst
import HandS.Style
import HandS.More
import HandS.SetFor
import PySem.Challenge.RW_pairsheath_k52_no_choice_beats_prices
set_option Elab.async false
set_option linter.all false
set_option maxRecDepth 100000
/-! Values without a heap (D), how they stand in a heap (Rp), a def's frame over them (Sim). -/
namespace Ev
open PySem PySem.Spec L2
open PyProof.Rows hiding St

/-- data of any depth -/
inductive D where
  | non | bl (b : Bool) | int (i : Int) | str (x : Str)
  | tup (xs : List D) | lst (xs : List D) | fl (xs : List D)
  | dk (kvs : List (Key × D)) | dt (kvs : List (List Key × D))
  | ins (C : Addr) (fs : List (Str × D)) | obj (C : Addr) (fs : List (Str × D))

/-- how much of a value is ours alone: nothing, its top object, all of it -/
inductive Lv where
  | shr | top | full
  deriving DecidableEq
def ch : Lv → Lv
  | .full => .full
  | _ => .shr

mutual
/-- nothing in it can be changed -/
def imm : D → Bool
  | .non => true | .bl _ => true | .int _ => true | .str _ => true
  | .tup xs => immAll xs | .fl xs => immAll xs
  | _ => false
def immAll : List D → Bool
  | [] => true
  | d :: ds => imm d && immAll ds
end

/-- the objects that may be changed, with what they hold -/
inductive Node : D → HO → List V → List D → Prop
  | lst {vs : List V} {ds : List D} : Node (.lst ds) (.lst vs) vs ds
  | dk {kv : List (Key × V)} {kd : List (Key × D)} : kv.map (·.1) = kd.map (·.1) → Node (.dk kd) (.dK kv) (kv.map (·.2)) (kd.map (·.2))
  | dt {kv : List (List Key × V)} {kd : List (List Key × D)} : kv.map (·.1) = kd.map (·.1) → Node (.dt kd) (.dT kv) (kv.map (·.2)) (kd.map (·.2))
  | ins {C dx : Addr} {fv : List (Str × V)} {fd : List (Str × D)} : fv.map (·.1) = fd.map (·.1) → Node (.ins C fd) (.ins C dx fv) (fv.map (·.2)) (fd.map (·.2))

/-- a list that never changes: a frozen one, one of the written part -/
def KSeq (K : PySem.W.Frag) (H : Hp) (a : Addr) (xs : List V) : Prop :=
  (∃ o, H a = some (.frz o (.lst xs))) ∨ ∃ (o : Obj) (its : Array Value) (n : Nat), K.lookup a = some o ∧ o.cls = .type "list" ∧ o.dict = none ∧ o.data = .seq its n ∧ its.size ≤ sizeLine ∧ Vals xs its.toList
mutual
/-- the value v stands for d in the heap H; F: the objects that are ours alone; all others that could be changed are in S -/
inductive Rp (K : PySem.W.Frag) (S : Addr → Prop) (H : Hp) : Lv → V → D → List Addr → Prop
  | non {l : Lv} : Rp K S H l .non .non []
  | bl {l : Lv} {b : Bool} : Rp K S H l (.bl b) (.bl b) []
  | int {l : Lv} {i : Int} : Rp K S H l (.int i) (.int i) []
  | str {l : Lv} {x : Str} : Rp K S H l (.str x) (.str x) []
  | tup {l : Lv} {a : Addr} {vs : List V} {ds : List D} {F : List Addr} : H a = some (.tup vs) → Rps K S H l vs ds F → Rp K S H l (.ref a) (.tup ds) F
  | obj {l : Lv} {a C dx : Addr} {fv : List (Str × V)} {fd : List (Str × D)} : H a = some (.ins C dx fv) → S a → fv.map (·.1) = fd.map (·.1) → Rps K S H .shr (fv.map (·.2)) (fd.map (·.2)) [] → Rp K S H l (.ref a) (.obj C fd) []
  | fl {l : Lv} {a : Addr} {vs : List V} {ds : List D} : KSeq K H a vs → Rps K S H .shr vs ds [] → Rp K S H l (.ref a) (.fl ds) []
  | nd0 {a : Addr} {o : HO} {d : D} {vs : List V} {ds : List D} : Node d o vs ds → H a = some o → S a → Rps K S H .shr vs ds [] → Rp K S H .shr (.ref a) d []
  | nd1 {l : Lv} {a : Addr} {o : HO} {d : D} {vs : List V} {ds : List D} {F : List Addr} : l ≠ .shr → Node d o vs ds → H a = some o → Rps K S H (ch l) vs ds F → Rp K S H l (.ref a) d (a :: F)
inductive Rps (K : PySem.W.Frag) (S : Addr → Prop) (H : Hp) : Lv → List V → List D → List Addr → Prop
  | nil {l : Lv} : Rps K S H l [] [] []
  | cons {l : Lv} {v : V} {d : D} {vs : List V} {ds : List D} {F G : List Addr} : Rp K S H l v d F → Rps K S H l vs ds G → Rps K S H l (v :: vs) (d :: ds) (F ++ G)
end

section
variable {K : PySem.W.Frag} {S S' : Addr → Prop} {H H' : Hp} {l : Lv} {v : V} {d : D} {F : List Addr}
mutual
theorem Rp.shr0 : ∀ {v : V} {d : D} {F : List Addr}, Rp K S H .shr v d F → F = []
  | _, _, _, .non => rfl
  | _, _, _, .bl => rfl
  | _, _, _, .int => rfl
  | _, _, _, .str => rfl
  | _, _, _, .tup _ h => Rps.shr0 h
  | _, _, _, .obj _ _ _ _ => rfl
  | _, _, _, .fl _ _ => rfl
  | _, _, _, .nd0 _ _ _ _ => rfl
  | _, _, _, .nd1 h _ _ _ => absurd rfl h
theorem Rps.shr0 : ∀ {vs : List V} {ds : List D} {F : List Addr}, Rps K S H .shr vs ds F → F = []
  | _, _, _, .nil => rfl
  | _, _, _, .cons h1 h2 => by rw [Rp.shr0 h1, Rps.shr0 h2]; rfl
end

/-- what the heap must keep for it -/
def Keeps (S : Addr → Prop) (F : List Addr) (H H' : Hp) : Prop :=
  ∀ b o, H b = some o → (S b ∨ b ∈ F ∨ (∃ xs, o = .tup xs) ∨ ∃ o' u, o = .frz o' u) → H' b = some o
theorem Keeps.sub {F G : List Addr} (k : Keeps S G H H') (h : ∀ a ∈ F, a ∈ G) : Keeps S F H H' := fun b o e q =>
  k b o e (q.imp id fun q => q.imp (h b) id)
theorem Keeps.same (h : Same H H') : Keeps S F H H' := fun b o e _ => h b o e
theorem rd_keep {a : Addr} {u : HO} (r : Rd H a u) (s : S a) (k : Keeps S F H H') : Rd H' a u := by
  rcases r with e | ⟨o, e⟩
  · exact .inl (k a _ e (.inl s))
  · exact .inr ⟨o, k a _ e (.inl s)⟩
theorem sqt_keep {a : Addr} {vs : List V} (r : SqT K H a vs) (k : Keeps S F H H') : SqT K H' a vs := by
  rcases r with (e | ⟨o, e⟩) | r
  · exact .inl (.inl (k a _ e (.inr (.inr (.inl ⟨_, rfl⟩)))))
  · exact .inl (.inr ⟨o, k a _ e (.inr (.inr (.inr ⟨_, _, rfl⟩)))⟩)
  · exact .inr r
theorem kseq_keep {a : Addr} {vs : List V} (r : KSeq K H a vs) (k : Keeps S F H H') : KSeq K H' a vs := by
  rcases r with ⟨o, e⟩ | r
  · exact .inl ⟨o, k a _ e (.inr (.inr (.inr ⟨_, _, rfl⟩)))⟩
  · exact .inr r
theorem KSeq.sq {a : Addr} {vs : List V} (r : KSeq K H a vs) : SqL K H a vs := by
  rcases r with r | r
  · exact .inl (.inr r)
  · exact .inr r
theorem KSeq.of {a : Addr} {vs : List V} (r : SqL K H a vs) (h : ∀ xs, H a ≠ some (.lst xs)) : KSeq K H a vs := by
  rcases r with (r | r) | r
  · exact absurd r (h _)
  · exact .inl r
  · exact .inr r
mutual
theorem Rp.keep : ∀ {l : Lv} {v : V} {d : D} {F : List Addr}, Rp K S H l v d F → Keeps S F H H' → Rp K S H' l v d F
  | _, _, _, _, .non, _ => .non
  | _, _, _, _, .bl, _ => .bl
  | _, _, _, _, .int, _ => .int
  | _, _, _, _, .str, _ => .str
  | _, _, _, _, .tup h1 h2, k => .tup (k _ _ h1 (.inr (.inr (.inl ⟨_, rfl⟩)))) (Rps.keep h2 k)
  | _, _, _, _, .obj h1 h2 h3 h4, k => .obj (k _ _ h1 (.inl h2)) h2 h3 (Rps.keep h4 (k.sub fun _ z => nomatch z))
  | _, _, _, _, .fl h1 h3, k => .fl (kseq_keep h1 k) (Rps.keep h3 (k.sub fun _ z => nomatch z))
  | _, _, _, _, .nd0 h0 h1 h2 h3, k => .nd0 h0 (k _ _ h1 (.inl h2)) h2 (Rps.keep h3 k)
  | _, _, _, _, .nd1 h0 h1 h2 h3, k => .nd1 h0 h1 (k _ _ h2 (.inr (.inl List.mem_cons_self))) (Rps.keep h3 (k.sub fun _ z => List.mem_cons_of_mem _ z))
theorem Rps.keep : ∀ {l : Lv} {vs : List V} {ds : List D} {F : List Addr}, Rps K S H l vs ds F → Keeps S F H H' → Rps K S H' l vs ds F
  | _, _, _, _, .nil, _ => .nil
  | _, _, _, _, .cons h1 h2, k => .cons (Rp.keep h1 (k.sub fun _ z => List.mem_append_left _ z)) (Rps.keep h2 (k.sub fun _ z => List.mem_append_right _ z))
end
mutual
theorem Rp.mono (h : ∀ a, S a → S' a) : ∀ {l : Lv} {v : V} {d : D} {F : List Addr}, Rp K S H l v d F → Rp K S' H l v d F
  | _, _, _, _, .non => .non
  | _, _, _, _, .bl => .bl
  | _, _, _, _, .int => .int
  | _, _, _, _, .str => .str
  | _, _, _, _, .tup h1 h2 => .tup h1 (Rps.mono h h2)
  | _, _, _, _, .obj h1 h2 h3 h4 => .obj h1 (h _ h2) h3 (Rps.mono h h4)
  | _, _, _, _, .fl h1 h3 => .fl h1 (Rps.mono h h3)
  | _, _, _, _, .nd0 h0 h1 h2 h3 => .nd0 h0 h1 (h _ h2) (Rps.mono h h3)
  | _, _, _, _, .nd1 h0 h1 h2 h3 => .nd1 h0 h1 h2 (Rps.mono h h3)
theorem Rps.mono (h : ∀ a, S a → S' a) : ∀ {l : Lv} {vs : List V} {ds : List D} {F : List Addr}, Rps K S H l vs ds F → Rps K S' H l vs ds F
  | _, _, _, _, .nil => .nil
  | _, _, _, _, .cons h1 h2 => .cons (Rp.mono h h1) (Rps.mono h h2)
end
mutual
/-- given away: it is nobody's alone any more -/
theorem Rp.give (h : ∀ a, S a → S' a) : ∀ {l : Lv} {v : V} {d : D} {F : List Addr}, Rp K S H l v d F → (∀ a ∈ F, S' a) → Rp K S' H .shr v d []
  | _, _, _, _, .non, _ => .non
  | _, _, _, _, .bl, _ => .bl
  | _, _, _, _, .int, _ => .int
  | _, _, _, _, .str, _ => .str
  | _, _, _, _, .tup h1 h2, k => .tup h1 (Rps.give h h2 k)
  | _, _, _, _, .obj h1 h2 h3 h4, k => .obj h1 (h _ h2) h3 (Rps.mono h h4)
  | _, _, _, _, .fl h1 h3, k => .fl h1 (Rps.mono h h3)
  | _, _, _, _, .nd0 h0 h1 h2 h3, k => .nd0 h0 h1 (h _ h2) (Rps.mono h h3)
  | _, _, _, _, .nd1 h0 h1 h2 h3, k => .nd0 h1 h2 (k _ List.mem_cons_self) (Rps.give h h3 fun a z => k a (List.mem_cons_of_mem _ z))
theorem Rps.give (h : ∀ a, S a → S' a) : ∀ {l : Lv} {vs : List V} {ds : List D} {F : List Addr}, Rps K S H l vs ds F → (∀ a ∈ F, S' a) → Rps K S' H .shr vs ds []
  | _, _, _, _, .nil, _ => .nil
  | _, _, _, _, .cons h1 h2, k => Rps.cons (F := []) (G := []) (Rp.give h h1 fun a z => k a (List.mem_append_left _ z)) (Rps.give h h2 fun a z => k a (List.mem_append_right _ z))
end
mutual
theorem Rp.of_imm {l' : Lv} : ∀ {l : Lv} {v : V} {d : D} {F : List Addr}, Rp K S H l v d F → imm d = true → F = [] ∧ Rp K S' H l' v d []
  | _, _, _, _, .non, _ => ⟨rfl, .non⟩
  | _, _, _, _, .bl, _ => ⟨rfl, .bl⟩
  | _, _, _, _, .int, _ => ⟨rfl, .int⟩
  | _, _, _, _, .str, _ => ⟨rfl, .str⟩
  | _, _, _, _, .tup h1 h2, e => let ⟨q, r⟩ := Rps.of_imm h2 (by simpa only [imm] using e); ⟨q, .tup h1 r⟩
  | _, _, _, _, .obj _ _ _ _, e => by simp only [imm] at e; cases e
  | _, _, _, _, .fl h1 h2, e => ⟨rfl, .fl h1 (Rps.of_imm h2 (by simpa only [imm] using e)).2⟩
  | _, _, _, _, .nd0 h _ _ _, e => by cases h <;> (simp only [imm] at e; cases e)
  | _, _, _, _, .nd1 _ h _ _, e => by cases h <;> (simp only [imm] at e; cases e)
theorem Rps.of_imm {l' : Lv} : ∀ {l : Lv} {vs : List V} {ds : List D} {F : List Addr}, Rps K S H l vs ds F → immAll ds = true → F = [] ∧ Rps K S' H l' vs ds []
  | _, _, _, _, .nil, _ => ⟨rfl, .nil⟩
  | _, _, _, _, .cons h1 h2, e => by
    simp only [immAll, Bool.and_eq_true] at e
    obtain ⟨q1, r1⟩ := Rp.of_imm (l' := l') h1 e.1
    obtain ⟨q2, r2⟩ := Rps.of_imm (l' := l') h2 e.2
    exact ⟨by rw [q1, q2]; rfl, Rps.cons (F := []) (G := []) r1 r2⟩
end
theorem Rp.same (h : Rp K S H l v d F) (s : Same H H') : Rp K S H' l v d F := h.keep (.same s)
theorem Rps.same {vs : List V} {ds : List D} (h : Rps K S H l vs ds F) (s : Same H H') : Rps K S H' l vs ds F := h.keep (.same s)
theorem Rps.len : ∀ {vs : List V} {ds : List D} {F : List Addr}, Rps K S H l vs ds F → vs.length = ds.length
  | _, _, _, .nil => rfl
  | _, _, _, .cons _ h => by rw [List.length_cons, List.length_cons, Rps.len h]
/-- inversions -/
theorem Rp.int_inv {i : Int} (h : Rp K S H l v (.int i) F) : v = .int i ∧ F = [] := by
  cases h with
  | int => exact ⟨rfl, rfl⟩
  | nd0 h => cases h
  | nd1 _ h => cases h
theorem Rp.bl_inv {b : Bool} (h : Rp K S H l v (.bl b) F) : v = .bl b ∧ F = [] := by
  cases h with
  | bl => exact ⟨rfl, rfl⟩
  | nd0 h => cases h
  | nd1 _ h => cases h
theorem Rp.str_inv {x : Str} (h : Rp K S H l v (.str x) F) : v = .str x ∧ F = [] := by
  cases h with
  | str => exact ⟨rfl, rfl⟩
  | nd0 h => cases h
  | nd1 _ h => cases h
theorem Rp.non_inv (h : Rp K S H l v .non F) : v = .non ∧ F = [] := by
  cases h with
  | non => exact ⟨rfl, rfl⟩
  | nd0 h => cases h
  | nd1 _ h => cases h
theorem Rp.tup_inv {ds : List D} (h : Rp K S H l v (.tup ds) F) : ∃ a vs, v = .ref a ∧ H a = some (.tup vs) ∧ Rps K S H l vs ds F := by
  cases h with
  | tup h1 h2 => exact ⟨_, _, rfl, h1, h2⟩
  | nd0 h => cases h
  | nd1 _ h => cases h
/-- a list that is read -/
theorem Rp.lst_inv {ds : List D} (h : Rp K S H l v (.lst ds) F) : ∃ a vs G, v = .ref a ∧ H a = some (.lst vs) ∧ Rps K S H (ch l) vs ds G ∧ (∀ b ∈ G, b ∈ F) ∧ (F.Nodup → G.Nodup) := by
  cases h with
  | nd0 h h1 h2 h3 => cases h; exact ⟨_, _, _, rfl, h1, h3, fun _ z => z, id⟩
  | nd1 h0 h h1 h2 => cases h; exact ⟨_, _, _, rfl, h1, h2, fun _ z => List.mem_cons_of_mem _ z, fun n => (List.nodup_cons.mp n).2⟩
theorem Rp.fl_inv {ds : List D} (h : Rp K S H l v (.fl ds) F) : ∃ a vs, v = .ref a ∧ KSeq K H a vs ∧ Rps K S H .shr vs ds [] ∧ F = [] := by
  cases h with
  | fl h1 h2 => exact ⟨_, _, rfl, h1, h2, rfl⟩
  | nd0 h => cases h
  | nd1 _ h => cases h
/-- what is tracked -/
theorem rd_trk {a : Addr} {u : HO} (r : Rd H a u) : H a ≠ none := by
  rcases r with e | ⟨o, e⟩ <;> (rw [e]; exact fun z => nomatch z)
mutual
theorem Rp.trk : ∀ {l : Lv} {v : V} {d : D} {F : List Addr}, Rp K S H l v d F → Rp K (fun a => S a ∧ H a ≠ none) H l v d F
  | _, _, _, _, .non => .non
  | _, _, _, _, .bl => .bl
  | _, _, _, _, .int => .int
  | _, _, _, _, .str => .str
  | _, _, _, _, .tup h1 h2 => .tup h1 (Rps.trk h2)
  | _, _, _, _, .obj h1 h2 h3 h4 => .obj h1 ⟨h2, by rw [h1]; exact fun z => nomatch z⟩ h3 (Rps.trk h4)
  | _, _, _, _, .fl h1 h3 => .fl h1 (Rps.trk h3)
  | _, _, _, _, .nd0 h0 h1 h2 h3 => .nd0 h0 h1 ⟨h2, by rw [h1]; exact fun z => nomatch z⟩ (Rps.trk h3)
  | _, _, _, _, .nd1 h0 h1 h2 h3 => .nd1 h0 h1 h2 (Rps.trk h3)
theorem Rps.trk : ∀ {l : Lv} {vs : List V} {ds : List D} {F : List Addr}, Rps K S H l vs ds F → Rps K (fun a => S a ∧ H a ≠ none) H l vs ds F
  | _, _, _, _, .nil => .nil
  | _, _, _, _, .cons h1 h2 => .cons (Rp.trk h1) (Rps.trk h2)
end
mutual
theorem Rp.own_trk : ∀ {l : Lv} {v : V} {d : D} {F : List Addr}, Rp K S H l v d F → ∀ a ∈ F, H a ≠ none
  | _, _, _, _, .non => fun _ z => nomatch z
  | _, _, _, _, .bl => fun _ z => nomatch z
  | _, _, _, _, .int => fun _ z => nomatch z
  | _, _, _, _, .str => fun _ z => nomatch z
  | _, _, _, _, .tup h1 h2 => Rps.own_trk h2
  | _, _, _, _, .obj h1 h2 h3 h4 => fun _ z => nomatch z
  | _, _, _, _, .fl h1 h3 => fun _ z => nomatch z
  | _, _, _, _, .nd0 h0 h1 h2 h3 => fun _ z => nomatch z
  | _, _, _, _, .nd1 h0 h1 h2 h3 => fun a z => (List.mem_cons.mp z).elim (fun e => by rw [e, h2]; exact fun z => nomatch z) (Rps.own_trk h3 a)
theorem Rps.own_trk : ∀ {l : Lv} {vs : List V} {ds : List D} {F : List Addr}, Rps K S H l vs ds F → ∀ a ∈ F, H a ≠ none
  | _, _, _, _, .nil => fun _ z => nomatch z
  | _, _, _, _, .cons h1 h2 => fun a z => (List.mem_append.mp z).elim (Rp.own_trk h1 a) (Rps.own_trk h2 a)
end
theorem Rps.get : ∀ {vs : List V} {ds : List D} {F : List Addr} {i : Nat} {d : D}, Rps K S H l vs ds F → ds[i]? = some d → ∃ v G, vs[i]? = some v ∧ Rp K S H l v d G ∧ ∀ b ∈ G, b ∈ F
  | _, _, _, _, _, .nil, e => by simp at e
  | _, _, _, 0, _, .cons h1 _, e => by
    simp at e; subst e
    exact ⟨_, _, rfl, h1, fun _ z => List.mem_append_left _ z⟩
  | _, _, _, i + 1, d, .cons _ h2, e => by
    obtain ⟨v, G, e1, r, s⟩ := Rps.get (i := i) (d := d) h2 (by simpa using e)
    exact ⟨v, G, by simpa using e1, r, fun b z => List.mem_append_right _ (s b z)⟩
theorem Rps.app : ∀ {vs : List V} {ds : List D} {F : List Addr} {us : List V} {es : List D} {G : List Addr}, Rps K S H l vs ds F → Rps K S H l us es G → Rps K S H l (vs ++ us) (ds ++ es) (F ++ G)
  | _, _, _, _, _, _, .nil, q => q
  | _, _, _, _, _, _, .cons h1 h2, q => by
    rw [List.append_assoc]
    exact .cons h1 (Rps.app h2 q)
theorem Rps.take : ∀ {vs : List V} {ds : List D} (n : Nat), Rps K S H .shr vs ds [] → Rps K S H .shr (vs.take n) (ds.take n) []
  | _, _, 0, _ => .nil
  | _, _, n + 1, h => by
    generalize hF : ([] : List Addr) = F at h
    cases h with
    | nil => exact .nil
    | cons h1 h2 =>
      have e1 := h1.shr0
      have e2 := h2.shr0
      subst e1 e2
      exact Rps.cons (F := []) (G := []) h1 (Rps.take n h2)
theorem Rps.drop : ∀ {vs : List V} {ds : List D} (n : Nat), Rps K S H .shr vs ds [] → Rps K S H .shr (vs.drop n) (ds.drop n) []
  | _, _, 0, h => h
  | _, _, n + 1, h => by
    generalize hF : ([] : List Addr) = F at h
    cases h with
    | nil => exact .nil
    | cons h1 h2 =>
      have e1 := h1.shr0
      have e2 := h2.shr0
      subst e1 e2
      exact Rps.drop n h2
end

section
variable {K : PySem.W.Frag} {S S' : Addr → Prop} {H H' : Hp} {l : Lv} {v : V} {d : D} {F : List Addr}
theorem mut_ne {a : Addr} (m : Mut (H a)) : H a ≠ none := fun e => by rw [e] at m; exact m
theorem Node.mu {d : D} {o : HO} {vs : List V} {ds : List D} (h : Node d o vs ds) : Mut (some o) := by cases h <;> trivial
mutual
theorem Rp.own_mut : ∀ {l : Lv} {v : V} {d : D} {F : List Addr}, Rp K S H l v d F → ∀ a ∈ F, Mut (H a)
  | _, _, _, _, .non => fun _ z => nomatch z
  | _, _, _, _, .bl => fun _ z => nomatch z
  | _, _, _, _, .int => fun _ z => nomatch z
  | _, _, _, _, .str => fun _ z => nomatch z
  | _, _, _, _, .tup h1 h2 => Rps.own_mut h2
  | _, _, _, _, .obj h1 h2 h3 h4 => fun _ z => nomatch z
  | _, _, _, _, .fl h1 h3 => fun _ z => nomatch z
  | _, _, _, _, .nd0 h0 h1 h2 h3 => fun _ z => nomatch z
  | _, _, _, _, .nd1 h0 h1 h2 h3 => fun a z => (List.mem_cons.mp z).elim (fun e => by rw [e, h2]; exact h1.mu) (Rps.own_mut h3 a)
theorem Rps.own_mut : ∀ {l : Lv} {vs : List V} {ds : List D} {F : List Addr}, Rps K S H l vs ds F → ∀ a ∈ F, Mut (H a)
  | _, _, _, _, .nil => fun _ z => nomatch z
  | _, _, _, _, .cons h1 h2 => fun a z => (List.mem_append.mp z).elim (Rp.own_mut h1 a) (Rps.own_mut h2 a)
end
theorem mut_same {a : Addr} (m : Mut (H a)) (s : Same H H') : Mut (H' a) := by
  cases e : H a with
  | none => rw [e] at m; exact m.elim
  | some o => rw [s a o e]; rw [e] at m; exact m
end

/-- a slot of a def's frame: the value, what of it is ours alone, whether it may share with what stood at the entry -/
structure Sv where
  d : D
  l : Lv
  al : Bool
/-- an expression's value; vw: it may be a part of what a slot holds alone -/
structure Rv where
  d : D
  l : Lv
  al : Bool
  vw : Bool
abbrev Env := List (Option Sv)
/-- what the shared objects of a value are -/
def SR (N : Addr → Prop) (L : List Addr) (al vw : Bool) : Addr → Prop := fun a => (al = false → N a) ∧ (vw = false → a ∉ L)

inductive Slots (K : PySem.W.Frag) (N : Addr → Prop) (L : List Addr) (H : Hp) : St → Env → List Addr → Prop
  | nil : Slots K N L H [] [] []
  | no {x : Option V} {σ : St} {ρ : Env} {F : List Addr} : Slots K N L H σ ρ F → Slots K N L H (x :: σ) (none :: ρ) F
  | so {v : V} {s : Sv} {σ : St} {ρ : Env} {F G : List Addr} : Rp K (SR N L s.al false) H s.l v s.d F → Slots K N L H σ ρ G → Slots K N L H (some v :: σ) (some s :: ρ) (F ++ G)

/-- the frame σ over H bears the values ρ; N: what is new since the entry (H0), or handed over; L: what is ours alone -/
structure Sim (K : PySem.W.Frag) (N : Addr → Prop) (H0 : Hp) (ρ : Env) (σ : St) (H : Hp) (L : List Addr) : Prop where
  kp : ∀ b o, H0 b = some o → ¬ N b → H b = some o
  nw : ∀ b, H b = none → N b
  nd : L.Nodup
  ln : ∀ a ∈ L, N a
  mu : ∀ a ∈ L, Mut (H a)
  sl : Slots K N L H σ ρ L
theorem Sim.th {K : PySem.W.Frag} {N : Addr → Prop} {H0 H : Hp} {ρ : Env} {σ : St} {L : List Addr} (s : Sim K N H0 ρ σ H L) : ∀ a ∈ L, H a ≠ none := fun a z => mut_ne (s.mu a z)
section
variable {K : PySem.W.Frag} {N : Addr → Prop} {H0 H H' : Hp} {ρ : Env} {σ : St} {L : List Addr}
theorem Slots.keep {L0 : List Addr} : ∀ {σ : St} {ρ : Env} {F : List Addr}, Slots K N L0 H σ ρ F → (∀ al, Keeps (SR N L0 al false) F H H') → Slots K N L0 H' σ ρ F
  | _, _, _, .nil, _ => .nil
  | _, _, _, .no h, k => .no (Slots.keep h k)
  | _, _, _, .so h1 h2, k => .so (h1.keep ((k _).sub fun _ z => List.mem_append_left _ z)) (Slots.keep h2 fun al => (k al).sub fun _ z => List.mem_append_right _ z)
theorem Slots.mono {L0 L1 : List Addr} (h : ∀ a, a ∉ L0 → a ∉ L1) : ∀ {σ : St} {ρ : Env} {F : List Addr}, Slots K N L0 H σ ρ F → Slots K N L1 H σ ρ F
  | _, _, _, .nil => .nil
  | _, _, _, .no s => .no (Slots.mono h s)
  | _, _, _, .so h1 h2 => .so (h1.mono fun a z => ⟨z.1, fun e => h a (z.2 e)⟩) (Slots.mono h h2)
/-- another heap, other things of ours alone -/
theorem Slots.move {L0 L1 : List Addr} (h : ∀ a, a ∉ L0 → H a ≠ none → a ∉ L1) : ∀ {σ : St} {ρ : Env} {F : List Addr}, Slots K N L0 H σ ρ F → (∀ al, Keeps (SR N L0 al false) F H H') → Slots K N L1 H' σ ρ F
  | _, _, _, .nil, _ => .nil
  | _, _, _, .no s, k => .no (Slots.move h s k)
  | _, _, _, .so h1 h2, k => .so ((h1.trk.keep (F := _) (fun b o e q => k _ b o e (q.imp (fun z => z.1) (fun z => z.imp (List.mem_append_left _) id)))).mono fun a z => ⟨z.1.1, fun _ => h a (z.1.2 rfl) z.2⟩) (Slots.move h h2 fun al => (k al).sub fun _ z => List.mem_append_right _ z)
theorem Slots.len {L0 : List Addr} : ∀ {σ : St} {ρ : Env} {F : List Addr}, Slots K N L0 H σ ρ F → σ.length = ρ.length
  | _, _, _, .nil => rfl
  | _, _, _, .no h => by rw [List.length_cons, List.length_cons, Slots.len h]
  | _, _, _, .so _ h => by rw [List.length_cons, List.length_cons, Slots.len h]
/-- the heap grows -/
theorem Sim.same (s : Sim K N H0 ρ σ H L) (h : Same H H') : Sim K N H0 ρ σ H' L where
  kp := fun b o e n => h b o (s.kp b o e n)
  nw := fun b e => s.nw b (h.free e)
  nd := s.nd
  ln := s.ln
  mu := fun a ha => mut_same (s.mu a ha) h
  sl := s.sl.keep fun _ => .same h
theorem Slots.get {L0 : List Addr} : ∀ {σ : St} {ρ : Env} {F : List Addr} {i : Nat} {s : Sv}, Slots K N L0 H σ ρ F → ρ[i]? = some (some s) → ∃ v G, σ[i]? = some (some v) ∧ Rp K (SR N L0 s.al false) H s.l v s.d G ∧ ∀ b ∈ G, b ∈ F
  | _, _, _, _, _, .nil, e => by simp at e
  | _, _, _, 0, _, .no _, e => by simp at e
  | _, _, _, i + 1, s, .no h, e => by
    obtain ⟨v, G, e1, r, q⟩ := Slots.get (i := i) (s := s) h (by simpa using e)
    exact ⟨v, G, by simpa using e1, r, q⟩
  | _, _, _, 0, _, .so h _, e => by
    simp at e; subst e
    exact ⟨_, _, rfl, h, fun _ z => List.mem_append_left _ z⟩
  | _, _, _, i + 1, s, .so _ h, e => by
    obtain ⟨v, G, e1, r, q⟩ := Slots.get (i := i) (s := s) h (by simpa using e)
    exact ⟨v, G, by simpa using e1, r, fun b z => List.mem_append_right _ (q b z)⟩
/-- one slot taken out of the row: what stands there, what is put there -/
theorem Slots.at_ {L0 : List Addr} : ∀ {σ : St} {ρ : Env} {F : List Addr} {i : Nat}, Slots K N L0 H σ ρ F → i < ρ.length →
    ∃ F1 G F2, F = F1 ++ (G ++ F2) ∧ (∀ s, ρ[i]? = some (some s) → ∃ v, σ[i]? = some (some v) ∧ Rp K (SR N L0 s.al false) H s.l v s.d G) ∧
      ∀ {L1 : List Addr} {H1 : Hp} {v : V} {s : Sv} {G' : List Addr}, (∀ al, Keeps (SR N L0 al false) (F1 ++ F2) H H1) → (∀ a, a ∉ L0 → H a ≠ none → a ∉ L1) → Rp K (SR N L1 s.al false) H1 s.l v s.d G' → Slots K N L1 H1 (σ.set i (some v)) (ρ.set i (some s)) (F1 ++ (G' ++ F2))
  | _, _, _, _, .nil, h => absurd h (Nat.not_lt_zero _)
  | _, _, F, 0, .no h, _ => ⟨[], [], F, rfl, fun s e => by simp at e, fun {L1 H1 v s G'} k g r => Slots.so (F := G') r (h.move g k)⟩
  | _, _, _, 0, .so (F := F) (G := G) h1 h, _ => ⟨[], F, G, rfl, fun s e => by simp at e; subst e; exact ⟨_, rfl, h1⟩, fun {L1 H1 v s G'} k g r => Slots.so (F := G') r (h.move g k)⟩
  | _, _, _, i + 1, .no h, hl => by
    obtain ⟨F1, G, F2, e, q, p⟩ := Slots.at_ (i := i) h (by simpa using hl)
    exact ⟨F1, G, F2, e, fun s z => by simpa using q s (by simpa using z), fun {L1 H1 v s G'} k g r => .no (p k g r)⟩
  | _, _, _, i + 1, .so (F := F) h1 h, hl => by
    obtain ⟨F1, G, F2, e, q, p⟩ := Slots.at_ (i := i) h (by simpa using hl)
    refine ⟨F ++ F1, G, F2, by rw [e, List.append_assoc], fun s z => by simpa using q s (by simpa using z), fun {L1 H1 v s G'} k g r => ?_⟩
    rw [List.append_assoc]
    refine .so ?_ (p (fun al => (k al).sub fun a z => ?_) g r)
    · exact (h1.trk.keep (fun b o e q => k _ b o e (q.imp (fun z => z.1) (fun z => z.imp (fun y => by simp [y]) id)))).mono fun a z => ⟨z.1.1, fun _ => g a (z.1.2 rfl) z.2⟩
    · rcases List.mem_append.mp z with z | z <;> simp [z]
/-- a slot is given a value that was made behind -/
theorem Sim.set {i : Nat} {v : V} {r : Sv} {G : List Addr} (s : Sim K N H0 ρ σ H L) (sm : Same H H') (new : ∀ a ∈ G, H a = none) (nd : G.Nodup) (rp : Rp K (fun a => SR N L r.al false a ∧ a ∉ G) H' r.l v r.d G) (hi : i < ρ.length) :
    ∃ L', Sim K N H0 (ρ.set i (some r)) (σ.set i (some v)) H' L' ∧ ∀ a ∈ L', a ∈ L ∨ a ∈ G := by
  obtain ⟨F1, G0, F2, e, _, p⟩ := s.sl.at_ hi
  have hnd := s.nd
  rw [e] at hnd
  have sub : ∀ a, a ∈ F1 ++ (G ++ F2) → a ∈ L ∨ a ∈ G := fun a z => by
    rw [e]
    rcases List.mem_append.mp z with z | z
    · exact .inl (by simp [z])
    · rcases List.mem_append.mp z with z | z
      · exact .inr z
      · exact .inl (by simp [z])
  have q := p (L1 := F1 ++ (G ++ F2)) (H1 := H') (v := v) (s := r) (G' := G) (fun al => .same sm) (fun a z t m => (sub a m).elim z fun y => t (new a y)) (rp.mono fun a z => ⟨z.1.1, fun m y => (sub a y).elim (z.1.2 rfl) z.2⟩)
  refine ⟨F1 ++ (G ++ F2), ⟨fun b o e n => sm b o (s.kp b o e n), fun b z => s.nw b (sm.free z), ?_, fun a z => ?_, fun a z => ?_, q⟩, sub⟩
  · rw [List.nodup_append] at hnd ⊢
    obtain ⟨n1, n2, n3⟩ := hnd
    rw [List.nodup_append] at n2 ⊢
    have inL : ∀ a, a ∈ F1 ∨ a ∈ F2 → H a ≠ none := fun a z => s.th a (by rw [e]; rcases z with z | z <;> simp [z])
    refine ⟨n1, ⟨nd, n2.2.1, fun a ha b hb z => inL b (.inr hb) (z ▸ new a ha)⟩, fun a ha b hb z => ?_⟩
    rcases List.mem_append.mp hb with hb | hb
    · exact inL a (.inl ha) (z ▸ new b hb)
    · exact n3 a ha b (by simp [hb]) z
  · rcases sub a z with z | z
    · exact s.ln a z
    · exact s.nw a (new a z)
  · rcases sub a z with z | z
    · exact mut_same (s.mu a z) sm
    · exact rp.own_mut a z
/-- a slot's value is given away -/
def frz (i : Nat) (ρ : Env) : Env := match ρ[i]? with
  | some (some s) => ρ.set i (some ⟨s.d, .shr, s.al⟩)
  | _ => ρ
theorem Sim.frz (i : Nat) (s : Sim K N H0 ρ σ H L) : ∃ L', Sim K N H0 (frz i ρ) σ H L' ∧ ∀ a ∈ L', a ∈ L := by
  unfold Ev.frz
  split
  · rename_i sv e
    have hi : i < ρ.length := (List.getElem?_eq_some_iff.mp e).1
    obtain ⟨F1, G, F2, e1, q, p⟩ := s.sl.at_ hi
    obtain ⟨v, ev, rp⟩ := q sv e
    have hnd := s.nd
    rw [e1] at hnd
    have sub : ∀ a, a ∈ F1 ++ ([] ++ F2) → a ∈ L := fun a z => by
      rw [e1]
      rcases List.mem_append.mp z with z | z
      · simp [z]
      · simp at z; simp [z]
    rw [List.nodup_append] at hnd
    obtain ⟨n1, n2, n3⟩ := hnd
    rw [List.nodup_append] at n2
    have out : ∀ a ∈ G, a ∉ F1 ++ ([] ++ F2) := fun a ha z => by
      rcases List.mem_append.mp z with z | z
      · exact n3 a z a (by simp [ha]) rfl
      · simp at z
        exact n2.2.2 a ha a z rfl
    have rp' : Rp K (SR N (F1 ++ ([] ++ F2)) sv.al false) H .shr v sv.d [] := rp.give (fun a z => ⟨z.1, fun m y => z.2 rfl (sub a y)⟩) fun a ha => ⟨fun _ => s.ln a (by rw [e1]; simp [ha]), fun _ => out a ha⟩
    have z := p (L1 := F1 ++ ([] ++ F2)) (H1 := H) (v := v) (s := ⟨sv.d, .shr, sv.al⟩) (G' := []) (fun al => .same (Same.refl H)) (fun a z _ m => z (sub a m)) rp'
    have eσ : σ.set i (some v) = σ := by
      obtain ⟨h1, h2⟩ := List.getElem?_eq_some_iff.mp ev
      rw [← h2, List.set_getElem_self]
    rw [eσ] at z
    refine ⟨F1 ++ ([] ++ F2), ⟨s.kp, s.nw, ?_, fun a z => s.ln a (sub a z), fun a z => s.mu a (sub a z), z⟩, sub⟩
    rw [List.nodup_append]
    refine ⟨n1, by simpa using n2.2.1, fun a ha b hb => ?_⟩
    simp at hb
    exact n3 a ha b (by simp [hb])
  · exact ⟨L, s, fun _ z => z⟩
def frzs : List Nat → Env → Env
  | [], ρ => ρ
  | i :: is, ρ => frzs is (frz i ρ)
theorem Sim.frzs : ∀ (is : List Nat) {ρ : Env} {L : List Addr}, Sim K N H0 ρ σ H L → ∃ L', Sim K N H0 (frzs is ρ) σ H L' ∧ ∀ a ∈ L', a ∈ L
  | [], _, L, s => ⟨L, s, fun _ z => z⟩
  | i :: is, _, _, s => let ⟨_, s', h⟩ := s.frz i; let ⟨L2, s2, h2⟩ := Sim.frzs is s'; ⟨L2, s2, fun a z => h a (h2 a z)⟩
/-- .. with what an expression holds besides: W is all that is ours alone -/
structure SimH (K : PySem.W.Frag) (N : Addr → Prop) (H0 : Hp) (ρ : Env) (σ : St) (H : Hp) (L W : List Addr) : Prop where
  kp : ∀ b o, H0 b = some o → ¬ N b → H b = some o
  nw : ∀ b, H b = none → N b
  nd : W.Nodup
  ln : ∀ a ∈ W, N a
  mu : ∀ a ∈ W, Mut (H a)
  sl : Slots K N W H σ ρ L
  sub : ∀ a ∈ L, a ∈ W
  ndl : L.Nodup
theorem SimH.th {W : List Addr} (s : SimH K N H0 ρ σ H L W) : ∀ a ∈ W, H a ≠ none := fun a z => mut_ne (s.mu a z)
theorem Sim.h (s : Sim K N H0 ρ σ H L) : SimH K N H0 ρ σ H L L := ⟨s.kp, s.nw, s.nd, s.ln, s.mu, s.sl, fun _ z => z, s.nd⟩
theorem SimH.sim {W : List Addr} (s : SimH K N H0 ρ σ H L W) : Sim K N H0 ρ σ H L := ⟨s.kp, s.nw, s.ndl, fun a z => s.ln a (s.sub a z), fun a z => s.mu a (s.sub a z), s.sl.mono fun a z m => z (s.sub a m)⟩
theorem SimH.same {W : List Addr} (s : SimH K N H0 ρ σ H L W) (h : Same H H') : SimH K N H0 ρ σ H' L W where
  kp := fun b o e n => h b o (s.kp b o e n)
  nw := fun b e => s.nw b (h.free e)
  nd := s.nd
  ln := s.ln
  mu := fun a ha => mut_same (s.mu a ha) h
  sl := s.sl.keep fun _ => .same h
  sub := s.sub
  ndl := s.ndl
theorem SimH.hold {W F : List Addr} (s : SimH K N H0 ρ σ H L W) (h : Same H H') (new : ∀ a ∈ F, H a = none) (nd : F.Nodup) (th : ∀ a ∈ F, Mut (H' a)) : SimH K N H0 ρ σ H' L (W ++ F) where
  kp := fun b o e n => h b o (s.kp b o e n)
  nw := fun b e => s.nw b (h.free e)
  nd := by
    rw [List.nodup_append]
    exact ⟨s.nd, nd, fun a ha b hb e => s.th a ha (e ▸ new b hb)⟩
  ln := fun a z => (List.mem_append.mp z).elim (s.ln a) fun z => s.nw a (new a z)
  mu := fun a z => (List.mem_append.mp z).elim (fun z => mut_same (s.mu a z) h) fun z => th a z
  sl := s.sl.move (fun a z t m => (List.mem_append.mp m).elim z fun m => t (new a m)) fun _ => .same h
  sub := fun a z => List.mem_append_left _ (s.sub a z)
  ndl := s.ndl
/-- a slot is given a shared value -/
theorem SimH.set0 {W : List Addr} {i : Nat} {v : V} {r : Sv} (s : SimH K N H0 ρ σ H L W) (rp : Rp K (SR N W r.al false) H r.l v r.d []) (hi : i < ρ.length) :
    ∃ L', SimH K N H0 (ρ.set i (some r)) (σ.set i (some v)) H L' W ∧ ∀ a ∈ L', a ∈ L := by
  obtain ⟨F1, G0, F2, e, _, p⟩ := s.sl.at_ hi
  have hnd := s.ndl
  rw [e] at hnd
  have sub : ∀ a, a ∈ F1 ++ ([] ++ F2) → a ∈ L := fun a z => by
    rw [e]
    rcases List.mem_append.mp z with z | z
    · simp [z]
    · simp at z; simp [z]
  refine ⟨F1 ++ ([] ++ F2), ⟨s.kp, s.nw, s.nd, s.ln, s.mu, p (fun al => .same (Same.refl H)) (fun a z _ => z) rp, fun a z => s.sub a (sub a z), ?_⟩, sub⟩
  rw [List.nodup_append] at hnd ⊢
  rw [List.nodup_append] at hnd
  exact ⟨hnd.1, by simpa using hnd.2.1.2.1, fun a ha b hb => hnd.2.2 a ha b (by simp at hb; simp [hb])⟩
theorem Slots.drop1 {L0 : List Addr} : ∀ {σ : St} {ρ : Env} {F : List Addr} (i : Nat), Slots K N L0 H σ ρ F → ∃ F', Slots K N L0 H (σ.set i none) (ρ.set i none) F' ∧ F'.Sublist F
  | _, _, _, i, .nil => ⟨[], by cases i <;> exact .nil, List.Sublist.refl _⟩
  | _, _, F, 0, .no h => ⟨F, .no h, List.Sublist.refl _⟩
  | _, _, _, 0, .so (F := F) (G := G) h1 h => ⟨G, .no h, List.sublist_append_right F G⟩
  | _, _, _, i + 1, .no h => let ⟨F', s, q⟩ := Slots.drop1 i h; ⟨F', .no s, q⟩
  | _, _, _, i + 1, .so (F := F) h1 h => let ⟨F', s, q⟩ := Slots.drop1 i h; ⟨F ++ F', .so h1 s, List.Sublist.append (List.Sublist.refl F) q⟩
theorem SimH.drop1 {W : List Addr} (i : Nat) (s : SimH K N H0 ρ σ H L W) : ∃ L', SimH K N H0 (ρ.set i none) (σ.set i none) H L' W ∧ ∀ a ∈ L', a ∈ L := by
  obtain ⟨F', h, q⟩ := s.sl.drop1 i
  exact ⟨F', ⟨s.kp, s.nw, s.nd, s.ln, s.mu, h, fun a z => s.sub a (q.subset z), q.nodup s.ndl⟩, fun a z => q.subset z⟩
end
def wipeE : List Nat → Env → Env
  | [], ρ => ρ
  | i :: is, ρ => (wipeE is ρ).set i none
theorem wipeE_length : ∀ (vs : List Nat) (ρ : Env), (wipeE vs ρ).length = ρ.length
  | [], _ => rfl
  | i :: is, ρ => by show ((wipeE is ρ).set i none).length = _; rw [List.length_set, wipeE_length is ρ]
end Ev

set_option Elab.async false
set_option linter.all false
set_option maxRecDepth 100000
/-! Expressions over frames of values: what they give, and that the text does so. -/
namespace Ev
open PySem PySem.Spec L2
open PyProof.Rows hiding St

abbrev EvE := Env → Option Rv
abbrev EvT := Env → Option Bool
abbrev EvA := Env → Option (List Rv)
def Post (K : PySem.W.Frag) (N : Addr → Prop) (L : List Addr) (H : Hp) (r : Rv) (Q : VK) : Prop :=
  ∀ v H' F, Same H H' → (∀ a ∈ F, H a = none) → F.Nodup → Rp K (fun a => SR N L r.al r.vw a ∧ a ∉ F) H' r.l v r.d F → Q v H'
def tE (K : PySem.W.Frag) (f : EvE) : TE := fun σ H Q => ∃ N H0 ρ L W r, SimH K N H0 ρ σ H L W ∧ f ρ = some r ∧ Post K N W H r Q
def tT (K : PySem.W.Frag) (f : EvT) : TT := fun σ H Q => ∃ N H0 ρ L W b, SimH K N H0 ρ σ H L W ∧ f ρ = some b ∧ ∀ H', Same H H' → Q b H'
abbrev PEv (X : Cx) (e : Expr) (f : EvE) : Prop := PE X e (tE X.K f)
abbrev PTv (X : Cx) (e : Expr) (f : EvT) : Prop := PT X e (tT X.K f)
abbrev PWv (X : Cx) (e : Expr) (f : EvT) : Prop := PW X e (tT X.K f)
theorem imp_e {X : Cx} {e : Expr} {t t' : TE} (h : PE X e t) (i : ∀ σ H Q, t' σ H Q → t σ H Q) : PE X e t' := ⟨fun p s σ H Q I w => h.run p s σ H Q I (i σ H Q w)⟩
theorem imp_t {X : Cx} {e : Expr} {t t' : TT} (h : PT X e t) (i : ∀ σ H Q, t' σ H Q → t σ H Q) : PT X e t' := ⟨fun p s σ H Q I w => h.run p s σ H Q I (i σ H Q w)⟩
theorem imp_w {X : Cx} {e : Expr} {t t' : TT} (h : PW X e t) (i : ∀ σ H Q, t' σ H Q → t σ H Q) : PW X e t' := ⟨fun wh p s σ H Q I w => h.run wh p s σ H Q I (i σ H Q w)⟩
/-- atoms -/
def rA (d : D) : Rv := ⟨d, .full, false, false⟩
abbrev rI (i : Int) : Rv := rA (.int i)
abbrev rB (b : Bool) : Rv := rA (.bl b)
theorem bind_some {α β : Type} {x : Option α} {f : α → Option β} {b : β} (h : x.bind f = some b) : ∃ a, x = some a ∧ f a = some b := by
  cases x with
  | none => cases h
  | some a => exact ⟨a, rfl, h⟩
section
variable {K : PySem.W.Frag} {N : Addr → Prop} {H0 H H' : Hp} {ρ : Env} {σ : St} {L : List Addr} {Q : VK}
theorem Post.atom {v : V} {d : D} (p : Post K N L H (rA d) Q) (s : Same H H') (r : ∀ S, Rp K S H' .full v d []) : Q v H' := p v H' [] s (fun _ z => nomatch z) .nil (r _)
theorem Post.int {i : Int} (p : Post K N L H (rI i) Q) (s : Same H H') : Q (.int i) H' := p.atom s fun _ => .int
theorem Post.bl {i : Bool} (p : Post K N L H (rB i) Q) (s : Same H H') : Q (.bl i) H' := p.atom s fun _ => .bl
theorem same_upd {p : Addr} {o : HO} (h : H p = none) : Same H (upd H p o) := fun b x e => by
  rw [upd_ne (ne_of_none e h)]
  exact e
/-- one operand -/
theorem one {W : List Addr} {fa : EvE} {x : Rv} {R : V → Hp → Prop} (sim : SimH K N H0 ρ σ H L W) (e1 : fa ρ = some x)
    (k : ∀ v H1 F, Same H H1 → (∀ a ∈ F, H a = none) → F.Nodup → Rp K (fun a => SR N W x.al x.vw a ∧ a ∉ F) H1 x.l v x.d F → R v H1) : tE K fa σ H R :=
  ⟨N, H0, ρ, L, W, x, sim, e1, fun v H1 F s n nd p => k v H1 F s n nd p⟩
/-- two operands, both looked at behind -/
theorem two {W : List Addr} {fa fb : EvE} {x y : Rv} {R : V → V → Hp → Prop} (sim : SimH K N H0 ρ σ H L W) (e1 : fa ρ = some x) (e2 : fb ρ = some y)
    (k : ∀ v w H2 F G, Same H H2 → (∀ a ∈ F, H a = none) → (∀ a ∈ G, H a = none) → F.Nodup → G.Nodup → (∀ a ∈ F, a ∉ G) → Rp K (fun a => SR N W x.al x.vw a ∧ a ∉ F ∧ a ∉ G) H2 x.l v x.d F → Rp K (fun a => SR N (W ++ F) y.al y.vw a ∧ a ∉ G) H2 y.l w y.d G → R v w H2) :
    tE K fa σ H fun v H1 => tE K fb σ H1 fun w H2 => R v w H2 :=
  one sim e1 fun v H1 F s1 n1 d1 p1 => one (sim.hold s1 n1 d1 p1.own_mut) e2 fun w H2 G s2 n2 d2 p2 =>
    k v w H2 F G (s1.trans s2) n1 (fun a z => s1.free (n2 a z)) d1 d2 (fun a z m => p1.own_trk a z (n2 a m)) ((p1.trk.same s2).mono fun a z => ⟨z.1.1, z.1.2, fun m => z.2 (n2 a m)⟩) p2
end

/-! ### names, constants -/
def eName (i : Nat) : EvE := fun ρ => match ρ[i]? with
  | some (some s) => some (if imm s.d then rA s.d else ⟨s.d, .shr, s.al, decide (s.l ≠ .shr)⟩)
  | _ => none
section
variable {X : Cx}
theorem e_name (i : Nat) {x : Str} {pos : Pos} (hN : X.N[i]? = some x := by rfl) (hv : Vis X.env.scope x := by first | exact Or.inl rfl | exact Or.inr (Or.inl rfl) | exact Or.inr (Or.inr rfl)) (hd : (x == ("__debug__" : Str)) = false := by decide)
    (hcd : (x == ("__classdict__" : Str)) = false := by decide) : PEv X (.Name x pos) (eName i) := by
  refine imp_e (pe_var hN hv hd hcd) fun σ H Q h => ?_
  obtain ⟨N, H0, ρ, L, W, r, sim, e, q⟩ := h
  unfold eName at e
  split at e
  · rename_i s es
    obtain ⟨v, G, ev, rp, sub⟩ := sim.sl.get es
    refine ⟨v, ev, ?_⟩
    cases hi : imm s.d with
    | true =>
      rw [hi, if_pos rfl] at e
      cases e
      exact q.atom (Same.refl H) fun S => (rp.of_imm hi).2
    | false =>
      rw [hi, if_neg Bool.false_ne_true] at e
      cases e
      refine q v H [] (Same.refl H) (fun _ z => nomatch z) .nil (rp.give (fun a z => ⟨⟨z.1, fun _ => z.2 rfl⟩, fun m => nomatch m⟩) fun a z => ⟨⟨fun _ => sim.ln a (sim.sub a (sub a z)), fun hvw => ?_⟩, fun m => nomatch m⟩)
      have hl : s.l = .shr := by simpa using hvw
      rw [hl] at rp
      rw [rp.shr0] at z
      cases z
  · cases e
def eC (d : D) : EvE := fun _ => some (rA d)
theorem e_int {i j pos} : PEv X (.Constant (.int i) j pos) (eC (.int i)) := imp_e pe_int fun _ H Q ⟨_, _, _, _, _, _, _, e, q⟩ => by cases e; exact q.int (Same.refl H)
theorem e_bl {b j pos} : PEv X (.Constant (.bool b) j pos) (eC (.bl b)) := imp_e pe_bl fun _ H Q ⟨_, _, _, _, _, _, _, e, q⟩ => by cases e; exact q.bl (Same.refl H)
theorem e_non {j pos} : PEv X (.Constant .none j pos) (eC .non) := imp_e pe_non fun _ H Q ⟨_, _, _, _, _, _, _, e, q⟩ => by cases e; exact q.atom (Same.refl H) fun _ => .non
theorem e_str {x j pos} : PEv X (.Constant (.str x) j pos) (eC (.str x)) := imp_e pe_str fun _ H Q ⟨_, _, _, _, _, _, _, e, q⟩ => by cases e; exact q.atom (Same.refl H) fun _ => .str

/-! ### operators of ints -/
def eOp (C : Int → Int → Bool) (g : Int → Int → D) (fa fb : EvE) : EvE := fun ρ => (fa ρ).bind fun x => (fb ρ).bind fun y => match x.d, y.d with
  | .int i, .int j => if C i j = true then some (rA (g i j)) else none
  | _, _ => none
variable {a b c e : Expr} {fa fb fc fe : EvE} {pos : Pos}
theorem eOp_some {C : Int → Int → Bool} {g : Int → Int → D} {ρ : Env} {r : Rv} (h : eOp C g fa fb ρ = some r) : ∃ x y i j, fa ρ = some x ∧ fb ρ = some y ∧ x.d = .int i ∧ y.d = .int j ∧ C i j = true ∧ r = rA (g i j) := by
  unfold eOp at h
  obtain ⟨x, e1, h⟩ := bind_some h
  obtain ⟨y, e2, h⟩ := bind_some h
  split at h
  · rename_i i j d1 d2
    split at h
    · rename_i hc
      cases h
      exact ⟨x, y, i, j, e1, e2, d1, d2, hc, rfl⟩
    · cases h
  · cases h
theorem e_opI {op : Operator} {P : Int → Int → Prop} {C : Int → Int → Bool} {g : Int → Int → Int} (ho : OpR X (binaryOp op) (L2.rI P fun i j => .int (g i j))) (hP : ∀ i j, C i j = true → P i j) (ha : PEv X a fa) (hb : PEv X b fb) :
    PEv X (.BinOp a op b pos) (eOp C (fun i j => .int (g i j)) fa fb) := by
  refine imp_e (pe_op ho ha hb) fun σ H Q ⟨N, H0, ρ, L, W, r, sim, e, q⟩ => ?_
  obtain ⟨x, y, i, j, e1, e2, d1, d2, hc, rfl⟩ := eOp_some e
  refine two sim e1 e2 fun v w H2 F G s _ _ _ _ _ p1 p2 => ?_
  rw [d1] at p1
  rw [d2] at p2
  obtain ⟨rfl, _⟩ := p1.int_inv
  obtain ⟨rfl, _⟩ := p2.int_inv
  exact ⟨i, j, rfl, rfl, hP _ _ hc, q.int s⟩
abbrev cT : Int → Int → Bool := fun _ _ => true
theorem rI_of {g : Int → Int → V} {f : Value → Value → Sem Value} (h : OpR X f (L2.rI0 g)) : OpR X f (L2.rI (fun _ _ => True) g) := fun pins s σ H x y v u Q I r1 r2 ⟨i, j, e1, e2, _, q⟩ => h pins s σ H x y v u Q I r1 r2 ⟨i, j, e1, e2, q⟩
abbrev eAdd := eOp cT fun i j => .int (i + j)
abbrev eSub := eOp cT fun i j => .int (i - j)
abbrev eMul := eOp (fun i j => decide ((-(2 ^ 64) < i ∧ i < 2 ^ 64) ∨ (-(2 ^ 64) < j ∧ j < 2 ^ 64))) fun i j => .int (i * j)
abbrev eDiv := eOp (fun i j => decide (0 < j ∧ j < 1073741824)) fun i j => .int (i / j)
abbrev eMod := eOp (fun i j => decide (0 < j)) fun i j => .int (i % j)
abbrev ePow := eOp (fun i j => decide (0 ≤ j ∧ j ≤ 1000000 ∧ i.natAbs < 2 ^ 64)) fun i j => .int (i ^ j.toNat)
theorem e_add (ha : PEv X a fa) (hb : PEv X b fb) : PEv X (.BinOp a .Add b pos) (eAdd fa fb) := e_opI (rI_of op_add) (fun _ _ _ => trivial) ha hb
theorem e_sub (ha : PEv X a fa) (hb : PEv X b fb) : PEv X (.BinOp a .Sub b pos) (eSub fa fb) := e_opI (rI_of op_sub) (fun _ _ _ => trivial) ha hb
theorem e_mul (ha : PEv X a fa) (hb : PEv X b fb) : PEv X (.BinOp a .Mult b pos) (eMul fa fb) := e_opI op_mul (fun i j h => by simpa [CMul] using h) ha hb
theorem e_div (ha : PEv X a fa) (hb : PEv X b fb) : PEv X (.BinOp a .FloorDiv b pos) (eDiv fa fb) := e_opI op_fdiv (fun i j h => by simpa [CDiv] using h) ha hb
theorem e_mod (ha : PEv X a fa) (hb : PEv X b fb) : PEv X (.BinOp a .Mod b pos) (eMod fa fb) := e_opI op_mod (fun _ _ h => of_decide_eq_true h) ha hb
theorem e_pow (ha : PEv X a fa) (hb : PEv X b fb) : PEv X (.BinOp a .Pow b pos) (ePow fa fb) := e_opI op_pow (fun i j h => by simpa [CPow] using h) ha hb
theorem e_shr (ha : PEv X a fa) (hb : PEv X b fb) : PEv X (.BinOp a .RShift b pos) (eOp (fun _ j => decide (0 ≤ j)) (fun i j => .int (i / 2 ^ j.toNat)) fa fb) := e_opI op_shr (fun _ _ h => of_decide_eq_true h) ha hb
theorem e_band (ha : PEv X a fa) (hb : PEv X b fb) : PEv X (.BinOp a .BitAnd b pos) (eOp cT (fun i j => .int (Builtin.bitAnd i j)) fa fb) := e_opI (rI_of op_and) (fun _ _ _ => trivial) ha hb
def eNeg (fa : EvE) : EvE := fun ρ => (fa ρ).bind fun x => match x.d with
  | .int i => some (rI (-i))
  | _ => none
theorem e_neg (ha : PEv X a fa) : PEv X (.UnaryOp .USub a pos) (eNeg fa) := by
  refine imp_e (pe_un un_neg ha) fun σ H Q ⟨N, H0, ρ, L, W, r, sim, e, q⟩ => ?_
  unfold eNeg at e
  obtain ⟨x, e1, e⟩ := bind_some e
  split at e
  · rename_i i d1
    cases e
    refine one sim e1 fun v H1 F s _ _ p => ?_
    rw [d1] at p
    obtain ⟨rfl, _⟩ := p.int_inv
    exact ⟨i, rfl, q.int s⟩
  · cases e

/-! ### comparisons -/
/-- a comparison by values that makes nothing -/
def eCmp (g : D → D → Option Bool) (fa fb : EvE) : EvE := fun ρ => (fa ρ).bind fun x => (fb ρ).bind fun y => (g x.d y.d).map rB
/-- what a rule of a comparison must take -/
def CmpOk (X : Cx) (op : CmpOp) (g : D → D → Option Bool) : Prop :=
  ∃ r : R2, OpR X (compareOp op) r ∧ ∀ (S S' : Addr → Prop) (H : Hp) (l l' : Lv) (v w : V) (d e : D) (F G : List Addr) (b : Bool) (Q : VK), Rp X.K S H l v d F → Rp X.K S' H l' w e G → g d e = some b → Q (.bl b) H → r v w H Q
theorem e_cmp {op : CmpOp} {g : D → D → Option Bool} (ho : CmpOk X op g) (ha : PEv X a fa) (hb : PEv X b fb) (hm : behindInMarks op b = false := by first | exact nomark _ (by decide) (by decide) | rfl) : PEv X (.Compare a [op] [b] pos) (eCmp g fa fb) := by
  obtain ⟨r, ho, hr⟩ := ho
  refine imp_e (pe_cmpR ho ha hb hm) fun σ H Q ⟨N, H0, ρ, L, W, rr, sim, e, q⟩ => ?_
  unfold eCmp at e
  obtain ⟨x, e1, e⟩ := bind_some e
  obtain ⟨y, e2, e⟩ := bind_some e
  obtain ⟨k, ek, e⟩ := Option.map_eq_some_iff.mp e
  subst e
  exact two sim e1 e2 fun v w H2 F G s _ _ _ _ _ p1 p2 => hr _ _ _ _ _ _ _ _ _ _ _ _ _ p1 p2 ek (q.bl s)
def tCmp (g : D → D → Option Bool) (fa fb : EvE) : EvT := fun ρ => (fa ρ).bind fun x => (fb ρ).bind fun y => g x.d y.d
theorem t_cmp {op : CmpOp} {g : D → D → Option Bool} (ho : CmpOk X op g) (ha : PEv X a fa) (hb : PEv X b fb) (hm : behindInMarks op b = false := by first | exact nomark _ (by decide) (by decide) | rfl) : PTv X (.Compare a [op] [b] pos) (tCmp g fa fb) := by
  obtain ⟨r, ho, hr⟩ := ho
  refine imp_t (pt_cmpR ho ha hb hm) fun σ H Q ⟨N, H0, ρ, L, W, k, sim, e, q⟩ => ?_
  unfold Ev.tCmp at e
  obtain ⟨x, e1, e⟩ := bind_some e
  obtain ⟨y, e2, e⟩ := bind_some e
  exact two sim e1 e2 fun v w H2 F G s _ _ _ _ _ p1 p2 => hr _ _ _ _ _ _ _ _ _ _ _ _ _ p1 p2 e ⟨k, rfl, q _ s⟩
def gI (p : Int → Int → Bool) : D → D → Option Bool
  | .int i, .int j => some (p i j)
  | _, _ => none
theorem gI_some {p : Int → Int → Bool} {d e : D} {b : Bool} (h : gI p d e = some b) : ∃ i j, d = .int i ∧ e = .int j ∧ b = p i j := by
  unfold gI at h
  split at h
  · cases h; exact ⟨_, _, rfl, rfl, rfl⟩
  · cases h
theorem cmpI {op : CmpOp} {p : Int → Int → Bool} (ho : OpR X (compareOp op) (L2.rI0 fun i j => .bl (p i j))) : CmpOk X op (gI p) :=
  ⟨_, ho, fun S S' H l l' v w d e F G b Q p1 p2 h q => by
    obtain ⟨i, j, rfl, rfl, rfl⟩ := gI_some h
    obtain ⟨rfl, _⟩ := p1.int_inv
    obtain ⟨rfl, _⟩ := p2.int_inv
    exact ⟨i, j, rfl, rfl, q⟩⟩
theorem CmpOk.or {op : CmpOp} {g g' : D → D → Option Bool} (h : CmpOk X op g) (h' : CmpOk X op g') : CmpOk X op (fun d e => (g d e).or (g' d e)) := by
  obtain ⟨r, ho, hr⟩ := h
  obtain ⟨r', ho', hr'⟩ := h'
  refine ⟨_, ho.or ho', fun S S' H l l' v w d e F G b Q p1 p2 h q => ?_⟩
  have h : (g d e).or (g' d e) = some b := h
  cases hg : g d e with
  | some k =>
    rw [hg] at h
    cases h
    exact .inl (hr _ _ _ _ _ _ _ _ _ _ _ _ _ p1 p2 hg q)
  | none =>
    rw [hg] at h
    exact .inr (hr' _ _ _ _ _ _ _ _ _ _ _ _ _ p1 p2 h q)
theorem CmpOk.imp {op : CmpOp} {g g' : D → D → Option Bool} (h : CmpOk X op g) (i : ∀ d e b, g' d e = some b → g d e = some b) : CmpOk X op g' := by
  obtain ⟨r, ho, hr⟩ := h
  exact ⟨r, ho, fun S S' H l l' v w d e F G b Q p1 p2 h q => hr _ _ _ _ _ _ _ _ _ _ _ _ _ p1 p2 (i _ _ _ h) q⟩
end
/-! data that compare deeply -/
mutual
def pd : D → PyData
  | .non => .none | .bl b => .bool b | .int i => .int i | .str x => .str x
  | .tup xs => .tuple (pds xs) | .lst xs => .list (pds xs) | .fl xs => .list (pds xs)
  | _ => .dict []
def pds : List D → List PyData
  | [] => []
  | d :: ds => pd d :: pds ds
end
mutual
/-- its depth is at most n -/
def shp (n : Nat) : D → Bool
  | .non => true | .bl _ => true | .int _ => true | .str x => PyData.strOk x
  | .tup xs => (match n with | 0 => false | m + 1 => shps m xs)
  | .lst xs => (match n with | 0 => false | m + 1 => shps m xs)
  | .fl xs => (match n with | 0 => false | m + 1 => shps m xs)
  | _ => false
def shps (n : Nat) : List D → Bool
  | [] => true
  | d :: ds => shp n d && shps n ds
end
theorem pds_map : ∀ ds : List D, pds ds = ds.map pd
  | [] => rfl
  | d :: ds => by rw [pds, pds_map ds]; rfl
theorem shps_all (n : Nat) : ∀ ds : List D, shps n ds = ds.all (shp n)
  | [] => rfl
  | d :: ds => by rw [shps, shps_all n ds]; rfl
theorem immAll_all : ∀ ds : List D, immAll ds = ds.all imm
  | [] => rfl
  | d :: ds => by rw [immAll, immAll_all ds]; rfl
mutual
theorem shp_ok : ∀ (n : Nat) (d : D), shp n d = true → (pd d).canLay0 = true ∧ (pd d).depth ≤ n
  | _, .non, _ => ⟨rfl, Nat.zero_le _⟩
  | _, .bl _, _ => ⟨rfl, Nat.zero_le _⟩
  | _, .int _, _ => ⟨rfl, Nat.zero_le _⟩
  | _, .str x, h => ⟨by simpa only [shp, pd, PyData.canLay0] using h, Nat.zero_le _⟩
  | 0, .tup xs, h => by simp only [shp] at h; cases h
  | 0, .lst xs, h => by simp only [shp] at h; cases h
  | 0, .fl xs, h => by simp only [shp] at h; cases h
  | n + 1, .tup xs, h => by
    simp only [shp] at h
    obtain ⟨h1, h2⟩ := shps_ok n xs h
    exact ⟨by simpa only [pd, PyData.canLay0] using h1, by simpa only [pd, PyData.depth] using Nat.succ_le_succ h2⟩
  | n + 1, .lst xs, h => by
    simp only [shp] at h
    obtain ⟨h1, h2⟩ := shps_ok n xs h
    exact ⟨by simpa only [pd, PyData.canLay0] using h1, by simpa only [pd, PyData.depth] using Nat.succ_le_succ h2⟩
  | n + 1, .fl xs, h => by
    simp only [shp] at h
    obtain ⟨h1, h2⟩ := shps_ok n xs h
    exact ⟨by simpa only [pd, PyData.canLay0] using h1, by simpa only [pd, PyData.depth] using Nat.succ_le_succ h2⟩
  | _, .dk _, h => by simp only [shp] at h; cases h
  | _, .dt _, h => by simp only [shp] at h; cases h
  | _, .ins _ _, h => by simp only [shp] at h; cases h
  | _, .obj _ _, h => by simp only [shp] at h; cases h
theorem shps_ok : ∀ (n : Nat) (ds : List D), shps n ds = true → PyData.canLayAll0 (pds ds) = true ∧ PyData.depthAll (pds ds) ≤ n
  | _, [], _ => ⟨rfl, Nat.zero_le _⟩
  | n, d :: ds, h => by
    simp only [shps, Bool.and_eq_true] at h
    obtain ⟨a1, a2⟩ := shp_ok n d h.1
    obtain ⟨b1, b2⟩ := shps_ok n ds h.2
    refine ⟨by simp only [pds, PyData.canLayAll0, a1, b1, Bool.and_self], ?_⟩
    simp only [pds, PyData.depthAll]
    exact Nat.max_le.mpr ⟨a2, b2⟩
end
theorem shaped_of {d : D} (h : shp 8 d = true) : SeqAt.shaped (pd d) = true := by
  obtain ⟨h1, h2⟩ := shp_ok 8 d h
  unfold SeqAt.shaped
  rw [h1, decide_eq_true (Nat.le_trans h2 (by decide))]
  rfl
section
variable {K : PySem.W.Frag} {S : Addr → Prop} {H : Hp}
mutual
theorem Rp.dp : ∀ {l : Lv} {v : V} {d : D} {F : List Addr} {n : Nat}, Rp K S H l v d F → shp n d = true → Dp K H v (pd d)
  | _, _, _, _, _, .non, _ => by simp only [pd]; exact .non
  | _, _, _, _, _, .bl, _ => by simp only [pd]; exact .bl _
  | _, _, _, _, _, .int, _ => by simp only [pd]; exact .int _
  | _, _, _, _, _, .str, _ => by simp only [pd]; exact .str _
  | _, _, _, _, 0, .tup h1 h2, h => by simp only [shp] at h; cases h
  | _, _, _, _, n + 1, .tup h1 h2, h => by simp only [shp] at h; simp only [pd]; exact .tup (SqT.of h1) (Rps.dp h2 h)
  | _, _, _, _, 0, .fl h1 h2, h => by simp only [shp] at h; cases h
  | _, _, _, _, n + 1, .fl h1 h2, h => by simp only [shp] at h; simp only [pd]; exact .lst h1.sq (Rps.dp h2 h)
  | _, _, _, _, _, .obj _ _ _ _, h => by simp only [shp] at h; cases h
  | _, _, _, _, 0, .nd0 hn _ _ _, h => by cases hn <;> (simp only [shp] at h; cases h)
  | _, _, _, _, n + 1, .nd0 hn h1 _ h3, h => by
    cases hn with
    | lst => simp only [shp] at h; simp only [pd]; exact .lst (SqL.of h1) (Rps.dp h3 h)
    | _ => simp only [shp] at h; cases h
  | _, _, _, _, 0, .nd1 _ hn _ _, h => by cases hn <;> (simp only [shp] at h; cases h)
  | _, _, _, _, n + 1, .nd1 _ hn h1 h3, h => by
    cases hn with
    | lst => simp only [shp] at h; simp only [pd]; exact .lst (SqL.of h1) (Rps.dp h3 h)
    | _ => simp only [shp] at h; cases h
theorem Rps.dp : ∀ {l : Lv} {vs : List V} {ds : List D} {F : List Addr} {n : Nat}, Rps K S H l vs ds F → shps n ds = true → DpAll K H vs (pds ds)
  | _, _, _, _, _, .nil, _ => by simp only [pds]; exact .nil
  | _, _, _, _, n, .cons h1 h2, h => by
    simp only [shps, Bool.and_eq_true] at h
    simp only [pds]
    exact .cons (Rp.dp h1 h.1) (Rps.dp h2 h.2)
end
theorem Rps.ints : ∀ {l : Lv} {vs : List V} {ns : List Int} {F : List Addr}, Rps K S H l vs (ns.map .int) F → vs = ns.map V.int ∧ F = []
  | _, _, [], _, .nil => ⟨rfl, rfl⟩
  | _, _, n :: ns, _, .cons h1 h2 => by
    obtain ⟨rfl, e1⟩ := Rp.int_inv h1
    obtain ⟨e2, e3⟩ := Rps.ints h2
    rw [e1, e2, e3]
    exact ⟨rfl, rfl⟩
end
def intOf : D → Option Int
  | .int i => some i
  | _ => none
def intsOf : List D → Option (List Int)
  | [] => some []
  | d :: ds => (intOf d).bind fun i => (intsOf ds).map (i :: ·)
theorem intsOf_some : ∀ {ds : List D} {ns : List Int}, intsOf ds = some ns → ds = ns.map .int
  | [], _, h => by cases h; rfl
  | d :: ds, ns, h => by
    unfold intsOf at h
    obtain ⟨i, e1, h⟩ := bind_some h
    obtain ⟨m, e2, h⟩ := Option.map_eq_some_iff.mp h
    subst h
    rw [intsOf_some e2]
    cases d <;> first | (cases e1; rfl) | cases e1
theorem intsOf_map : ∀ ns : List Int, intsOf (ns.map .int) = some ns
  | [] => rfl
  | n :: ns => by
    show (some n).bind (fun i => (intsOf (ns.map .int)).map (i :: ·)) = _
    rw [intsOf_map ns]
    rfl
/-- tuples of ints -/
def gT (p : List Int → List Int → Bool) : D → D → Option Bool
  | .tup xs, .tup ys => (intsOf xs).bind fun ns => (intsOf ys).map fun ms => p ns ms
  | _, _ => none
theorem gT_some {p : List Int → List Int → Bool} {d e : D} {b : Bool} (h : gT p d e = some b) : ∃ ns ms : List Int, d = .tup (ns.map .int) ∧ e = .tup (ms.map .int) ∧ b = p ns ms := by
  unfold gT at h
  split at h
  · obtain ⟨ns, e1, h⟩ := bind_some h
    obtain ⟨ms, e2, h⟩ := Option.map_eq_some_iff.mp h
    rw [intsOf_some e1, intsOf_some e2]
    exact ⟨ns, ms, rfl, rfl, h.symm⟩
  · cases h
def leT (ns ms : List Int) : Bool := Ob.lexAt (fun j => decide (ns.getD j 0 = ms.getD j 0)) (fun j => decide (ns.getD j 0 ≤ ms.getD j 0)) (decide (ns.length ≤ ms.length)) 0 (min ns.length ms.length)
def geT (ns ms : List Int) : Bool := Ob.lexAt (fun j => decide (ns.getD j 0 = ms.getD j 0)) (fun j => decide (ms.getD j 0 ≤ ns.getD j 0)) (decide (ns.length ≥ ms.length)) 0 (min ns.length ms.length)
def rGeT (K : PySem.W.Frag) : R2 := fun x y H Q => ∃ (a b : Addr) (ns ms : List Int), x = .ref a ∧ y = .ref b ∧ SqT K H a (ns.map V.int) ∧ SqT K H b (ms.map V.int) ∧ Q (.bl (geT ns ms)) H
section
variable {X : Cx}
theorem op_geT (hu : X.A.units < cLine) : OpR X (compareOp .GtE) (rGeT X.K) := by
  intro pins s σ H x y v u Q I rx ry h
  obtain ⟨a, b, ns, ms, rfl, rfl, ha, hb, q⟩ := h
  cases rx
  cases ry
  obtain ⟨its, r1, p1, _⟩ := I.tuple ha
  obtain ⟨its2, r2, p2, _⟩ := I.tuple hb
  have i1 : IntsAre its ns := Vals.ints r1
  have i2 : IntsAre its2 ms := Vals.ints r2
  have e1 : its.toArray.size = ns.length := by rw [List.size_toArray]; exact i1.length
  have e2 : its2.toArray.size = ms.length := by rw [List.size_toArray]; exact i2.length
  have at1 : ∀ j (h1 : j < its.toArray.size), ∃ t, its.toArray[j] = .int (ns.getD j 0) t := fun j h1 => PyProof.Rows.IntsAre.int_at i1 _ _ (by simp at h1; simp [h1])
  have at2 : ∀ j (h1 : j < its2.toArray.size), ∃ t, its2.toArray[j] = .int (ms.getD j 0) t := fun j h1 => PyProof.Rows.IntsAre.int_at i2 _ _ (by simp at h1; simp [h1])
  have R := Ob.RcOp.tuples_ge (A := X.A) (s := s) (e := fun j => decide (ns.getD j 0 = ms.getD j 0)) (r := fun j => decide (ms.getD j 0 ≤ ns.getD j 0)) p1 p2 hu (fun j h1 h2 => by
    obtain ⟨t, et⟩ := at1 j h1
    obtain ⟨t', et'⟩ := at2 j h2
    rw [et, et']
    have z : (ns.getD j 0 == ms.getD j 0) = decide (ns.getD j 0 = ms.getD j 0) := by
      by_cases q : ns.getD j 0 = ms.getD j 0
      · rw [decide_eq_true q]; exact beq_iff_eq.mpr q
      · rw [decide_eq_false q]; exact beq_eq_false_iff_ne.mpr q
    rw [← z]
    exact SeqAt.EqAt.int_int _ _ _ _) (fun j h1 h2 _ => by
    obtain ⟨t, et⟩ := at1 j h1
    obtain ⟨t', et'⟩ := at2 j h2
    rw [et, et']
    exact Ob.RcOp.ge_int _ _ _ _)
  rw [e1, e2] at R
  have z : wpAny (model X.prog X.w) X.A (compareOp .GtE (.ref a) (.ref b)) (EP X pins σ Q) X.xe s := R X.prog X.w X.xe (EP X pins σ Q) ⟨.bl _, H, I, rfl, q⟩
  exact z
theorem cmpT {op : CmpOp} {p : List Int → List Int → Bool} (ho : OpR X (compareOp op) (fun x y H Q => ∃ (a b : Addr) (ns ms : List Int), x = .ref a ∧ y = .ref b ∧ SqT X.K H a (ns.map V.int) ∧ SqT X.K H b (ms.map V.int) ∧ Q (.bl (p ns ms)) H)) : CmpOk X op (gT p) :=
  ⟨_, ho, fun S S' H l l' v w d e F G b Q p1 p2 h q => by
    obtain ⟨ns, ms, rfl, rfl, rfl⟩ := gT_some h
    obtain ⟨a, vs, rfl, h1, r1⟩ := p1.tup_inv
    obtain ⟨a', vs', rfl, h1', r1'⟩ := p2.tup_inv
    obtain ⟨rfl, _⟩ := r1.ints
    obtain ⟨rfl, _⟩ := r1'.ints
    exact ⟨a, a', ns, ms, rfl, rfl, SqT.of h1, SqT.of h1', q⟩⟩
abbrev gLt : D → D → Option Bool := fun d e => (gI (fun i j => decide (i < j)) d e).or (gT HT.lexLt d e)
abbrev gLe : D → D → Option Bool := fun d e => (gI (fun i j => decide (i ≤ j)) d e).or (gT leT d e)
abbrev gGe : D → D → Option Bool := fun d e => (gI (fun i j => decide (j ≤ i)) d e).or (gT geT d e)
abbrev gGt : D → D → Option Bool := gI (fun i j => decide (j < i))
theorem c_lt (hu : X.A.units < cLine) : CmpOk X .Lt gLt := (cmpI op_lt).or (cmpT (op_ltT hu))
theorem c_le (hu : X.A.units < cLine) : CmpOk X .LtE gLe := (cmpI op_le).or (cmpT (op_leT hu))
theorem c_ge (hu : X.A.units < cLine) : CmpOk X .GtE gGe := (cmpI op_ge).or (cmpT (op_geT hu))
theorem c_gt : CmpOk X .Gt gGt := cmpI op_gt
/-- == of two data -/
def deq (d e : D) : Bool := PyData.eqv (pd d) (pd e)
def gEq (d e : D) : Option Bool := if (shp 8 d && shp 8 e) = true then some (deq d e) else none
def gNe (d e : D) : Option Bool := if (shp 8 d && shp 8 e) = true then some (!deq d e) else none
theorem c_eq (hu : X.A.units + 64 < cLine) : CmpOk X .Eq gEq :=
  ⟨_, op_eqD hu, fun S S' H l l' v w d e F G b Q p1 p2 h q => by
    unfold gEq at h
    split at h
    · rename_i z
      rw [Bool.and_eq_true] at z
      cases h
      exact ⟨_, _, p1.dp z.1, p2.dp z.2, shaped_of z.1, shaped_of z.2, q⟩
    · cases h⟩
theorem c_ne (hu : X.A.units + 64 < cLine) : CmpOk X .NotEq gNe :=
  ⟨_, op_neD hu, fun S S' H l l' v w d e F G b Q p1 p2 h q => by
    unfold gNe at h
    split at h
    · rename_i z
      rw [Bool.and_eq_true] at z
      cases h
      exact ⟨_, _, p1.dp z.1, p2.dp z.2, shaped_of z.1, shaped_of z.2, q⟩
    · cases h⟩
def isN : D → Bool
  | .non => true
  | _ => false
theorem isN_v {K : PySem.W.Frag} {S : Addr → Prop} {H : Hp} {l : Lv} {v : V} {d : D} {F : List Addr} (p : Rp K S H l v d F) : decide (v = .non) = isN d := by
  cases p with
  | non => rfl
  | nd0 h => cases h <;> rfl
  | nd1 _ h => cases h <;> rfl
  | _ => rfl
def gIs : D → D → Option Bool
  | d, .non => some (isN d)
  | _, _ => none
def gIsNot : D → D → Option Bool
  | d, .non => some (!isN d)
  | _, _ => none
theorem c_is : CmpOk X .Is gIs :=
  ⟨_, op_isN, fun S S' H l l' v w d e F G b Q p1 p2 h q => by
    unfold gIs at h
    split at h
    · cases h
      obtain ⟨rfl, _⟩ := p2.non_inv
      refine ⟨rfl, ?_⟩
      rw [isN_v p1]
      exact q
    · cases h⟩
theorem c_isnot : CmpOk X .IsNot gIsNot :=
  ⟨_, op_notN, fun S S' H l l' v w d e F G b Q p1 p2 h q => by
    unfold gIsNot at h
    split at h
    · cases h
      obtain ⟨rfl, _⟩ := p2.non_inv
      refine ⟨rfl, ?_⟩
      rw [isN_v p1]
      exact q
    · cases h⟩

/-! ### dicts at hand -/
section
variable {κ : Type} [DecidableEq κ]
def dlook (kd : List (κ × D)) (k : κ) : Option D := (kd.find? fun p => decide (p.1 = k)).map (·.2)
def dhas (kd : List (κ × D)) (k : κ) : Bool := kd.any fun p => decide (p.1 = k)
def dput (kd : List (κ × D)) (k : κ) (d : D) : List (κ × D) := if dhas kd k = true then kd.map (fun p => if p.1 = k then (p.1, d) else p) else kd ++ [(k, d)]
def ddrop (kd : List (κ × D)) (k : κ) : List (κ × D) := kd.filter fun p => decide (p.1 ≠ k)
theorem has_keys {kv : List (κ × V)} {kd : List (κ × D)} (h : kv.map (·.1) = kd.map (·.1)) (k : κ) : (valV kv k).isSome = dhas kd k := by
  rw [← valV_any]
  show (kv.any ((fun x => decide (x = k)) ∘ fun p => p.1)) = kd.any ((fun x => decide (x = k)) ∘ fun p => p.1)
  rw [← List.any_map, ← List.any_map, h]
end
def keyOf : D → Option Key
  | .int i => some (.inl i)
  | .str x => some (.inr x)
  | _ => none
def keysOf : List D → Option (List Key)
  | [] => some []
  | d :: ds => (keyOf d).bind fun i => (keysOf ds).map (i :: ·)
section
variable {K : PySem.W.Frag} {S : Addr → Prop} {H : Hp} {l : Lv}
theorem Rp.key {v : V} {d : D} {F : List Addr} {k : Key} (p : Rp K S H l v d F) (h : keyOf d = some k) : v = kV k := by
  cases d <;> first | (cases h; first | exact p.int_inv.1 | exact p.str_inv.1) | cases h
theorem Rps.keys : ∀ {vs : List V} {ds : List D} {F : List Addr} {ks : List Key}, Rps K S H l vs ds F → keysOf ds = some ks → vs = ks.map kV
  | _, _, _, _, .nil, h => by cases h; rfl
  | _, _, _, ks, .cons h1 h2, h => by
    unfold keysOf at h
    obtain ⟨i, e1, h⟩ := bind_some h
    obtain ⟨m, e2, h⟩ := Option.map_eq_some_iff.mp h
    subst h
    rw [h1.key e1, Rps.keys h2 e2]
    rfl
/-- a dict and a key -/
theorem Rp.dk_inv {v : V} {kd : List (Key × D)} {F : List Addr} (p : Rp K S H l v (.dk kd) F) : ∃ a kv G, v = .ref a ∧ H a = some (.dK kv) ∧ kv.map (·.1) = kd.map (·.1) ∧ Rps K S H (ch l) (kv.map (·.2)) (kd.map (·.2)) G ∧ ∀ b ∈ G, b ∈ F := by
  cases p with
  | nd0 h h1 h2 h3 => cases h with | dk e => exact ⟨_, _, _, rfl, h1, e, h3, fun _ z => z⟩
  | nd1 h0 h h1 h2 => cases h with | dk e => exact ⟨_, _, _, rfl, h1, e, h2, fun _ z => List.mem_cons_of_mem _ z⟩
theorem Rp.dt_inv {v : V} {kd : List (List Key × D)} {F : List Addr} (p : Rp K S H l v (.dt kd) F) : ∃ a kv G, v = .ref a ∧ H a = some (.dT kv) ∧ kv.map (·.1) = kd.map (·.1) ∧ Rps K S H (ch l) (kv.map (·.2)) (kd.map (·.2)) G ∧ ∀ b ∈ G, b ∈ F := by
  cases p with
  | nd0 h h1 h2 h3 => cases h with | dt e => exact ⟨_, _, _, rfl, h1, e, h3, fun _ z => z⟩
  | nd1 h0 h h1 h2 => cases h with | dt e => exact ⟨_, _, _, rfl, h1, e, h2, fun _ z => List.mem_cons_of_mem _ z⟩
end
/-- in: lists and tuples of data, dicts by their keys -/
def gInL (n : Bool) : D → D → Option Bool
  | d, .lst ds => if (shp 8 d && shps 7 ds) = true then some (n != (ds.any fun z => deq z d)) else none
  | d, .fl ds => if (shp 8 d && shps 7 ds) = true then some (n != (ds.any fun z => deq z d)) else none
  | _, _ => none
def gInD (n : Bool) : D → D → Option Bool
  | d, .dk kd => (keyOf d).map fun k => n != dhas kd k
  | .tup ds, .dt kd => (keysOf ds).map fun k => n != dhas kd k
  | _, _ => none
def gInT (n : Bool) : D → D → Option Bool
  | .int i, .tup ds => (intsOf ds).map fun ns => n != (ns.any fun z => z == i)
  | _, _ => none
theorem any_pds (ds : List D) (d : D) : ((pds ds).any fun z => PyData.eqv z (pd d)) = ds.any fun z => deq z d := by
  rw [pds_map, List.any_map]
  rfl
theorem shp_lst {ds : List D} (h : shps 7 ds = true) : shp 8 (.lst ds) = true := by simpa only [shp] using h
theorem shp_fl {ds : List D} (h : shps 7 ds = true) : shp 8 (.fl ds) = true := by simpa only [shp] using h
theorem c_inL (hu : X.A.units + 65 < cLine) : CmpOk X .In (gInL false) :=
  ⟨_, op_inD hu, fun S S' H l l' v w d e F G b Q p1 p2 h q => by
    unfold gInL at h
    split at h
    · split at h
      · rename_i z
        rw [Bool.and_eq_true] at z
        cases h
        have p3 := p2.dp (shp_lst z.2)
        have s3 := shaped_of (shp_lst z.2)
        simp only [pd] at p3 s3
        refine ⟨_, _, p1.dp z.1, p3, shaped_of z.1, s3, ?_⟩
        rw [any_pds]
        simpa using q
      · cases h
    · split at h
      · rename_i z
        rw [Bool.and_eq_true] at z
        cases h
        have p3 := p2.dp (shp_fl z.2)
        have s3 := shaped_of (shp_fl z.2)
        simp only [pd] at p3 s3
        refine ⟨_, _, p1.dp z.1, p3, shaped_of z.1, s3, ?_⟩
        rw [any_pds]
        simpa using q
      · cases h
    · cases h⟩
theorem c_ninL (hu : X.A.units + 65 < cLine) : CmpOk X .NotIn (gInL true) :=
  ⟨_, op_notInD hu, fun S S' H l l' v w d e F G b Q p1 p2 h q => by
    unfold gInL at h
    split at h
    · split at h
      · rename_i z
        rw [Bool.and_eq_true] at z
        cases h
        have p3 := p2.dp (shp_lst z.2)
        have s3 := shaped_of (shp_lst z.2)
        simp only [pd] at p3 s3
        refine ⟨_, _, p1.dp z.1, p3, shaped_of z.1, s3, ?_⟩
        rw [any_pds]
        simpa using q
      · cases h
    · split at h
      · rename_i z
        rw [Bool.and_eq_true] at z
        cases h
        have p3 := p2.dp (shp_fl z.2)
        have s3 := shaped_of (shp_fl z.2)
        simp only [pd] at p3 s3
        refine ⟨_, _, p1.dp z.1, p3, shaped_of z.1, s3, ?_⟩
        rw [any_pds]
        simpa using q
      · cases h
    · cases h⟩
def rInDict (n : Bool) : R2 := fun y x H Q => ∃ a o, x = .ref a ∧ DGet H a y o ∧ Q (.bl (n != o.isSome)) H
theorem op_inDict (hu : X.A.units + 1 < cLine) : OpR X (compareOp .In) (rInDict false) := by
  intro pins s σ H y x v u Q I ry rx ⟨a, o, e, g, q⟩
  subst e
  cases rx
  exact d_in hu I g ry fun s' I' => ⟨.bl _, H, I', rfl, by simpa using q⟩
theorem op_ninDict (hu : X.A.units + 1 < cLine) : OpR X (compareOp .NotIn) (rInDict true) := by
  intro pins s σ H y x v u Q I ry rx ⟨a, o, e, g, q⟩
  subst e
  cases rx
  exact d_notIn hu I g ry fun s' I' => ⟨.bl _, H, I', rfl, by simpa using q⟩
theorem in_dict {n : Bool} {S S' : Addr → Prop} {H : Hp} {l l' : Lv} {v w : V} {d e : D} {F G : List Addr} {b : Bool} {Q : VK} (p1 : Rp X.K S H l v d F) (p2 : Rp X.K S' H l' w e G) (h : gInD n d e = some b) (q : Q (.bl b) H) : rInDict n v w H Q := by
  unfold gInD at h
  split at h
  · obtain ⟨k, e1, h⟩ := Option.map_eq_some_iff.mp h
    obtain ⟨a, kv, _, rfl, h1, h2, _⟩ := p2.dk_inv
    refine ⟨a, _, rfl, by rw [p1.key e1]; exact DGet.k h1, ?_⟩
    rw [has_keys h2, h]
    exact q
  · obtain ⟨k, e1, h⟩ := Option.map_eq_some_iff.mp h
    obtain ⟨a, kv, _, rfl, h1, h2, _⟩ := p2.dt_inv
    obtain ⟨c, vs, rfl, h3, h4⟩ := p1.tup_inv
    refine ⟨a, _, rfl, DGet.t h1 (by rw [h3, h4.keys e1]), ?_⟩
    rw [has_keys h2, h]
    exact q
  · cases h
theorem flat_ints : ∀ ns : List Int, (ns.map V.int).all flatV = true
  | [] => rfl
  | n :: ns => flat_ints ns
theorem inV_ints (i : Int) : ∀ ns : List Int, inV (.int i) (ns.map V.int) = ns.any fun z => z == i
  | [] => rfl
  | n :: ns => by
    have ih := inV_ints i ns
    unfold inV at ih ⊢
    rw [List.map_cons, List.any_cons, List.any_cons, ih]
    rfl
theorem in_tup {n : Bool} {S S' : Addr → Prop} {H : Hp} {l l' : Lv} {v w : V} {d e : D} {F G : List Addr} {b : Bool} {Q : VK} (p1 : Rp X.K S H l v d F) (p2 : Rp X.K S' H l' w e G) (h : gInT n d e = some b) (q : Q (.bl b) H) : rIn X.K n v w H Q := by
  unfold gInT at h
  split at h
  · rename_i i ds
    obtain ⟨ns, e1, h⟩ := Option.map_eq_some_iff.mp h
    obtain ⟨a, vs, rfl, h1, h2⟩ := p2.tup_inv
    rw [intsOf_some e1] at h2
    obtain ⟨rfl, _⟩ := h2.ints
    obtain ⟨rfl, _⟩ := p1.int_inv
    refine ⟨a, _, rfl, .inr (SqT.of h1), rfl, flat_ints ns, ?_⟩
    rw [inV_ints]
    subst h
    cases n <;> simpa using q
  · cases h
abbrev gIn : D → D → Option Bool := fun d e => (gInL false d e).or ((gInD false d e).or (gInT false d e))
abbrev gNin : D → D → Option Bool := fun d e => (gInL true d e).or ((gInD true d e).or (gInT true d e))
theorem c_in (hu : X.A.units + 65 < cLine) : CmpOk X .In gIn := (c_inL hu).or (CmpOk.or ⟨_, op_inDict (by omega), fun S S' H l l' v w d e F G b Q p1 p2 h q => in_dict p1 p2 h q⟩ ⟨_, op_in_seq, fun S S' H l l' v w d e F G b Q p1 p2 h q => in_tup p1 p2 h q⟩)
theorem c_nin (hu : X.A.units + 65 < cLine) : CmpOk X .NotIn gNin := (c_ninL hu).or (CmpOk.or ⟨_, op_ninDict (by omega), fun S S' H l l' v w d e F G b Q p1 p2 h q => in_dict p1 p2 h q⟩ ⟨_, op_notIn_seq, fun S S' H l l' v w d e F G b Q p1 p2 h q => in_tup p1 p2 h q⟩)
end
end Ev

set_option Elab.async false
set_option linter.all false
set_option maxRecDepth 100000
/-! More expressions: tests, displays, items, calls. -/
namespace Ev
open PySem PySem.Spec L2
open PyProof.Rows hiding St

section
variable {X : Cx} {a b c e : Expr} {fa fb fc fe : EvE} {ga gb gc : EvT} {pos : Pos} {rest es : List Expr}
/-! ### tests -/
def tVal (fa : EvE) : EvT := fun ρ => (fa ρ).bind fun x => match x.d with
  | .bl k => some k
  | _ => none
theorem t_val (h : PEv X e fe) (he : ∀ whole, isTrue e X.env whole = (do let v ← whole; standAt e.pos; holding [v] (truthy v)) := by intro _; rfl) : PTv X e (tVal fe) := by
  refine imp_t (pt_val h he) fun σ H Q ⟨N, H0, ρ, L, W, k, sim, z, q⟩ => ?_
  unfold tVal at z
  obtain ⟨x, e1, z⟩ := bind_some z
  split at z
  · rename_i k' d1
    cases z
    refine one sim e1 fun v H1 F s _ _ p => ?_
    rw [d1] at p
    obtain ⟨rfl, _⟩ := p.bl_inv
    exact ⟨_, rfl, q _ s⟩
  · cases z
def tAnd (f g : EvT) : EvT := fun ρ => (f ρ).bind fun k => if k = true then g ρ else some false
def tOr (f g : EvT) : EvT := fun ρ => (f ρ).bind fun k => if k = true then some true else g ρ
def tNot (f : EvT) : EvT := fun ρ => (f ρ).map fun k => !k
theorem t_and1 (ha : PTv X a ga) : PWv X (.BoolOp .And [a] pos) ga := pw_and1 ha
theorem t_or1 (ha : PTv X a ga) : PWv X (.BoolOp .Or [a] pos) ga := pw_or1 ha
theorem t_and (ha : PTv X a ga) (hb : PWv X (.BoolOp .And (b :: rest) pos) gb) : PWv X (.BoolOp .And (a :: b :: rest) pos) (tAnd ga gb) := by
  refine imp_w (pw_and ha hb) fun σ H Q ⟨N, H0, ρ, L, W, k, sim, z, q⟩ => ?_
  unfold Ev.tAnd at z
  obtain ⟨k1, e1, z⟩ := bind_some z
  refine ⟨N, H0, ρ, L, W, k1, sim, e1, fun H1 s1 => ?_⟩
  cases k1 with
  | true => exact ⟨N, H0, ρ, L, W, k, sim.same s1, z, fun H2 s2 => q _ (s1.trans s2)⟩
  | false => cases z; exact q _ s1
theorem t_or (ha : PTv X a ga) (hb : PWv X (.BoolOp .Or (b :: rest) pos) gb) : PWv X (.BoolOp .Or (a :: b :: rest) pos) (tOr ga gb) := by
  refine imp_w (pw_or ha hb) fun σ H Q ⟨N, H0, ρ, L, W, k, sim, z, q⟩ => ?_
  unfold Ev.tOr at z
  obtain ⟨k1, e1, z⟩ := bind_some z
  refine ⟨N, H0, ρ, L, W, k1, sim, e1, fun H1 s1 => ?_⟩
  cases k1 with
  | false => exact ⟨N, H0, ρ, L, W, k, sim.same s1, z, fun H2 s2 => q _ (s1.trans s2)⟩
  | true => cases z; exact q _ s1
theorem t_bool (h : PWv X e ga) : PTv X e ga := h.pt
theorem t_not (ha : PTv X a ga) : PTv X (.UnaryOp .Not a pos) (tNot ga) := by
  refine imp_t (pt_not ha) fun σ H Q ⟨N, H0, ρ, L, W, k, sim, z, q⟩ => ?_
  unfold Ev.tNot at z
  obtain ⟨k1, e1, z⟩ := Option.map_eq_some_iff.mp z
  subst z
  exact ⟨N, H0, ρ, L, W, k1, sim, e1, fun H1 s1 => q _ s1⟩
/-- as values: all but the last are truths -/
def eAnd (f g : EvE) : EvE := fun ρ => (f ρ).bind fun x => match x.d with
  | .bl true => g ρ
  | .bl false => some (rB false)
  | _ => none
def eOr (f g : EvE) : EvE := fun ρ => (f ρ).bind fun x => match x.d with
  | .bl false => g ρ
  | .bl true => some (rB true)
  | _ => none
def eNot (f : EvE) : EvE := fun ρ => (f ρ).bind fun x => match x.d with
  | .bl k => some (rB !k)
  | _ => none
def eIf (t : EvT) (f g : EvE) : EvE := fun ρ => (t ρ).bind fun k => if k = true then f ρ else g ρ
theorem e_not (ha : PEv X a fa) : PEv X (.UnaryOp .Not a pos) (eNot fa) := by
  refine imp_e (pe_not ha) fun σ H Q ⟨N, H0, ρ, L, W, r, sim, z, q⟩ => ?_
  unfold eNot at z
  obtain ⟨x, e1, z⟩ := bind_some z
  split at z
  · rename_i k d1
    cases z
    refine one sim e1 fun v H1 F s _ _ p => ?_
    rw [d1] at p
    obtain ⟨rfl, _⟩ := p.bl_inv
    exact ⟨_, rfl, q.bl s⟩
  · cases z
theorem e_one (op : BoolOp) (ha : PEv X a fa) : PEv X (.BoolOp op [a] pos) fa := by
  cases op <;> exact pe_one ha
theorem e_and (ha : PEv X a fa) (hb : PEv X (.BoolOp .And (b :: rest) pos) fb) : PEv X (.BoolOp .And (a :: b :: rest) pos) (eAnd fa fb) := by
  refine imp_e (pe_and ha hb) fun σ H Q ⟨N, H0, ρ, L, W, r, sim, z, q⟩ => ?_
  unfold eAnd at z
  obtain ⟨x, e1, z⟩ := bind_some z
  split at z
  · rename_i d1
    refine one sim e1 fun v H1 F s n nd p => ?_
    rw [d1] at p
    obtain ⟨rfl, hF⟩ := p.bl_inv
    subst hF
    exact ⟨true, rfl, iteT ⟨N, H0, ρ, L, W, r, sim.same s, z, fun v2 H2 F2 s2 n2 nd2 p2 => q v2 H2 F2 (s.trans s2) (fun a z => s.free (n2 a z)) nd2 p2⟩⟩
  · rename_i d1
    cases z
    refine one sim e1 fun v H1 F s n nd p => ?_
    rw [d1] at p
    obtain ⟨rfl, hF⟩ := p.bl_inv
    exact ⟨false, rfl, iteF (q.bl s)⟩
  · cases z
theorem e_or (ha : PEv X a fa) (hb : PEv X (.BoolOp .Or (b :: rest) pos) fb) : PEv X (.BoolOp .Or (a :: b :: rest) pos) (eOr fa fb) := by
  refine imp_e (pe_or ha hb) fun σ H Q ⟨N, H0, ρ, L, W, r, sim, z, q⟩ => ?_
  unfold eOr at z
  obtain ⟨x, e1, z⟩ := bind_some z
  split at z
  · rename_i d1
    refine one sim e1 fun v H1 F s n nd p => ?_
    rw [d1] at p
    obtain ⟨rfl, hF⟩ := p.bl_inv
    subst hF
    exact ⟨false, rfl, iteF ⟨N, H0, ρ, L, W, r, sim.same s, z, fun v2 H2 F2 s2 n2 nd2 p2 => q v2 H2 F2 (s.trans s2) (fun a z => s.free (n2 a z)) nd2 p2⟩⟩
  · rename_i d1
    cases z
    refine one sim e1 fun v H1 F s n nd p => ?_
    rw [d1] at p
    obtain ⟨rfl, hF⟩ := p.bl_inv
    exact ⟨true, rfl, iteT (q.bl s)⟩
  · cases z
theorem e_if {t : EvT} (hc : PTv X c t) (ha : PEv X a fa) (hb : PEv X b fb) : PEv X (.IfExp c a b pos) (eIf t fa fb) := by
  refine imp_e (pe_ifExp hc ha hb) fun σ H Q ⟨N, H0, ρ, L, W, r, sim, z, q⟩ => ?_
  unfold eIf at z
  obtain ⟨k, e1, z⟩ := bind_some z
  refine ⟨N, H0, ρ, L, W, k, sim, e1, fun H1 s => ?_⟩
  have go : ∀ {f : EvE}, f ρ = some r → tE X.K f σ H1 Q := fun z => ⟨N, H0, ρ, L, W, r, sim.same s, z, fun v2 H2 F2 s2 n2 nd2 p2 => q v2 H2 F2 (s.trans s2) (fun a z => s.free (n2 a z)) nd2 p2⟩
  cases k with
  | true => rw [if_pos rfl] at z; exact iteT (go z)
  | false => rw [if_neg Bool.false_ne_true] at z; exact iteF (go z)

/-! ### rows of arguments -/
inductive RpL (K : PySem.W.Frag) (N : Addr → Prop) (W T : List Addr) (H : Hp) : List V → List Rv → List Addr → Prop
  | nil : RpL K N W T H [] [] []
  | cons {v : V} {r : Rv} {vs : List V} {rs : List Rv} {F G : List Addr} : Rp K (fun a => SR N W r.al r.vw a ∧ (r.vw = false → a ∉ T)) H r.l v r.d F → RpL K N W T H vs rs G → RpL K N W T H (v :: vs) (r :: rs) (F ++ G)
end
section
variable {K : PySem.W.Frag} {N : Addr → Prop} {W W' T T' : List Addr} {H H' : Hp}
theorem RpL.mono (h : ∀ al vw a, SR N W al vw a ∧ (vw = false → a ∉ T) → SR N W' al vw a ∧ (vw = false → a ∉ T')) : ∀ {vs : List V} {rs : List Rv} {F : List Addr}, RpL K N W T H vs rs F → RpL K N W' T' H vs rs F
  | _, _, _, .nil => .nil
  | _, _, _, .cons h1 h2 => .cons (h1.mono fun a z => h _ _ a z) (RpL.mono h h2)
theorem RpL.own_trk : ∀ {vs : List V} {rs : List Rv} {F : List Addr}, RpL K N W T H vs rs F → ∀ a ∈ F, H a ≠ none
  | _, _, _, .nil => fun _ z => nomatch z
  | _, _, _, .cons h1 h2 => fun a z => (List.mem_append.mp z).elim (h1.own_trk a) (RpL.own_trk h2 a)
theorem RpL.len : ∀ {vs : List V} {rs : List Rv} {F : List Addr}, RpL K N W T H vs rs F → vs.length = rs.length
  | _, _, _, .nil => rfl
  | _, _, _, .cons _ h => by rw [List.length_cons, List.length_cons, RpL.len h]
/-- all of them ours alone -/
theorem RpL.full {al : Bool} : ∀ {vs : List V} {rs : List Rv} {F : List Addr}, RpL K N W T H vs rs F → rs.all (fun r => !r.vw && decide (r.l = .full)) = true → (∀ r ∈ rs, r.al = true → al = true) → Rps K (fun a => SR N W al false a ∧ a ∉ T) H .full vs (rs.map (·.d)) F
  | _, _, _, .nil, _, _ => .nil
  | _, _, _, .cons (r := r) h1 h2, e, ha => by
    rw [List.all_cons, Bool.and_eq_true, Bool.and_eq_true] at e
    obtain ⟨⟨e1, e2⟩, e3⟩ := e
    have e1 : r.vw = false := by simpa using e1
    have e2 : r.l = .full := by simpa using e2
    rw [e2] at h1
    refine .cons (h1.mono fun a z => ⟨⟨fun hal => z.1.1 ?_, fun _ => z.1.2 e1⟩, z.2 e1⟩) (RpL.full h2 e3 fun r hr => ha r (List.mem_cons_of_mem _ hr))
    cases q : r.al with
    | false => rfl
    | true => rw [ha r List.mem_cons_self q] at hal; cases hal
/-- all of them given away -/
theorem RpL.give {al : Bool} (hT : ∀ a ∈ T, N a ∧ a ∉ W) : ∀ {vs : List V} {rs : List Rv} {F : List Addr}, RpL K N W T H vs rs F → (∀ a ∈ F, a ∈ T) → rs.all (fun r => !r.vw) = true → (∀ r ∈ rs, r.al = true → al = true) → Rps K (fun a => SR N W al false a) H .shr vs (rs.map (·.d)) []
  | _, _, _, .nil, _, _, _ => .nil
  | _, _, _, .cons (r := r) (F := F) h1 h2, hs, e, ha => by
    rw [List.all_cons, Bool.and_eq_true] at e
    obtain ⟨e1, e3⟩ := e
    have e1 : r.vw = false := by simpa using e1
    refine Rps.cons (F := []) (G := []) (h1.give (fun a z => ⟨fun hal => z.1.1 ?_, fun _ => z.1.2 e1⟩) fun a z => ⟨fun _ => (hT a (hs a (List.mem_append_left _ z))).1, fun _ => (hT a (hs a (List.mem_append_left _ z))).2⟩)
      (RpL.give hT h2 (fun a z => hs a (List.mem_append_right _ z)) e3 fun r hr => ha r (List.mem_cons_of_mem _ hr))
    cases q : r.al with
    | false => rfl
    | true => rw [ha r List.mem_cons_self q] at hal; cases hal
/-- only looked at -/
theorem RpL.look : ∀ {vs : List V} {rs : List Rv} {F : List Addr}, RpL K N W T H vs rs F → Rps K (fun _ => True) H .shr vs (rs.map (·.d)) []
  | _, _, _, .nil => .nil
  | _, _, _, .cons h1 h2 => Rps.cons (F := []) (G := []) (h1.give (fun _ _ => trivial) fun _ _ => trivial) (RpL.look h2)
end
def tA (K : PySem.W.Frag) (f : EvA) : TA := fun σ H Q => ∃ N H0 ρ L W rs, SimH K N H0 ρ σ H L W ∧ f ρ = some rs ∧ ∀ vs H' T, Same H H' → (∀ a ∈ T, H a = none) → T.Nodup → RpL K N W T H' vs rs T → Q vs H'
abbrev PAv (X : Cx) (es : List Expr) (f : EvA) : Prop := PA X es (tA X.K f)
theorem imp_a {X : Cx} {e : List Expr} {t t' : TA} (h : PA X e t) (i : ∀ σ H Q, t' σ H Q → t σ H Q) : PA X e t' := ⟨fun p ps s σ H Q I w => h.run p ps s σ H Q I (i σ H Q w)⟩
def aNil : EvA := fun _ => some []
def aCons (f : EvE) (g : EvA) : EvA := fun ρ => (f ρ).bind fun r => (g ρ).bind fun rs => some (r :: rs)
section
variable {X : Cx} {a b c e : Expr} {fa fb fc fe : EvE} {ga : EvA} {pos : Pos} {rest es : List Expr}
theorem a_nil : PAv X [] aNil := imp_a pa_nil fun σ H Q ⟨N, H0, ρ, L, W, rs, sim, z, q⟩ => by
  cases z
  exact q [] H [] (Same.refl H) (fun _ z => nomatch z) .nil .nil
theorem a_cons (ha : PEv X e fe) (hr : PAv X es ga) (hs : starEach (e :: es) X.env = (false, eval e X.env) :: starEach es X.env := by rfl) : PAv X (e :: es) (aCons fe ga) := by
  refine imp_a (pa_cons ha hr hs) fun σ H Q ⟨N, H0, ρ, L, W, rs, sim, z, q⟩ => ?_
  unfold aCons at z
  obtain ⟨r, e1, z⟩ := bind_some z
  obtain ⟨rs, e2, z⟩ := bind_some z
  cases z
  refine one sim e1 fun v H1 F s1 n1 d1 p1 => ?_
  refine ⟨N, H0, ρ, L, W ++ F, rs, sim.hold s1 n1 d1 p1.own_mut, e2, fun vs H2 T s2 n2 d2 p2 => ?_⟩
  refine q (v :: vs) H2 (F ++ T) (s1.trans s2) (fun a z => (List.mem_append.mp z).elim (n1 a) fun z => s1.free (n2 a z)) ?_ (.cons ?_ (p2.mono fun al vw a z => ⟨⟨z.1.1, fun e => fun m => z.1.2 e (List.mem_append_left _ m)⟩, fun e m => (List.mem_append.mp m).elim (fun m => z.1.2 e (List.mem_append_right _ m)) (z.2 e)⟩))
  · rw [List.nodup_append]
    exact ⟨d1, d2, fun a ha b hb e => p1.own_trk a ha (e ▸ n2 b hb)⟩
  · exact (p1.trk.same s2).mono fun a z => ⟨z.1.1, fun _ m => (List.mem_append.mp m).elim z.1.2 fun m => z.2 (n2 a m)⟩

/-! ### displays -/
def lvAll (rs : List Rv) : Lv := if rs.all (fun r => !r.vw && decide (r.l = .full)) = true then .full else .top
/-- a tuple: as much ours as its items -/
def mkTup (rs : List Rv) : Option Rv :=
  if (rs.all (fun r => !r.vw) && decide (rs.length ≤ 1000)) = true then
    some (if rs.all (fun r => !r.vw && decide (r.l = .full)) = true then ⟨.tup (rs.map (·.d)), .full, rs.any (·.al), false⟩ else ⟨.tup (rs.map (·.d)), .shr, rs.any (·.al), false⟩)
  else none
def mkLst (rs : List Rv) : Option Rv :=
  if (rs.all (fun r => !r.vw) && decide (rs.length ≤ 1000)) = true then
    some (if rs.all (fun r => !r.vw && decide (r.l = .full)) = true then ⟨.lst (rs.map (·.d)), .full, rs.any (·.al), false⟩ else ⟨.lst (rs.map (·.d)), .top, rs.any (·.al), false⟩)
  else none
def eTup (g : EvA) : EvE := fun ρ => (g ρ).bind mkTup
def eLst (g : EvA) : EvE := fun ρ => (g ρ).bind mkLst
theorem nodup1 {p : Addr} : [p].Nodup := by simp
theorem al_any {rs : List Rv} : ∀ r ∈ rs, r.al = true → rs.any (·.al) = true := fun r h e => List.any_eq_true.mpr ⟨r, h, e⟩
theorem le1000 {n : Nat} (h : n ≤ 1000) : n ≤ sizeLine := Nat.le_trans h (by rw [sizeLine_eq]; decide)
theorem e_tup {x1} (h : PAv X es ga) : PEv X (.Tuple es x1 pos) (eTup ga) := by
  refine imp_e (pe_tup h) fun σ H Q ⟨N, H0, ρ, L, W, r, sim, z, q⟩ => ?_
  unfold eTup at z
  obtain ⟨rs, e1, z⟩ := bind_some z
  unfold mkTup at z
  split at z
  · rename_i hc
    rw [Bool.and_eq_true, decide_eq_true_eq] at hc
    refine ⟨N, H0, ρ, L, W, rs, sim, e1, fun vs H1 T s1 n1 d1 p1 => ⟨le1000 (by rw [p1.len]; exact hc.2), fun p np => ?_⟩⟩
    have hT : ∀ a ∈ T, N a ∧ a ∉ W := fun a m => ⟨sim.nw a (n1 a m), fun w => sim.th a w (n1 a m)⟩
    split at z
    · rename_i hf
      cases z
      exact q _ _ T (s1.trans (same_upd np)) n1 d1 (.tup upd_same ((p1.full hf al_any).same (same_upd np)))
    · cases z
      exact q _ _ [] (s1.trans (same_upd np)) (fun _ z => nomatch z) .nil (.tup upd_same (((p1.give hT (fun _ m => m) hc.1 al_any).same (same_upd np)).mono fun a z => ⟨z, fun m => nomatch m⟩))
  · cases z
theorem e_lst (h : PAv X es ga) : PEv X (.List es pos) (eLst ga) := by
  refine imp_e (pe_lst h) fun σ H Q ⟨N, H0, ρ, L, W, r, sim, z, q⟩ => ?_
  unfold eLst at z
  obtain ⟨rs, e1, z⟩ := bind_some z
  unfold mkLst at z
  split at z
  · rename_i hc
    rw [Bool.and_eq_true, decide_eq_true_eq] at hc
    refine ⟨N, H0, ρ, L, W, rs, sim, e1, fun vs H1 T s1 n1 d1 p1 => ⟨le1000 (by rw [p1.len]; exact hc.2), fun p np => ?_⟩⟩
    have hT : ∀ a ∈ T, N a ∧ a ∉ W := fun a m => ⟨sim.nw a (n1 a m), fun w => sim.th a w (n1 a m)⟩
    have nW : p ∉ W := fun w => sim.th p w (s1.free np)
    split at z
    · rename_i hf
      cases z
      refine q _ _ (p :: T) (s1.trans (same_upd np)) (fun a m => (List.mem_cons.mp m).elim (fun e => e ▸ s1.free np) (n1 a)) (List.nodup_cons.mpr ⟨fun m => p1.own_trk p m np, d1⟩) (.nd1 (fun z => nomatch z) .lst upd_same ?_)
      exact (((p1.full hf al_any).trk).same (same_upd np)).mono fun a z => ⟨z.1.1, fun m => (List.mem_cons.mp m).elim (fun e => z.2 (e ▸ np)) z.1.2⟩
    · cases z
      refine q _ _ [p] (s1.trans (same_upd np)) (fun a m => (List.mem_cons.mp m).elim (fun e => e ▸ s1.free np) fun m => nomatch m) nodup1 (.nd1 (fun z => nomatch z) .lst upd_same ?_)
      exact (((p1.give hT (fun _ m => m) hc.1 al_any).trk).same (same_upd np)).mono fun a z => ⟨z.1, fun m => (List.mem_cons.mp m).elim (fun e => z.2 (e ▸ np)) fun m => nomatch m⟩
  · cases z
theorem e_dict {pos : Pos} : PEv X (.Dict [] [] pos) (fun _ => some ⟨.dk [], .full, false, false⟩) := by
  refine imp_e pe_dnewK fun σ H Q ⟨N, H0, ρ, L, W, r, sim, z, q⟩ p np => ?_
  cases z
  exact q _ _ [p] (same_upd np) (fun a m => (List.mem_cons.mp m).elim (fun e => e ▸ np) fun m => nomatch m) nodup1 (.nd1 (fun z => nomatch z) (.dk (kv := []) (kd := []) rfl) upd_same .nil)
theorem e_dictT {pos : Pos} : PEv X (.Dict [] [] pos) (fun _ => some ⟨.dt [], .full, false, false⟩) := by
  refine imp_e pe_dnewT fun σ H Q ⟨N, H0, ρ, L, W, r, sim, z, q⟩ p np => ?_
  cases z
  exact q _ _ [p] (same_upd np) (fun a m => (List.mem_cons.mp m).elim (fun e => e ▸ np) fun m => nomatch m) nodup1 (.nd1 (fun z => nomatch z) (.dt (kv := []) (kd := []) rfl) upd_same .nil)

/-! ### items -/
theorem ix_dict (hu : X.A.units + 1 < cLine) : IxR X (fun x y H Q => ∃ a v, x = .ref a ∧ DGet H a y (some v) ∧ Q v H) := by
  intro value slice pins s σ H x y v u Q I rx ry ⟨a, z, e, g, q⟩ hs
  subst e
  obtain rfl : v = Value.ref a := rx
  unfold subscriptTail
  refine wpAny_bind ?_
  rw [getitemInPython_of_ne (dict_typeIs I g).not_modules]
  refine wpAny_bind (wpAny_specialOf (dict_typeIs I g) PySem.F.slot_dict_getitem.lookup ?_)
  have fin : wpAny (model X.prog X.w) X.A (subscripted slice false (.ref a) u) (fun r s₃ => wpAny (model X.prog X.w) X.A (letTemporaryGo value (.ref a) r >>= fun _ => pure r) (EP X pins σ Q) X.xe s₃) X.xe s := by
    rw [hs]
    exact wpAny_operating (d_getItem hu I g ry fun w' s3 I3 rw' => wpAny_bind (wpAny_letTemporaryGo (wpAny_pure ⟨z, H, I3, rw', q⟩)))
  first
    | exact wpAny_pure (wpAny_bind fin)
    | exact wpAny_bind (wpAny_pure (wpAny_bind fin))
    | exact wpAny_bind fin
/-- an item of what is looked at -/
def part (x : Rv) (d : D) : Rv := if imm d = true then rA d else ⟨d, .shr, x.al, x.vw⟩
def gIx : D → D → Option D
  | .lst ds, .int i => atI ds i
  | .fl ds, .int i => atI ds i
  | .tup ds, .int i => atI ds i
  | .dk kd, d => (keyOf d).bind (dlook kd)
  | .dt kd, .tup ds => (keysOf ds).bind (dlook kd)
  | _, _ => none
def eIx (fa fb : EvE) : EvE := fun ρ => (fa ρ).bind fun x => (fb ρ).bind fun y => (gIx x.d y.d).map (part x)
def rIxA (K : PySem.W.Frag) : R2 := fun x y H Q => rIx K x y H Q ∨ ∃ a v, x = .ref a ∧ DGet H a y (some v) ∧ Q v H
end
section
variable {K : PySem.W.Frag} {S S' : Addr → Prop} {H : Hp} {l l' : Lv} {v w : V} {F G : List Addr} {Q : VK}
theorem Rps.atI {vs : List V} {ds : List D} {i : Int} {d : D} (r : Rps K S H l vs ds F) (h : atI ds i = some d) : ∃ v G, atI vs i = some v ∧ Rp K S H l v d G ∧ ∀ b ∈ G, b ∈ F := by
  unfold L2.atI at h ⊢
  rw [r.len]
  obtain ⟨j, e1, e2⟩ := bind_some h
  obtain ⟨v, G, e3, q⟩ := r.get e2
  exact ⟨v, G, by rw [e1]; exact e3, q⟩
theorem look_rp {κ : Type} [DecidableEq κ] : ∀ {kv : List (κ × V)} {kd : List (κ × D)} {F : List Addr} {k : κ} {d : D}, kv.map (·.1) = kd.map (·.1) → Rps K S H l (kv.map (·.2)) (kd.map (·.2)) F → dlook kd k = some d →
    ∃ v G, valV kv k = some v ∧ Rp K S H l v d G ∧ ∀ b ∈ G, b ∈ F
  | [], [], _, k, d, _, _, h => by cases h
  | [], _ :: _, _, k, d, e, _, _ => by cases e
  | _ :: _, [], _, k, d, e, _, _ => by cases e
  | p :: kv, p' :: kd, F, k, d, e, r, h => by
    have e1 : p.1 = p'.1 := by have := congrArg List.head? e; simpa using this
    have e2 : kv.map (·.1) = kd.map (·.1) := by have := congrArg List.tail e; simpa using this
    have r : Rps K S H l (p.2 :: kv.map (·.2)) (p'.2 :: kd.map (·.2)) F := r
    cases r with
    | cons h1 h2 =>
      by_cases hk : p'.1 = k
      · have : dlook (p' :: kd) k = some p'.2 := by simp [dlook, List.find?_cons, hk]
        rw [this] at h
        cases h
        exact ⟨p.2, _, valV_pos (e1.trans hk), h1, fun _ z => List.mem_append_left _ z⟩
      · have : dlook (p' :: kd) k = dlook kd k := by simp [dlook, List.find?_cons, hk]
        rw [this] at h
        obtain ⟨v, G, q1, q2, q3⟩ := look_rp e2 h2 h
        exact ⟨v, G, by rw [valV_neg (by rw [e1]; exact hk)]; exact q1, q2, fun b z => List.mem_append_right _ (q3 b z)⟩
/-- an item is read -/
theorem ix_rp {d e z : D} (p1 : Rp K S H l v d F) (p2 : Rp K S' H l' w e G) (h : gIx d e = some z) (q : ∀ u l2 F2, Rp K S H l2 u z F2 → (∀ b ∈ F2, b ∈ F) → Q u H) : rIxA K v w H Q := by
  unfold gIx at h
  split at h
  · obtain ⟨a, vs, G1, rfl, h1, h2, h3, _⟩ := p1.lst_inv
    obtain ⟨rfl, _⟩ := p2.int_inv
    obtain ⟨u, G2, e1, r, sub⟩ := h2.atI h
    exact .inl (.inl ⟨a, vs, _, u, rfl, rfl, SqL.of h1, e1, q u _ _ r fun b z => h3 b (sub b z)⟩)
  · obtain ⟨a, vs, rfl, h1, h2, rfl⟩ := p1.fl_inv
    obtain ⟨rfl, _⟩ := p2.int_inv
    obtain ⟨u, G2, e1, r, sub⟩ := h2.atI h
    exact .inl (.inl ⟨a, vs, _, u, rfl, rfl, h1.sq, e1, q u _ _ r sub⟩)
  · obtain ⟨a, vs, rfl, h1, h2⟩ := p1.tup_inv
    obtain ⟨rfl, _⟩ := p2.int_inv
    obtain ⟨u, G2, e1, r, sub⟩ := h2.atI h
    exact .inl (.inr (.inl ⟨a, vs, _, u, rfl, rfl, SqT.of h1, e1, q u _ _ r sub⟩))
  · obtain ⟨k, ek, h⟩ := bind_some h
    obtain ⟨a, kv, G1, rfl, h1, h2, h3, h4⟩ := p1.dk_inv
    obtain ⟨u, G2, e1, r, sub⟩ := look_rp h2 h3 h
    refine .inr ⟨a, u, rfl, ?_, q u _ _ r fun b z => h4 b (sub b z)⟩
    rw [p2.key ek, ← e1]
    exact DGet.k h1
  · obtain ⟨k, ek, h⟩ := bind_some h
    obtain ⟨a, kv, G1, rfl, h1, h2, h3, h4⟩ := p1.dt_inv
    obtain ⟨c, ws, rfl, h5, h6⟩ := p2.tup_inv
    obtain ⟨u, G2, e1, r, sub⟩ := look_rp h2 h3 h
    refine .inr ⟨a, u, rfl, ?_, q u _ _ r fun b z => h4 b (sub b z)⟩
    rw [← e1]
    exact DGet.t h1 (by rw [h5, h6.keys ek])
  · cases h
/-- what is handed on of an item -/
theorem part_out {N : Addr → Prop} {W : List Addr} {H H1 : Hp} {x : Rv} {u : V} {d : D} {l2 : Lv} {F F2 : List Addr} {S : Addr → Prop} {Q : VK} (q : Post K N W H (part x d) Q) (s : Same H H1) (new : ∀ a ∈ F, N a ∧ a ∉ W) (hS : ∀ a, S a → SR N W x.al x.vw a)
    (r : Rp K S H1 l2 u d F2) (sub : ∀ b ∈ F2, b ∈ F) : Q u H1 := by
  unfold part at q
  cases hi : imm d with
  | true =>
    rw [hi, if_pos rfl] at q
    exact q.atom s fun S => (r.of_imm hi).2
  | false =>
    rw [hi, if_neg Bool.false_ne_true] at q
    exact q u H1 [] s (fun _ z => nomatch z) .nil (r.give (fun a z => ⟨hS a z, fun m => nomatch m⟩) fun a z => ⟨⟨fun _ => (new a (sub a z)).1, fun _ => (new a (sub a z)).2⟩, fun m => nomatch m⟩)
end
section
variable {X : Cx} {a b c e : Expr} {fa fb fc fe : EvE} {ga : EvA} {pos : Pos} {rest es : List Expr}
theorem ix_any (hu : X.A.units + 1 < cLine) : IxR X (rIxA X.K) := ix_seq.or (ix_dict hu)
theorem e_ix (hu : X.A.units + 1 < cLine) (ha : PEv X a fa) (hb : PEv X b fb) (hs : PlainIx b := by exact fun _ _ => rfl) : PEv X (.Subscript a b pos) (eIx fa fb) := by
  refine imp_e (pe_ix (ix_any hu) ha hb hs) fun σ H Q ⟨N, H0, ρ, L, W, r, sim, z, q⟩ => ?_
  unfold eIx at z
  obtain ⟨x, e1, z⟩ := bind_some z
  obtain ⟨y, e2, z⟩ := bind_some z
  obtain ⟨d, e3, z⟩ := Option.map_eq_some_iff.mp z
  subst z
  refine two sim e1 e2 fun v w H2 F G s n1 n2 _ _ _ p1 p2 => ?_
  exact ix_rp p1 p2 e3 fun u l2 F2 r sub => part_out q s (F := F) (fun a m => ⟨sim.nw a (n1 a m), fun w => sim.th a w (n1 a m)⟩) (fun a z => z.1) r sub

/-! ### len -/
def lenOf : D → Option Nat
  | .lst ds => some ds.length
  | .fl ds => some ds.length
  | .tup ds => some ds.length
  | .str x => if x.length ≤ 1000000 then some x.length else none
  | .dk kd => some kd.length
  | _ => none
def eLen (ga : EvA) : EvE := fun ρ => (ga ρ).bind fun rs => match rs with
  | [x] => (lenOf x.d).map fun n => rI n
  | _ => none
/-- one argument of a builtin -/
theorem arg1 {K : PySem.W.Frag} {N : Addr → Prop} {H0 H : Hp} {ρ : Env} {σ : St} {L W : List Addr} {ga : EvA} {x : Rv} {R : List V → Hp → Prop} (sim : SimH K N H0 ρ σ H L W) (e1 : ga ρ = some [x])
    (k : ∀ v H1 F, Same H H1 → (∀ a ∈ F, H a = none) → F.Nodup → Rp K (fun a => SR N W x.al x.vw a ∧ (x.vw = false → a ∉ F)) H1 x.l v x.d F → R [v] H1) : tA K ga σ H R :=
  ⟨N, H0, ρ, L, W, [x], sim, e1, fun vs H1 T s n nd p => by
    generalize hT : T = T0 at p
    cases p with
    | cons h1 h2 =>
      cases h2
      rw [List.append_nil] at hT
      subst hT
      exact k _ H1 _ s n nd (h1.mono fun a z => ⟨z.1, fun e m => z.2 e (by simpa using m)⟩)⟩
theorem call_len_d : CallR X (.builtin "len") (fun xs H Q => ∃ a kvs, xs = [.ref a] ∧ H a = some (.dK kvs) ∧ Q (.int kvs.length) H) := by
  intro pins s σ H xs us Q I r ⟨a, kvs, e, h, q⟩
  subst e
  obtain ⟨u, rfl, rx⟩ := vals1 r
  cases rx
  exact d_len I (.inl h) fun t s' I' => ⟨.int kvs.length, H, I', ⟨t, rfl⟩, q⟩
theorem e_len {p : Pos} (hm : X.mg "len" = none) (ha : PAv X (e :: es) ga) (hg : Gl X "len" := by rfl)
    (he : starEach (e :: es) X.env = (false, eval e X.env) :: starEach es X.env := by rfl) (hpl : (backTo pos (starEach es X.env)).any (·.1) = false := by rfl) : PEv X (.Call (.Name "len" p) (e :: es) [] pos) (eLen ga) := by
  refine imp_e (pe_callB (call_len_seq.or (call_len_str.or call_len_d)) hg hm PySem.boot_len ha (by decide) (by decide) he hpl) fun σ H Q ⟨N, H0, ρ, L, W, r, sim, z, q⟩ => ?_
  unfold eLen at z
  obtain ⟨rs, e1, z⟩ := bind_some z
  split at z
  · rename_i x
    obtain ⟨n, e2, z⟩ := Option.map_eq_some_iff.mp z
    subst z
    refine arg1 sim e1 fun v H1 F s _ _ p => ?_
    unfold lenOf at e2
    split at e2
    · rename_i ds hd
      rw [hd] at p
      obtain ⟨a, vs, G, rfl, h1, h2, _⟩ := p.lst_inv
      cases e2
      refine .inl ⟨a, vs, rfl, .inl (SqL.of h1), ?_⟩
      rw [h2.len]
      exact q.int s
    · rename_i ds hd
      rw [hd] at p
      obtain ⟨a, vs, rfl, h1, h2, _⟩ := p.fl_inv
      cases e2
      refine .inl ⟨a, vs, rfl, .inl h1.sq, ?_⟩
      rw [h2.len]
      exact q.int s
    · rename_i ds hd
      rw [hd] at p
      obtain ⟨a, vs, rfl, h1, h2⟩ := p.tup_inv
      cases e2
      refine .inl ⟨a, vs, rfl, .inr (SqT.of h1), ?_⟩
      rw [h2.len]
      exact q.int s
    · rename_i x hd
      rw [hd] at p
      obtain ⟨rfl, _⟩ := p.str_inv
      split at e2
      · rename_i hl
        cases e2
        exact .inr (.inl ⟨x, rfl, Nat.le_trans hl (by rw [sizeLine_eq]; decide), q.int s⟩)
      · cases e2
    · rename_i kd hd
      rw [hd] at p
      obtain ⟨a, kv, G, rfl, h1, h2, _⟩ := p.dk_inv
      cases e2
      refine .inr (.inr ⟨a, kv, rfl, h1, ?_⟩)
      have := congrArg List.length h2
      rw [List.length_map, List.length_map] at this
      rw [this]
      exact q.int s
    · cases e2
  · cases z
end
end Ev

set_option Elab.async false
set_option linter.all false
set_option maxRecDepth 100000
/-! Calls, statements, loops, a def's body. -/
namespace Ev
open PySem PySem.Spec L2
open PyProof.Rows hiding St

/-! ### a def's promise over values -/
abbrev Ret := D × Lv
def spD (K : PySem.W.Frag) (n : Nat) (φ : List D → Option Ret) : Sp := fun vs H Q _ => vs.length = n ∧ ∃ ds r, Rps K (fun _ => True) H .shr vs ds [] ∧ φ ds = some r ∧
  ∀ v H' F, Same H H' → (∀ a ∈ F, H a = none) → F.Nodup → Rp K (fun a => H a = none ∧ a ∉ F) H' r.2 v r.1 F → Q v H'
structure FnD (P : Program) (w : World) (K : PySem.W.Frag) (mg : Str → Option Value) (base : Heap) (k : Nat) (x : Str) (n : Nat) (φ : List D → Option Ret) : Prop where
  ok : ∃ f fd ps, FnOk P w K mg base CX0 k f fd ps (spD K n φ) ∧ mg x = some (.ref f) ∧ PySem.W.keepIn K (.ref f) = true ∧ Binds K fd ps []
def mkR (r : Ret) : Rv := if imm r.1 = true then rA r.1 else ⟨r.1, r.2, false, false⟩
def eCall (φ : List D → Option Ret) (ga : EvA) : EvE := fun ρ => (ga ρ).bind fun rs => (φ (rs.map (·.d))).map mkR
theorem Post.ret {K : PySem.W.Frag} {N : Addr → Prop} {W : List Addr} {H H1 : Hp} {r : Ret} {v : V} {F : List Addr} {Q : VK} {S : Addr → Prop} (q : Post K N W H (mkR r) Q) (s : Same H H1) (new : ∀ a ∈ F, H a = none) (nd : F.Nodup) (hS : ∀ a, S a → (N a ∧ a ∉ W) ∧ a ∉ F) (rp : Rp K S H1 r.2 v r.1 F) : Q v H1 := by
  unfold mkR at q
  cases hi : imm r.1 with
  | true =>
    rw [hi, if_pos rfl] at q
    exact q.atom s fun S => (rp.of_imm hi).2
  | false =>
    rw [hi, if_neg Bool.false_ne_true] at q
    exact q v H1 F s new nd (rp.mono fun a z => ⟨⟨fun _ => (hS a z).1.1, fun _ => (hS a z).1.2⟩, (hS a z).2⟩)
section
variable {X : Cx} {k n : Nat} {x : Str} {φ : List D → Option Ret} {p pos : Pos} {e : Expr} {es : List Expr} {ga : EvA} {fe fa fb : EvE}
theorem e_call (F : FnD X.prog X.w X.K X.mg X.base k x n φ) (hr : Room k X.A) (ha : PAv X (e :: es) ga) (hg : Gl X x := by rfl) (hdb : (x == ("__debug__" : Str)) = false := by decide)
    (he : starEach (e :: es) X.env = (false, eval e X.env) :: starEach es X.env := by rfl) (hpl : (backTo pos (starEach es X.env)).any (·.1) = false := by rfl) (hn : (e :: es).length = n := by rfl) (hl : ∀ ρ rs, ga ρ = some rs → rs.length = n) :
    PEv X (.Call (.Name x p) (e :: es) [] pos) (eCall φ ga) := by
  obtain ⟨f, fd, ps, G, hm, hk, hb⟩ := F.ok
  refine imp_e (pe_call G hr hg hm hk hb .nil pass0 ha hdb he hpl) fun σ H Q ⟨N, H0, ρ, L, W, r, sim, z, q⟩ => ?_
  unfold eCall at z
  obtain ⟨rs, e1, z⟩ := bind_some z
  obtain ⟨r', e2, z⟩ := Option.map_eq_some_iff.mp z
  subst z
  refine ⟨N, H0, ρ, L, W, rs, sim, e1, fun vs H1 T s1 n1 d1 p1 => ⟨by rw [List.append_nil, p1.len, hl ρ rs e1], rs.map (·.d), r', by rw [List.append_nil]; exact p1.look, e2, fun v H2 F s2 n2 d2 p2 => ?_⟩⟩
  exact q.ret (s1.trans s2) (fun a z => s1.free (n2 a z)) d2 (fun a z => ⟨⟨sim.nw a (s1.free z.1), fun w => sim.th a w (s1.free z.1)⟩, z.2⟩) p2
theorem e_call0 (F : FnD X.prog X.w X.K X.mg X.base k x 0 φ) (hr : Room k X.A) (hg : Gl X x := by rfl) (hdb : (x == ("__debug__" : Str)) = false := by decide) : PEv X (.Call (.Name x p) [] [] pos) (eCall φ aNil) := by
  obtain ⟨f, fd, ps, G, hm, hk, hb⟩ := F.ok
  refine imp_e (pe_call0 G hr hg hm hk hb .nil pass0 hdb) fun σ H Q ⟨N, H0, ρ, L, W, r, sim, z, q⟩ => ?_
  unfold eCall at z
  obtain ⟨rs, e1, z⟩ := bind_some z
  obtain ⟨r', e2, z⟩ := Option.map_eq_some_iff.mp z
  subst z
  cases e1
  refine ⟨rfl, [], r', .nil, e2, fun v H2 F s2 n2 d2 p2 => ?_⟩
  exact q.ret s2 n2 d2 (fun a z => ⟨⟨sim.nw a z.1, fun w => sim.th a w z.1⟩, z.2⟩) p2
end
theorem aNil_len {ρ : Env} {rs : List Rv} (h : aNil ρ = some rs) : rs.length = 0 := by cases h; rfl
theorem aCons_len {f : EvE} {g : EvA} {n : Nat} (hg : ∀ ρ rs, g ρ = some rs → rs.length = n) : ∀ ρ rs, aCons f g ρ = some rs → rs.length = n + 1 := fun ρ rs h => by
  unfold aCons at h
  obtain ⟨r, _, h⟩ := bind_some h
  obtain ⟨rs', e, h⟩ := bind_some h
  cases h
  rw [List.length_cons, hg ρ rs' e]

/-! ### statements -/
inductive Out where
  | nx (ρ : Env) | bk (ρ : Env) | ct (ρ : Env) | rt (d : D) (l : Lv)
abbrev EvS := Env → Option Out
/-- what a statement leaves: all that was not ours alone -/
def Frm (H : Hp) (L : List Addr) (H' : Hp) (L' : List Addr) : Prop := (∀ b o, H b = some o → b ∉ L → H' b = some o) ∧ (∀ b, H' b = none → H b = none) ∧ ∀ b ∈ L', b ∈ L ∨ H b = none
theorem Frm.refl (H : Hp) (L : List Addr) : Frm H L H L := ⟨fun _ _ e _ => e, fun _ e => e, fun _ z => .inl z⟩
theorem Frm.trans {H H1 H2 : Hp} {L L1 L2 : List Addr} (a : Frm H L H1 L1) (b : Frm H1 L1 H2 L2) : Frm H L H2 L2 :=
  ⟨fun c o e n => b.1 c o (a.1 c o e n) fun z => (a.2.2 c z).elim n fun q => (by rw [e] at q; cases q), fun c e => a.2.1 c (b.2.1 c e), fun c z => (b.2.2 c z).elim (a.2.2 c) fun q => .inr (a.2.1 c q)⟩
theorem Frm.same {H H' : Hp} {L L' : List Addr} (s : Same H H') (h : ∀ b ∈ L', b ∈ L ∨ H b = none) : Frm H L H' L' := ⟨fun b o e _ => s b o e, fun b e => s.free e, h⟩
def PostS (K : PySem.W.Frag) (N : Addr → Prop) (H0 H : Hp) (L : List Addr) : Out → Ends → Prop
  | .nx ρ, D => ∀ σ H' L', Sim K N H0 ρ σ H' L' → Frm H L H' L' → D.nx σ H'
  | .bk ρ, D => ∀ σ H' L', Sim K N H0 ρ σ H' L' → Frm H L H' L' → D.bk σ H'
  | .ct ρ, D => ∀ σ H' L', Sim K N H0 ρ σ H' L' → Frm H L H' L' → D.ct σ H'
  | .rt d l, D => ∀ v H' F, (∀ b o, H0 b = some o → ¬ N b → H' b = some o) → (∀ a ∈ F, N a) → F.Nodup → Rp K (fun a => N a ∧ a ∉ F) H' l v d F → D.rt v H'
def tS (K : PySem.W.Frag) (f : EvS) : TS := fun D σ H => ∃ N H0 ρ L o, Sim K N H0 ρ σ H L ∧ f ρ = some o ∧ PostS K N H0 H L o D
abbrev PSv (X : Cx) (st : Stmt) (f : EvS) : Prop := PS X st (tS X.K f)
abbrev PSsv (X : Cx) (st : List Stmt) (f : EvS) : Prop := PSs X st (tS X.K f)
theorem imp_s {X : Cx} {e : Stmt} {t t' : TS} (h : PS X e t) (i : ∀ D σ H, t' D σ H → t D σ H) : PS X e t' := ⟨fun p s σ H D I w => h.run p s σ H D I (i D σ H w)⟩
theorem imp_ss {X : Cx} {e : List Stmt} {t t' : TS} (h : PSs X e t) (i : ∀ D σ H, t' D σ H → t D σ H) : PSs X e t' := ⟨fun p s σ H D I w => h.run p s σ H D I (i D σ H w)⟩
theorem PostS.at_ {K : PySem.W.Frag} {N : Addr → Prop} {H0 H H1 : Hp} {L L1 : List Addr} {o : Out} {D : Ends} (p : PostS K N H0 H L o D) (f : Frm H L H1 L1) : PostS K N H0 H1 L1 o D := by
  cases o with
  | nx ρ => exact fun σ H' L' s f' => p σ H' L' s (f.trans f')
  | bk ρ => exact fun σ H' L' s f' => p σ H' L' s (f.trans f')
  | ct ρ => exact fun σ H' L' s f' => p σ H' L' s (f.trans f')
  | rt d l => exact p
def sSeq (f g : EvS) : EvS := fun ρ => (f ρ).bind fun o => match o with
  | .nx ρ' => g ρ'
  | o => some o
def sNil : EvS := fun ρ => some (.nx ρ)
section
variable {X : Cx} {st : Stmt} {rest body orelse : List Stmt} {f g : EvS} {e c : Expr} {fe : EvE} {gc : EvT} {pos pos' : Pos}
theorem s_nil : PSsv X [] sNil := imp_ss pss_nil fun D σ H ⟨N, H0, ρ, L, o, sim, z, q⟩ => by
  cases z
  exact q σ H L sim (Frm.refl H L)
theorem s_cons (h1 : PSv X st f) (h2 : PSsv X rest g) : PSsv X (st :: rest) (sSeq f g) := by
  refine imp_ss (pss_cons h1 h2) fun D σ H ⟨N, H0, ρ, L, o, sim, z, q⟩ => ?_
  unfold sSeq at z
  obtain ⟨o1, e1, z⟩ := bind_some z
  refine ⟨N, H0, ρ, L, o1, sim, e1, ?_⟩
  cases o1 with
  | nx ρ' => exact fun σ' H' L' s' f' => ⟨N, H0, ρ', L', o, s', z, q.at_ f'⟩
  | bk ρ' => cases z; exact q
  | ct ρ' => cases z; exact q
  | rt d l => cases z; exact q
theorem s_one (h1 : PSv X st f) : PSsv X [st] f := pss_one h1
theorem s_pass : PSv X (.Pass pos) sNil := imp_s ps_pass fun D σ H ⟨N, H0, ρ, L, o, sim, z, q⟩ => by
  cases z
  exact q σ H L sim (Frm.refl H L)
theorem s_break : PSv X (.Break pos) (fun ρ => some (.bk ρ)) := imp_s ps_break fun D σ H ⟨N, H0, ρ, L, o, sim, z, q⟩ => by
  cases z
  exact q σ H L sim (Frm.refl H L)
theorem s_cont : PSv X (.Continue pos) (fun ρ => some (.ct ρ)) := imp_s ps_continue fun D σ H ⟨N, H0, ρ, L, o, sim, z, q⟩ => by
  cases z
  exact q σ H L sim (Frm.refl H L)
def sIf (c : EvT) (f g : EvS) : EvS := fun ρ => (c ρ).bind fun k => if k = true then f ρ else g ρ
theorem s_if (hc : PTv X c gc) (ha : PSsv X body f) (hb : PSsv X orelse g) : PSv X (.If c body orelse pos) (sIf gc f g) := by
  refine imp_s (ps_if hc ha hb) fun D σ H ⟨N, H0, ρ, L, o, sim, z, q⟩ => ?_
  unfold sIf at z
  obtain ⟨k, e1, z⟩ := bind_some z
  refine ⟨N, H0, ρ, L, L, k, sim.h, e1, fun H1 s1 => ?_⟩
  have fr : Frm H L H1 L := Frm.same s1 fun b z => .inl z
  cases k with
  | true => exact iteT ⟨N, H0, ρ, L, o, sim.same s1, z, q.at_ fr⟩
  | false => exact iteF ⟨N, H0, ρ, L, o, sim.same s1, z, q.at_ fr⟩
/-- an expression for what it does: nothing -/
def sExpr (fe : EvE) : EvS := fun ρ => (fe ρ).map fun _ => .nx ρ
theorem s_expr (he : PEv X e fe) (hs : swapsWith e none pos.line X.env = pure false := by rfl) : PSv X (.Expr e pos) (sExpr fe) := by
  refine imp_s (ps_expr he hs) fun D σ H ⟨N, H0, ρ, L, o, sim, z, q⟩ => ?_
  unfold sExpr at z
  obtain ⟨r, e1, z⟩ := Option.map_eq_some_iff.mp z
  subst z
  exact one sim.h e1 fun v H1 F s1 _ _ _ => q σ H1 L (sim.same s1) (Frm.same s1 fun b z => .inl z)
theorem s_doc {x j} : PSv X (.Expr (.Constant (.str x) j pos) pos') sNil := imp_s ps_doc fun D σ H ⟨N, H0, ρ, L, o, sim, z, q⟩ => by
  cases z
  exact q σ H L sim (Frm.refl H L)
/-- a name is stored -/
def sSet (fz : List Nat) (i : Nat) (fe : EvE) : EvS := fun ρ => (fe (frzs fz ρ)).bind fun r => if (!r.vw && decide (i < (frzs fz ρ).length)) = true then some (.nx ((frzs fz ρ).set i (some ⟨r.d, r.l, r.al⟩))) else none
theorem s_set (fz : List Nat) (i : Nat) {x : Str} (he : PEv X e fe) (hN : X.N.Nodup) (hi : X.N[i]? = some x := by rfl) (hx : Loc X.env.scope x := by first | exact Or.inl rfl | exact Or.inr rfl) (hs : swapsWith e (some (.Name x pos')) pos.line X.env = pure false := by rfl) (hf : X.fn x = true ∨ X.env.scope.names.lookup x = some .local := by first | exact .inl rfl | exact .inr rfl | assumption) :
    PSv X (.Assign [.Name x pos'] e pos) (sSet fz i fe) := by
  refine imp_s (ps_set hN hi hx he hs hf) fun D σ H ⟨N, H0, ρ, L, o, sim, z, q⟩ => ?_
  unfold sSet at z
  obtain ⟨L1, sim1, sub⟩ := sim.frzs fz
  obtain ⟨r, e1, z⟩ := bind_some z
  split at z
  · rename_i hc
    rw [Bool.and_eq_true, decide_eq_true_eq] at hc
    cases z
    refine one sim1.h e1 fun v H1 F s1 n1 d1 p1 => ?_
    have hv : r.vw = false := by simpa using hc.1
    obtain ⟨L2, sim2, sub2⟩ := sim1.set (r := ⟨r.d, r.l, r.al⟩) s1 n1 d1 (p1.mono fun a z => ⟨⟨z.1.1, fun _ => z.1.2 hv⟩, z.2⟩) hc.2
    exact q _ H1 L2 sim2 (Frm.same s1 fun b z => (sub2 b z).imp (sub b) (n1 b))
  · cases z
/-- return -/
def sRet (fe : EvE) : EvS := fun ρ => (fe ρ).bind fun r => if r.al = true then none else some (.rt r.d r.l)
theorem s_ret (he : PEv X e fe) : PSv X (.Return (some e) pos) (sRet fe) := by
  refine imp_s (ps_ret he) fun D σ H ⟨N, H0, ρ, L, o, sim, z, q⟩ => ?_
  unfold sRet at z
  obtain ⟨r, e1, z⟩ := bind_some z
  split at z
  · cases z
  · rename_i hc
    cases z
    refine one sim.h e1 fun v H1 F s1 n1 d1 p1 => q v H1 F (fun b o e n => s1 b o (sim.kp b o e n)) (fun a z => sim.nw a (n1 a z)) d1 (p1.mono fun a z => ⟨z.1.1 (by simpa using hc), z.2⟩)
theorem s_ret0 : PSv X (.Return none pos) (fun _ => some (.rt .non .full)) := by
  refine imp_s ps_retN fun D σ H ⟨N, H0, ρ, L, o, sim, z, q⟩ => ?_
  cases z
  exact q .non H [] sim.kp (fun _ z => nomatch z) .nil .non
/-- return a name: what it holds alone goes out -/
def sRetV (i : Nat) : EvS := fun ρ => match ρ[i]? with
  | some (some s) => if imm s.d = true then some (.rt s.d .full) else if s.al = true then none else some (.rt s.d s.l)
  | _ => none
theorem s_retv (i : Nat) {x : Str} (hN : X.N[i]? = some x := by rfl) (hv : Vis X.env.scope x := by first | exact Or.inl rfl | exact Or.inr (Or.inl rfl) | exact Or.inr (Or.inr rfl)) (hd : (x == ("__debug__" : Str)) = false := by decide)
    (hcd : (x == ("__classdict__" : Str)) = false := by decide) : PSv X (.Return (some (.Name x pos')) pos) (sRetV i) := by
  refine imp_s (ps_ret (pe_var hN hv hd hcd)) fun D σ H ⟨N, H0, ρ, L, o, sim, z, q⟩ => ?_
  unfold sRetV at z
  split at z
  · rename_i s es
    obtain ⟨F1, G, F2, eL, get, _⟩ := sim.sl.at_ (List.getElem?_eq_some_iff.mp es).1
    obtain ⟨v, ev, rp⟩ := get s es
    refine ⟨v, ev, ?_⟩
    split at z
    · rename_i hi
      cases z
      exact q v H [] sim.kp (fun _ z => nomatch z) .nil ((rp.of_imm hi).2)
    · split at z
      · cases z
      · rename_i ha
        cases z
        have hnd := sim.nd
        rw [eL, List.nodup_append, List.nodup_append] at hnd
        refine q v H G sim.kp (fun a z => sim.ln a (by rw [eL]; simp [z])) hnd.2.1.1 (rp.mono fun a z => ⟨z.1 (by simpa using ha), fun m => z.2 rfl (by rw [eL]; simp [m])⟩)
  · cases z
end

/-! ### targets -/
inductive Tg where
  | nm (i : Nat) | tp (ts : List Tg)
mutual
def tgSet : Tg → D → Bool → Env → Option Env
  | .nm i, d, al, ρ => if i < ρ.length then some (ρ.set i (some ⟨d, if imm d = true then .full else .shr, al⟩)) else none
  | .tp ts, .tup ds, al, ρ => if ts.length = ds.length then tgsSet ts ds al ρ else none
  | _, _, _, _ => none
def tgsSet : List Tg → List D → Bool → Env → Option Env
  | [], [], _, ρ => some ρ
  | t :: ts, d :: ds, al, ρ => (tgSet t d al ρ).bind (tgsSet ts ds al)
  | _, _, _, _ => none
end
mutual
def tgSlots : Tg → List Nat
  | .nm i => [i]
  | .tp ts => tgsSlots ts
def tgsSlots : List Tg → List Nat
  | [] => []
  | t :: ts => tgSlots t ++ tgsSlots ts
end
/-- only these slots were touched -/
def Touch (js : List Nat) (σ σ' : St) : Prop := σ'.length = σ.length ∧ ∀ j, j ∉ js → σ'[j]? = σ[j]?
theorem Touch.refl (js : List Nat) (σ : St) : Touch js σ σ := ⟨rfl, fun _ _ => rfl⟩
def tG (K : PySem.W.Frag) (t : Tg) : TG := fun v σ H Q => ∃ N H0 ρ L W d al ρ', SimH K N H0 ρ σ H L W ∧ Rp K (SR N W al false) H .shr v d [] ∧ tgSet t d al ρ = some ρ' ∧ ∀ σ' L', SimH K N H0 ρ' σ' H L' W → (∀ a ∈ L', a ∈ L) → Touch (tgSlots t) σ σ' → Q σ' H
def tGs (K : PySem.W.Frag) (ts : List Tg) : TGs := fun vs σ H Q => ∃ N H0 ρ L W ds al ρ', SimH K N H0 ρ σ H L W ∧ Rps K (SR N W al false) H .shr vs ds [] ∧ tgsSet ts ds al ρ = some ρ' ∧ ∀ σ' L', SimH K N H0 ρ' σ' H L' W → (∀ a ∈ L', a ∈ L) → Touch (tgsSlots ts) σ σ' → Q σ' H
abbrev PGv (X : Cx) (e : Expr) (t : Tg) : Prop := PG X e (tG X.K t)
abbrev PGsv (X : Cx) (es : List Expr) (ts : List Tg) : Prop := PGs X es (tGs X.K ts)
theorem imp_g {X : Cx} {e : Expr} {t t' : TG} (h : PG X e t) (i : ∀ v σ H Q, t' v σ H Q → t v σ H Q) : PG X e t' := ⟨fun p s σ H v u Q I r w => h.run p s σ H v u Q I r (i v σ H Q w)⟩
theorem imp_gs {X : Cx} {e : List Expr} {t t' : TGs} (h : PGs X e t) (i : ∀ v σ H Q, t' v σ H Q → t v σ H Q) : PGs X e t' := ⟨fun p s σ H v u Q I r w => h.run p s σ H v u Q I r (i v σ H Q w)⟩
section
variable {X : Cx} {pos pos' : Pos} {es : List Expr} {e : Expr} {t : Tg} {ts : List Tg} {fe : EvE}
theorem g_name (i : Nat) {x : Str} (hN : X.N.Nodup) (hi : X.N[i]? = some x := by rfl) (hx : Loc X.env.scope x := by first | exact Or.inl rfl | exact Or.inr rfl) (hf : X.fn x = true ∨ X.env.scope.names.lookup x = some .local := by first | exact .inl rfl | exact .inr rfl | assumption) : PGv X (.Name x pos) (.nm i) := by
  refine imp_g (pg_name hN hi hx hf) fun v σ H Q ⟨N, H0, ρ, L, W, d, al, ρ', sim, rp, z, q⟩ => ?_
  simp only [tgSet] at z
  split at z
  · rename_i hc
    cases z
    obtain ⟨L', sim', sub⟩ := sim.set0 (r := ⟨d, if imm d = true then .full else .shr, al⟩) (v := v) (by
      cases hi : imm d with
      | true => exact (rp.of_imm hi).2
      | false => exact rp) hc
    refine q _ L' sim' sub ⟨List.length_set, fun j hj => ?_⟩
    rw [List.getElem?_set_ne]
    intro e
    exact hj (by simp [tgSlots, e])
  · cases z
theorem gs_nil : PGsv X [] [] := imp_gs pgs_nil fun vs σ H Q ⟨N, H0, ρ, L, W, ds, al, ρ', sim, rp, z, q⟩ => by
  generalize hF : ([] : List Addr) = F0 at rp
  cases rp with
  | nil =>
    simp only [tgsSet] at z
    cases z
    exact ⟨rfl, q σ L sim (fun _ z => z) (Touch.refl _ _)⟩
  | cons _ _ => simp only [tgsSet] at z; cases z
theorem gs_cons (h1 : PGv X e t) (h2 : PGsv X es ts) (hs : (assignEach (e :: es) X.env).map (·.2) = assign e X.env :: (assignEach es X.env).map (·.2) := by rfl) : PGsv X (e :: es) (t :: ts) := by
  refine imp_gs (pgs_cons h1 h2 hs) fun vs σ H Q ⟨N, H0, ρ, L, W, ds, al, ρ', sim, rp, z, q⟩ => ?_
  generalize hF : ([] : List Addr) = F0 at rp
  cases rp with
  | nil => simp only [tgsSet] at z; cases z
  | cons r1 r2 =>
    have e1 := r1.shr0
    have e2 := r2.shr0
    subst e1 e2
    simp only [tgsSet] at z
    obtain ⟨ρ1, z1, z2⟩ := bind_some z
    refine ⟨_, _, rfl, N, H0, ρ, L, W, _, al, ρ1, sim, r1, z1, fun σ1 L1 sim1 sub1 t1 => ⟨N, H0, ρ1, L1, W, _, al, ρ', sim1, r2, z2, fun σ2 L2 sim2 sub2 t2 => q σ2 L2 sim2 (fun a m => sub1 a (sub2 a m)) ⟨t2.1.trans t1.1, fun j hj => ?_⟩⟩⟩
    rw [tgsSlots, List.mem_append, not_or] at hj
    rw [t2.2 j hj.2, t1.2 j hj.1]
theorem g_tup {k : Nat} (hc : X.calm = true) (h : PGsv X es ts) (hn : (assignEach es X.env).length = ts.length := by rfl) (hst : (assignEach es X.env).findIdx? (·.1) = none := by rfl) : PGv X (.Tuple es k pos) (.tp ts) := by
  refine imp_g (pg_tup hc h hn hst) fun v σ H Q ⟨N, H0, ρ, L, W, d, al, ρ', sim, rp, z, q⟩ => ?_
  cases d with
  | tup ds =>
    simp only [tgSet] at z
    split at z
    · rename_i hl
      obtain ⟨a, vs, rfl, h1, h2⟩ := rp.tup_inv
      exact ⟨a, vs, rfl, SqT.of h1, by rw [h2.len, hl], N, H0, ρ, L, W, ds, al, ρ', sim, h2, z, fun σ' L' s' u t => q σ' L' s' u (by simpa only [tgSlots] using t)⟩
    · cases z
  | _ => simp only [tgSet] at z; cases z
/-- targets = value -/
def sAsg (fz : List Nat) (t : Tg) (fe : EvE) : EvS := fun ρ => (fe (frzs fz ρ)).bind fun r => if r.vw = true then none else (tgSet t r.d r.al (frzs fz ρ)).map .nx
theorem s_asg (fz : List Nat) {tg : Expr} (he : PEv X e fe) (hg : PGv X tg t) (hs : swapsWithSole [tg] e pos.line X.env = pure false := by rfl) (hw : swappedStores [tg] e X.env = pure none := by rfl) (h1 : (assignEach [tg] X.env).map (·.2) = [assign tg X.env] := by rfl) : PSv X (.Assign [tg] e pos) (sAsg fz t fe) := by
  refine imp_s (ps_asg he hg hs hw h1) fun D σ H ⟨N, H0, ρ, L, o, sim, z, q⟩ => ?_
  unfold sAsg at z
  obtain ⟨L1, sim1, sub⟩ := sim.frzs fz
  obtain ⟨r, e1, z⟩ := bind_some z
  split at z
  · cases z
  · rename_i hv
    have hv : r.vw = false := by simpa using hv
    obtain ⟨ρ', e2, z⟩ := Option.map_eq_some_iff.mp z
    subst z
    refine one sim1.h e1 fun v H1 F s1 n1 d1 p1 => ?_
    refine ⟨N, H0, _, L1, L1, r.d, r.al, ρ', (sim1.same s1).h, p1.give (fun a z => ⟨z.1.1, fun _ => z.1.2 hv⟩) (fun a m => ⟨fun _ => sim1.nw a (n1 a m), fun _ w => sim1.th a w (n1 a m)⟩), e2, fun σ' L' sim' sub' _ => ?_⟩
    exact q σ' H1 L' sim'.sim (Frm.same s1 fun b z => .inl (sub b (sub' b z)))
end
end Ev

set_option Elab.async false
set_option linter.all false
set_option maxRecDepth 100000
/-! Loops, comprehensions, a def's body. -/
namespace Ev
open PySem PySem.Spec L2
open PyProof.Rows hiding St

abbrev EvI := Env → Option (List (D × Bool))
def Kept (H : Hp) (W : List Addr) (H' : Hp) : Prop := ∀ b o, H b = some o → b ∉ W → H' b = some o
/-- an iterator gives these items, whatever is done to what is ours alone -/
structure Yld (K : PySem.W.Frag) (N : Addr → Prop) (W : List Addr) (H1 : Hp) (J : It) (items : List (D × Bool)) : Prop where
  go : ∀ i d al H2, items[i]? = some (d, al) → Kept H1 W H2 → J.go i H2
  yld : ∀ i d al H2 x H3, items[i]? = some (d, al) → Kept H1 W H2 → J.yld i H2 x H3 → Same H2 H3 ∧ Rp K (fun a => SR N W al false a ∧ H1 a ≠ none) H3 .shr x d []
  stop : ∀ H2, Kept H1 W H2 → J.stop items.length H2
def tI (K : PySem.W.Frag) (f : EvI) : TI := fun σ H R => ∃ N H0 ρ L W items, SimH K N H0 ρ σ H L W ∧ f ρ = some items ∧ ∀ J H1, Same H H1 → Yld K N W H1 J items → R J H1
abbrev PIv (X : Cx) (tg iter : Expr) (f : EvI) : Prop := PI X tg iter (tI X.K f)
theorem imp_i {X : Cx} {tg e : Expr} {t t' : TI} (h : PI X tg e t) (i : ∀ σ H R, t' σ H R → t σ H R) : PI X tg e t' := ⟨fun p s σ H R I w => h.run p s σ H R I (i σ H R w)⟩
section
variable {K : PySem.W.Frag} {N : Addr → Prop} {H0 H H' : Hp} {ρ : Env} {σ : St} {L W : List Addr}
/-- shared things outlast what is done to ours -/
theorem Rp.kept {S : Addr → Prop} {v : V} {d : D} (r : Rp K (fun a => S a ∧ a ∉ W) H .shr v d []) (m : ∀ a ∈ W, Mut (H a)) (k : Kept H W H') : Rp K (fun a => S a ∧ a ∉ W) H' .shr v d [] :=
  r.keep fun b o e q => k b o e (by
    rcases q with q | q | ⟨xs, rfl⟩ | ⟨o', u, rfl⟩
    · exact q.2
    · exact nomatch q
    · intro z; have := m b z; rw [e] at this; exact this
    · intro z; have := m b z; rw [e] at this; exact this)
end
section
variable {X : Cx} {tg e : Expr} {fe : EvE} {pos : Pos} {body : List Stmt} {t : Tg} {b : EvS} {it : EvI}
/-- a list -/
def iLst (fe : EvE) : EvI := fun ρ => (fe ρ).bind fun x => if x.vw = true then none else match x.d with
  | .lst ds => some (ds.map fun d => (d, x.al))
  | .fl ds => some (ds.map fun d => (d, x.al))
  | _ => none
theorem yld_list {K : PySem.W.Frag} {N : Addr → Prop} {W : List Addr} {H1 : Hp} {a : Addr} {vs : List V} {ds : List D} {al : Bool} (hl : ∀ H2, Kept H1 W H2 → SqL K H2 a vs) (hm : ∀ b ∈ W, Mut (H1 b)) (r : Rps K (SR N W al false) H1 .shr vs ds []) : Yld K N W H1 (Itl K a) (ds.map fun d => (d, al)) where
  go := fun i d al' H2 e k => by
    rw [List.getElem?_map] at e
    obtain ⟨d', e1, e2⟩ := Option.map_eq_some_iff.mp e
    obtain ⟨v, G, e3, _⟩ := r.get e1
    exact ⟨vs, v, hl H2 k, e3⟩
  yld := fun i d al' H2 x H3 e k y => by
    rw [List.getElem?_map] at e
    obtain ⟨d', e1, e2⟩ := Option.map_eq_some_iff.mp e
    cases e2
    obtain ⟨v, G, e3, rp, sub⟩ := r.get e1
    obtain ⟨e4, y⟩ := y
    subst e4
    have := y vs (hl _ k)
    rw [e3] at this
    cases this
    have hG : G = [] := rp.shr0
    subst hG
    refine ⟨Same.refl _, ?_⟩
    have z := (rp.trk.mono (S' := fun a => ((al = false → N a) ∧ H1 a ≠ none) ∧ a ∉ W) fun a z => ⟨⟨z.1.1, z.2⟩, z.1.2 rfl⟩).kept hm k
    exact z.mono fun a z => ⟨⟨z.1.1, fun _ => z.2⟩, z.1.2⟩
  stop := fun H2 k => ⟨vs, hl H2 k, by rw [List.length_map, r.len]; exact Nat.le_refl _⟩
theorem Kept.same {H1 H2 : Hp} {W W' : List Addr} (k : Kept H1 W H2) (h : ∀ a ∈ W, a ∈ W') : Kept H1 W' H2 := fun b o e n => k b o e fun z => n (h b z)
theorem i_lst (he : PEv X e fe) : PIv X tg e (iLst fe) := by
  refine imp_i (pi_list he) fun σ H R ⟨N, H0, ρ, L, W, items, sim, z, q⟩ => ?_
  unfold iLst at z
  obtain ⟨x, e1, z⟩ := bind_some z
  split at z
  · cases z
  · rename_i hv
    have hv : x.vw = false := by simpa using hv
    refine one sim e1 fun v H1 F s1 n1 d1 p1 => ?_
    have new : ∀ a ∈ F, N a ∧ a ∉ W := fun a m => ⟨sim.nw a (n1 a m), fun w => sim.th a w (n1 a m)⟩
    have muW : ∀ b ∈ W, Mut (H1 b) := fun b z => mut_same (sim.mu b z) s1
    split at z
    · rename_i ds hd
      cases z
      rw [hd] at p1
      have p2 := p1.give (S' := SR N W x.al false) (fun a z => ⟨z.1.1, fun _ => z.1.2 hv⟩) fun a m => ⟨fun _ => (new a m).1, fun _ => (new a m).2⟩
      cases p2 with
      | nd0 hn h1 h2 h3 =>
        cases hn
        refine ⟨_, rfl, ⟨_, SqL.of h1⟩, q _ H1 s1 (yld_list (fun H2 k => SqL.of (k _ _ h1 (h2.2 rfl))) muW h3)⟩
    · rename_i ds hd
      cases z
      rw [hd] at p1
      have p2 := p1.give (S' := SR N W x.al false) (fun a z => ⟨z.1.1, fun _ => z.1.2 hv⟩) fun a m => ⟨fun _ => (new a m).1, fun _ => (new a m).2⟩
      obtain ⟨a, vs, rfl, h1, h2, _⟩ := p2.fl_inv
      refine ⟨a, rfl, ⟨_, h1.sq⟩, q _ H1 s1 (yld_list (fun H2 k => ?_) muW h2)⟩
      rcases h1 with ⟨o, h1⟩ | h1
      · refine .inl (.inr ⟨o, k _ _ h1 fun w => ?_⟩)
        have := muW a w
        rw [h1] at this
        exact this
      · exact .inr h1
    · cases z
/-- a range -/
def iRng (lo : Int) (n : Nat) : List (D × Bool) := (List.range n).map fun (i : Nat) => (D.int (lo + (i : Int)), false)
theorem iRng_get {lo : Int} {n i : Nat} {d : D} {al : Bool} (h : (iRng lo n)[i]? = some (d, al)) : i < n ∧ d = .int (lo + (i : Int)) ∧ al = false := by
  unfold iRng at h
  rw [List.getElem?_map] at h
  obtain ⟨j, e1, e2⟩ := Option.map_eq_some_iff.mp h
  obtain ⟨h1, h2⟩ := List.getElem?_eq_some_iff.mp e1
  rw [List.getElem_range] at h2
  subst h2
  cases e2
  exact ⟨by simpa using h1, rfl, rfl⟩
theorem yld_rng {K : PySem.W.Frag} {N : Addr → Prop} {W : List Addr} {H1 : Hp} {lo : Int} {n : Nat} : Yld K N W H1 (Itr lo n) (iRng lo n) where
  go := fun i d al H2 e k => (iRng_get e).1
  yld := fun i d al H2 x H3 e k y => by
    obtain ⟨h1, rfl, rfl⟩ := iRng_get e
    obtain ⟨e1, e2⟩ := y
    subst e1 e2
    exact ⟨Same.refl _, .int⟩
  stop := fun H2 k => by
    show n ≤ (iRng lo n).length
    unfold iRng
    rw [List.length_map, List.length_range]
    exact Nat.le_refl _
def iRange (ga : EvA) : EvI := fun ρ => (ga ρ).bind fun (rs : List Rv) => match (rs.map Rv.d : List D) with
  | [.int j] => if -(2 ^ 62) ≤ j ∧ j < 2 ^ 62 then some (iRng 0 j.toNat) else none
  | [.int i, .int j] => if -(2 ^ 62) ≤ i ∧ i < 2 ^ 62 ∧ -(2 ^ 62) ≤ j ∧ j < 2 ^ 62 then some (iRng i (j - i).toNat) else none
  | _ => none
theorem RpL.ints {K : PySem.W.Frag} {N : Addr → Prop} {W T : List Addr} {H : Hp} : ∀ {vs : List V} {rs : List Rv} {F : List Addr} {ns : List Int}, RpL K N W T H vs rs F → rs.map (·.d) = ns.map .int → vs = ns.map V.int
  | _, _, _, [], .nil, _ => rfl
  | _, _, _, _ :: _, .nil, e => by cases e
  | _, _, _, [], .cons _ _, e => by cases e
  | _, _, _, n :: ns, .cons h1 h2, e => by
    have e := List.cons.inj e
    have e1 : _ = D.int n := e.1
    rw [show Rv.d _ = D.int n from e1] at h1
    rw [h1.int_inv.1, RpL.ints h2 e.2]
    rfl
theorem i_range1 {a : Expr} {ga : EvA} {p : Pos} (hm : X.mg "range" = none) (ha : PAv X [a] ga) (hl : ∀ ρ rs, ga ρ = some rs → rs.length = 1) (hg : Gl X "range" := by rfl) (hs : starEach [a] X.env = [(false, eval a X.env)] := by rfl) : PIv X tg (.Call (.Name "range" p) [a] [] pos) (iRange ga) := by
  refine imp_i (pi_range1 hg hm ha hs) fun σ H R ⟨N, H0, ρ, L, W, items, sim, z, q⟩ => ?_
  unfold iRange at z
  obtain ⟨rs, e1, z⟩ := bind_some z
  refine ⟨N, H0, ρ, L, W, rs, sim, e1, fun vs H1 T s1 n1 d1 p1 => ?_⟩
  split at z
  · rename_i j hd
    split at z
    · rename_i hc
      cases z
      have := p1.ints (ns := [j]) hd
      subst this
      exact ⟨j, rfl, hc.1, hc.2, q _ H1 s1 yld_rng⟩
    · cases z
  · rename_i i j hd
    have h1 := congrArg List.length hd
    rw [List.length_map, hl ρ rs e1] at h1
    cases h1
  · cases z
theorem i_range2 {a b : Expr} {ga : EvA} {p : Pos} (hm : X.mg "range" = none) (ha : PAv X [a, b] ga) (hl : ∀ ρ rs, ga ρ = some rs → rs.length = 2) (hg : Gl X "range" := by rfl) (hs : starEach [a, b] X.env = [(false, eval a X.env), (false, eval b X.env)] := by rfl) (hs2 : starEach [b] X.env = [(false, eval b X.env)] := by rfl) : PIv X tg (.Call (.Name "range" p) [a, b] [] pos) (iRange ga) := by
  refine imp_i (pi_range2 hg hm ha hs hs2) fun σ H R ⟨N, H0, ρ, L, W, items, sim, z, q⟩ => ?_
  unfold iRange at z
  obtain ⟨rs, e1, z⟩ := bind_some z
  have hl := hl ρ rs e1
  refine ⟨N, H0, ρ, L, W, rs, sim, e1, fun vs H1 T s1 n1 d1 p1 => ?_⟩
  split at z
  · rename_i j hd
    have := congrArg List.length hd
    rw [List.length_map, hl] at this
    cases this
  · rename_i i j hd
    split at z
    · rename_i hc
      cases z
      have := p1.ints (ns := [i, j]) hd
      subst this
      exact ⟨i, j, rfl, hc, q _ H1 s1 yld_rng⟩
    · cases z
  · cases z

/-! ### for -/
def forL (t : Tg) (b : EvS) : List (D × Bool) → Env → Option Out
  | [], ρ => some (.nx ρ)
  | (d, al) :: r, ρ => (tgSet t d al ρ).bind fun ρ1 => (b ρ1).bind fun o => match o with
    | .nx ρ2 => forL t b r ρ2
    | .ct ρ2 => forL t b r ρ2
    | .bk ρ2 => some (.nx ρ2)
    | .rt d l => some (.rt d l)
def sFor (fz : List Nat) (it : EvI) (t : Tg) (b : EvS) : EvS := fun ρ => (it (frzs fz ρ)).bind fun items => forL t b items (frzs fz ρ)
theorem s_for (fz : List Nat) (hc : X.calm = true) (hi : PIv X tg e it) (hg : PGv X tg t) (hb : PSsv X body b) (hp : PassesOwn (model X.prog X.w) X.A X.env X.xe := by exact PassesOwn.never) (hs : ∀ x, foldedSetIterable e X.env x = pure x := by intro _; rfl) : PSv X (.For tg e body [] pos) (sFor fz it t b) := by
  refine imp_s (ps_for hp hc hi hg hb hs) fun D σ H ⟨N, H0, ρ, L0, o, sim0, z, q0⟩ => ?_
  unfold sFor at z
  obtain ⟨L, sim, subL⟩ := sim0.frzs fz
  have q := q0.at_ (H1 := H) (L1 := L) ⟨fun _ _ e _ => e, fun _ e => e, fun b z => .inl (subL b z)⟩
  obtain ⟨items, e1, z⟩ := bind_some z
  refine ⟨N, H0, _, L, L, items, sim.h, e1, fun J H1 s1 Y => ?_⟩
  refine ⟨fun i m σ' H' => m = items.length - i ∧ i ≤ items.length ∧ ∃ ρ' L', Sim X.K N H0 ρ' σ' H' L' ∧ Frm H1 L H' L' ∧ forL t b (items.drop i) ρ' = some o ∧ PostS X.K N H0 H' L' o D,
    ⟨items.length, by simp, Nat.zero_le _, _, L, sim.same s1, Frm.refl _ _, by simpa using z, q.at_ (Frm.same s1 fun b z => .inl z)⟩, ?_⟩
  rintro i m σ' H' ⟨rfl, hi, ρ', L', sim', fr, zi, qi⟩
  have kept : Kept H1 L H' := fr.1
  by_cases hlt : i < items.length
  · obtain ⟨⟨d, al⟩, ei⟩ : ∃ x, items[i]? = some x := ⟨items[i], List.getElem?_eq_getElem hlt⟩
    have ed : items.drop i = (d, al) :: items.drop (i + 1) := by
      rw [List.drop_eq_getElem_cons hlt]
      have := List.getElem?_eq_getElem hlt
      rw [ei] at this
      rw [← Option.some.inj this]
    rw [ed] at zi
    unfold forL at zi
    obtain ⟨ρ1, et, zi⟩ := bind_some zi
    obtain ⟨ob, eb, zi⟩ := bind_some zi
    refine .inr ⟨Y.go i d al H' ei kept, fun σ'' H'' => ∃ m', m' < items.length - i ∧ (m' = items.length - (i + 1) ∧ i + 1 ≤ items.length ∧ ∃ ρ' L', Sim X.K N H0 ρ' σ'' H'' L' ∧ Frm H1 L H'' L' ∧ forL t b (items.drop (i + 1)) ρ' = some o ∧ PostS X.K N H0 H'' L' o D), fun _ _ h => h, fun x H3 y => ?_⟩
    obtain ⟨s3, r3⟩ := Y.yld i d al H' x H3 ei kept y
    have fr3 : Frm H' L' H3 L' := Frm.same s3 fun b z => .inl z
    refine ⟨N, H0, ρ', L', L', d, al, ρ1, (sim'.same s3).h, r3.mono fun a z => ⟨z.1.1, fun _ w => (fr.2.2 a w).elim (z.1.2 rfl) z.2⟩, et, fun σ2 L2 sim2 sub2 _ => ?_⟩
    have fr2 : Frm H' L' H3 L2 := Frm.same s3 fun b z => .inl (sub2 b z)
    refine ⟨N, H0, ρ1, L2, ob, sim2.sim, eb, ?_⟩
    have again : ∀ {ρ2 : Env}, forL t b (items.drop (i + 1)) ρ2 = some o → ∀ σ4 H4 L4, Sim X.K N H0 ρ2 σ4 H4 L4 → Frm H3 L2 H4 L4 → ∃ m', m' < items.length - i ∧ (m' = items.length - (i + 1) ∧ i + 1 ≤ items.length ∧ ∃ ρ' L', Sim X.K N H0 ρ' σ4 H4 L' ∧ Frm H1 L H4 L' ∧ forL t b (items.drop (i + 1)) ρ' = some o ∧ PostS X.K N H0 H4 L' o D) :=
      fun z4 σ4 H4 L4 sim4 fr4 => ⟨_, by omega, rfl, hlt, _, L4, sim4, fr.trans (fr2.trans fr4), z4, qi.at_ (fr2.trans fr4)⟩
    cases ob with
    | nx ρ2 => exact again zi
    | ct ρ2 => exact again zi
    | bk ρ2 => cases zi; exact fun σ4 H4 L4 sim4 fr4 => qi σ4 H4 L4 sim4 (fr2.trans fr4)
    | rt d l => cases zi; exact qi
  · have ei : i = items.length := by omega
    subst ei
    rw [List.drop_length] at zi
    unfold forL at zi
    cases zi
    exact .inl ⟨Y.stop H' kept, qi σ' H' L' sim' (Frm.refl _ _)⟩

/-! ### while -/
def whL (c : EvT) (b : EvS) : Nat → Env → Option Out
  | 0, _ => none
  | n + 1, ρ => (c ρ).bind fun k => if k = true then (b ρ).bind fun o => match o with
      | .nx ρ2 => whL c b n ρ2
      | .ct ρ2 => whL c b n ρ2
      | .bk ρ2 => some (.nx ρ2)
      | .rt d l => some (.rt d l)
    else some (.nx ρ)
/-- turns enough -/
def fuel : Nat := 10 ^ 9
def sWhile (c : EvT) (b : EvS) : EvS := whL c b fuel
theorem s_while {c : Expr} {gc : EvT} (ht : PTv X c gc) (hb : PSsv X body b) (hp : PassesOwn (model X.prog X.w) X.A X.env X.xe := by exact PassesOwn.never) : PSv X (.While c body [] pos) (sWhile gc b) := by
  refine imp_s (ps_while hp ht hb) fun D σ H ⟨N, H0, ρ, L, o, sim, z, q⟩ => ?_
  unfold sWhile at z
  refine ⟨fun m σ' H' => ∃ ρ' L', Sim X.K N H0 ρ' σ' H' L' ∧ whL gc b m ρ' = some o ∧ PostS X.K N H0 H' L' o D, ⟨fuel, ρ, L, sim, z, q⟩, ?_⟩
  rintro m σ' H' ⟨ρ', L', sim', zi, qi⟩
  cases m with
  | zero => cases zi
  | succ m =>
    unfold whL at zi
    obtain ⟨k, ek, zi⟩ := bind_some zi
    refine ⟨N, H0, ρ', L', L', k, sim'.h, ek, fun H1 s1 => ?_⟩
    have fr1 : Frm H' L' H1 L' := Frm.same s1 fun b z => .inl z
    cases k with
    | false => cases zi; exact iteF (qi σ' H1 L' (sim'.same s1) fr1)
    | true =>
      rw [if_pos rfl] at zi
      obtain ⟨ob, eb, zi⟩ := bind_some zi
      refine iteT ⟨fun σ'' H'' => ∃ m', m' < m + 1 ∧ ∃ ρ' L', Sim X.K N H0 ρ' σ'' H'' L' ∧ whL gc b m' ρ' = some o ∧ PostS X.K N H0 H'' L' o D, fun _ _ h => h, N, H0, ρ', L', ob, sim'.same s1, eb, ?_⟩
      cases ob with
      | nx ρ2 => exact fun σ4 H4 L4 sim4 fr4 => ⟨m, Nat.lt_succ_self m, ρ2, L4, sim4, zi, qi.at_ (fr1.trans fr4)⟩
      | ct ρ2 => exact fun σ4 H4 L4 sim4 fr4 => ⟨m, Nat.lt_succ_self m, ρ2, L4, sim4, zi, qi.at_ (fr1.trans fr4)⟩
      | bk ρ2 => cases zi; exact fun σ4 H4 L4 sim4 fr4 => qi σ4 H4 L4 sim4 (fr1.trans fr4)
      | rt d l => cases zi; exact qi
end

/-! ### a def's body -/
def entry (m : Nat) (ds : List D) : Env := ds.map (fun d => some ⟨d, .shr, true⟩) ++ List.replicate (m - ds.length) none
def run (body : EvS) (m : Nat) (ds : List D) : Option Ret := (body (entry m ds)).bind fun o => match o with
  | .rt d l => some (d, l)
  | .nx _ => some (.non, .full)
  | _ => none
theorem slots_none {K : PySem.W.Frag} {N : Addr → Prop} {L : List Addr} {H : Hp} : ∀ n : Nat, Slots K N L H (List.replicate n none) (List.replicate n none) []
  | 0 => .nil
  | n + 1 => .no (slots_none n)
theorem slots_args {K : PySem.W.Frag} {N : Addr → Prop} {H : Hp} {n : Nat} : ∀ {vs : List V} {ds : List D}, Rps K (fun _ => True) H .shr vs ds [] → Slots K N [] H (vs.map some ++ List.replicate n none) (ds.map (fun d => some ⟨d, .shr, true⟩) ++ List.replicate n none) []
  | vs, ds, h => by
    generalize hF : ([] : List Addr) = F at h
    cases h with
    | nil => exact slots_none n
    | cons h1 h2 =>
      have e1 := h1.shr0
      have e2 := h2.shr0
      subst e1 e2
      exact Slots.so (s := ⟨_, .shr, true⟩) (F := []) (G := []) (h1.mono fun a _ => ⟨(fun e => nomatch e), (fun _ m => nomatch m)⟩) (slots_args h2)
theorem def_ok {P : Program} {w : World} {K : PySem.W.Frag} {mg : Str → Option Value} {base : Heap} {x qual : Str} {st : Stmt} {f : Addr} {fd : FuncData} {N ps : List Str} {k : Nat} {body : EvS} (F : Fun K x qual st f fd) (S : FnScope N ps (defScope st))
    (hb : ∀ (cdv : Value) (A : Around) (outer : List PySem.Env) (s : Shared) (H : Hp) (E : XK), Room k (A.deeper (envOfC qual (defScope st) s.heap.objs.size f cdv)) → PSsv (cxOf CX0 P w K mg base N qual (defScope st) f cdv A outer s H E).nox (defBody st) body) :
    FnOk P w K mg base CX0 (k + 1) f fd ps (spD K ps.length (run body N.length)) := by
  refine F.ok S (fun vs H Q E h => h.1) (fun cdv A outer s H vs Q E hr h => ?_)
  obtain ⟨hl, ds, r, rp, hrun, q⟩ := h
  refine ⟨_, hb cdv A outer s H E hr, ?_⟩
  unfold run at hrun
  obtain ⟨o, e1, hrun⟩ := bind_some hrun
  refine ⟨fun a => H a = none, H, entry N.length ds, [], o, ⟨fun b o e _ => e, fun b e => e, List.nodup_nil, (fun _ z => nomatch z), (fun _ z => nomatch z), ?_⟩, e1, ?_⟩
  · unfold entry L2.start
    rw [rp.len]
    exact slots_args rp
  · cases o with
    | nx ρ =>
      cases hrun
      exact fun σ' H' L' sim fr => q .non H' [] (fun b o e => fr.1 b o e fun z => nomatch z) (fun _ z => nomatch z) .nil .non
    | rt d l =>
      cases hrun
      exact fun v H' F kp n nd rp => q v H' F (fun b o e => kp b o e (fun z => by have z : H b = none := z; rw [e] at z; cases z)) n nd rp
    | bk ρ => cases hrun
    | ct ρ => cases hrun
end Ev

set_option Elab.async false
set_option linter.all false
set_option maxRecDepth 100000
/-! Comprehensions. -/
namespace Ev
open PySem PySem.Spec L2
open PyProof.Rows hiding St

def lcL (t : Tg) (c : EvT) (e : EvE) (ρ : Env) : List (D × Bool) → Option (List Rv)
  | [] => some []
  | (d, al) :: r => (tgSet t d al ρ).bind fun ρ1 => (c ρ1).bind fun k => if k = true then (e ρ1).bind fun x => if x.vw = true then none else (lcL t c e ρ r).map (x :: ·) else lcL t c e ρ r
def mkBig (rs : List Rv) : Option Rv :=
  if rs.length ≤ 1000000 then some (if rs.all (fun r => !r.vw && decide (r.l = .full)) = true then ⟨.lst (rs.map (·.d)), .full, rs.any (·.al), false⟩ else ⟨.lst (rs.map (·.d)), .top, rs.any (·.al), false⟩) else none
def eLc (it : EvI) (vs : List Nat) (t : Tg) (c : EvT) (e : EvE) : EvE := fun ρ => (it ρ).bind fun items => (lcL t c e (wipeE vs ρ) items).bind mkBig
def tYes : EvT := fun _ => some true
section
variable {K : PySem.W.Frag} {N : Addr → Prop} {H0 H H' : Hp} {ρ : Env} {σ : St} {L W T : List Addr}
theorem SimH.wipe : ∀ (vs : List Nat), SimH K N H0 ρ σ H L W → ∃ L', SimH K N H0 (wipeE vs ρ) (L2.wipe σ vs) H L' W ∧ ∀ a ∈ L', a ∈ L
  | [], s => ⟨L, s, fun _ z => z⟩
  | i :: is, s => by
    obtain ⟨L1, s1, h1⟩ := SimH.wipe is s
    obtain ⟨L2, s2, h2⟩ := s1.drop1 i
    exact ⟨L2, s2, fun a z => h1 a (h2 a z)⟩
/-- an object that no slot holds is changed -/
theorem SimH.put {a : Addr} {o : HO} (s : SimH K N H0 ρ σ H L W) (ha : a ∈ W) (hl : a ∉ L) (m : Mut (some o)) : SimH K N H0 ρ σ (upd H a o) L W where
  kp := fun b u e n => by rw [upd_ne (fun z => n (by rw [z]; exact s.ln a ha))]; exact s.kp b u e n
  nw := fun b e => by
    by_cases z : b = a
    · rw [z]; exact s.ln a ha
    · rw [upd_ne z] at e; exact s.nw b e
  nd := s.nd
  ln := s.ln
  mu := fun b hb => by
    by_cases z : b = a
    · rw [z, upd_same]; exact m
    · rw [upd_ne z]; exact s.mu b hb
  sl := s.sl.keep fun al => fun b u e q => by
    have : b ≠ a := fun z => by
      subst z
      rcases q with q | q | ⟨xs, rfl⟩ | ⟨o', u', rfl⟩
      · exact q.2 rfl ha
      · exact hl q
      · have := s.mu b ha; rw [e] at this; exact this
      · have := s.mu b ha; rw [e] at this; exact this
    rw [upd_ne this]
    exact e
  sub := s.sub
  ndl := s.ndl
theorem RpL.same (s : Same H H') : ∀ {vs : List V} {rs : List Rv} {F : List Addr}, RpL K N W T H vs rs F → RpL K N W T H' vs rs F
  | _, _, _, .nil => .nil
  | _, _, _, .cons h1 h2 => .cons (h1.same s) (RpL.same s h2)
theorem RpL.grow {W' T' : List Addr} (h : ∀ a, H a ≠ none → (a ∉ W → a ∉ W') ∧ (a ∉ T → a ∉ T')) : ∀ {vs : List V} {rs : List Rv} {F : List Addr}, RpL K N W T H vs rs F → RpL K N W' T' H vs rs F
  | _, _, _, .nil => .nil
  | _, _, _, .cons h1 h2 => .cons (h1.trk.mono fun a z => ⟨⟨z.1.1.1, fun e => (h a z.2).1 (z.1.1.2 e)⟩, fun e => (h a z.2).2 (z.1.2 e)⟩) (RpL.grow h h2)
theorem RpL.snoc {r : Rv} {v : V} {G : List Addr} (p : Rp K (fun a => SR N W r.al r.vw a ∧ (r.vw = false → a ∉ T)) H r.l v r.d G) : ∀ {vs : List V} {rs : List Rv} {F : List Addr}, RpL K N W T H vs rs F → RpL K N W T H (vs ++ [v]) (rs ++ [r]) (F ++ G)
  | _, _, _, .nil => by have := RpL.cons p .nil; rw [List.append_nil] at this; exact this
  | _, _, _, .cons h1 h2 => by rw [List.append_assoc]; exact .cons h1 (RpL.snoc p h2)
theorem RpL.put {a : Addr} {o : HO} (ha : a ∈ W) (m : Mut (H a)) : ∀ {vs : List V} {rs : List Rv} {F : List Addr}, RpL K N W T H vs rs F → (∀ r ∈ rs, r.vw = false) → a ∉ F → RpL K N W T (upd H a o) vs rs F
  | _, _, _, .nil, _, _ => .nil
  | _, _, _, .cons h1 h2, hv, hF => .cons (h1.keep fun b u e q => by
      have : b ≠ a := fun z => by
        subst z
        rcases q with q | q | ⟨xs, rfl⟩ | ⟨o', u', rfl⟩
        · exact q.1.2 (hv _ List.mem_cons_self) ha
        · exact hF (List.mem_append_left _ q)
        · rw [e] at m; exact m
        · rw [e] at m; exact m
      rw [upd_ne this]
      exact e) (RpL.put ha m h2 (fun r z => hv r (List.mem_cons_of_mem _ z)) fun z => hF (List.mem_append_right _ z))
end
theorem wipe_get {σ : St} : ∀ {vs : List Nat} {j : Nat}, j ∈ vs → j < σ.length → (L2.wipe σ vs)[j]? = some none
  | v :: vs, j, h, hl => by
    unfold L2.wipe
    by_cases e : v = j
    · subst e
      rw [List.getElem?_set_self (by rw [wipe_length]; exact hl)]
    · rw [List.getElem?_set_ne e]
      exact wipe_get ((List.mem_cons.mp h).elim (fun z => absurd z.symm e) id) hl
theorem wipe_eq {σ σ' : St} {vs js : List Nat} (t : Touch js (L2.wipe σ vs) σ') (h : ∀ j ∈ js, j ∈ vs) : L2.wipe σ' vs = L2.wipe σ vs := by
  apply List.ext_getElem?
  intro j
  have hlen : σ'.length = σ.length := t.1.trans (wipe_length σ vs)
  by_cases hj : j ∈ vs
  · by_cases hl : j < σ.length
    · rw [wipe_get hj hl, wipe_get hj (by rw [hlen]; exact hl)]
    · rw [List.getElem?_eq_none (by rw [wipe_length, hlen]; omega), List.getElem?_eq_none (by rw [wipe_length]; omega)]
  · rw [wipe_out hj, t.2 j (fun z => hj (h j z))]
section
variable {X : Cx}
theorem imp_ts {X : Cx} {e : List Expr} {t t' : TT} (h : PTs X e t) (i : ∀ σ H Q, t' σ H Q → t σ H Q) : PTs X e t' := ⟨fun p s σ H Q I w => h.run p s σ H Q I (i σ H Q w)⟩
abbrev PTsv (X : Cx) (ifs : List Expr) (c : EvT) : Prop := PTs X ifs (tT X.K c)
theorem ts_nil : PTsv X [] tYes := imp_ts pts_nil fun σ H Q ⟨N, H0, ρ, L, W, k, sim, z, q⟩ => by cases z; exact q H (Same.refl H)
theorem ts_one {c : Expr} {gc : EvT} (h : PTv X c gc) : PTsv X [c] gc := pts_one h
theorem lc_read {it : EvI} {vs : List Nat} {t : Tg} {c : EvT} {e : EvE} (hv : (tgSlots t).all (fun j => decide (j ∈ vs)) = true) {σ : St} {H : Hp} {Q : VK} (h : tE X.K (eLc it vs t c e) σ H Q) : tLc (tI X.K it) (tG X.K t) (tT X.K c) (tE X.K e) vs σ H Q := by
  have hv : ∀ j ∈ tgSlots t, j ∈ vs := fun j z => of_decide_eq_true (List.all_eq_true.mp hv j z)
  obtain ⟨N, H0, ρ, L, W, r, sim, z, q⟩ := h
  unfold eLc at z
  obtain ⟨items, e1, z⟩ := bind_some z
  obtain ⟨rs, e2, z⟩ := bind_some z
  unfold mkBig at z
  split at z
  · rename_i hlen
    refine ⟨N, H0, ρ, L, W, items, sim, e1, fun J H1 s1 Y => fun A nA => ?_⟩
    obtain ⟨Lw, simw, subw⟩ := (sim.same s1).wipe vs
    have nAW : A ∉ W := fun w => sim.th A w (s1.free nA)
    refine ⟨fun i m Hc => m = items.length - i ∧ i ≤ items.length ∧ ∃ (r1 r2 : List Rv) (acc : List V) (T : List Addr), Hc A = some (.lst acc) ∧ RpL X.K N (W ++ [A]) T Hc acc r1 T ∧ SimH X.K N H0 (wipeE vs ρ) (L2.wipe σ vs) Hc Lw ((W ++ [A]) ++ T) ∧
      lcL t c e (wipeE vs ρ) (items.drop i) = some r2 ∧ rs = r1 ++ r2 ∧ (∀ r ∈ r1, r.vw = false) ∧ Same H1 Hc ∧ (∀ a ∈ T, H1 a = none), ⟨items.length, by simp, Nat.zero_le _, [], rs, [], [], upd_same, .nil, ?_, by simpa using e2, rfl, (fun _ z => nomatch z), same_upd nA, fun _ z => nomatch z⟩, ?_⟩
    · rw [List.append_nil]
      exact simw.hold (same_upd nA) (fun a z => (List.mem_singleton.mp z) ▸ nA) nodup1 fun a z => by rw [List.mem_singleton.mp z, upd_same]; trivial
    · rintro i m Hc ⟨rfl, hi, r1, r2, acc, T, hA, rl, simc, el, er, hvw, sc, nT⟩
      have kept : Kept H1 W Hc := fun b o e _ => sc b o e
      by_cases hlt : i < items.length
      · obtain ⟨⟨d, al⟩, ei⟩ : ∃ x, items[i]? = some x := ⟨items[i], List.getElem?_eq_getElem hlt⟩
        have ed : items.drop i = (d, al) :: items.drop (i + 1) := by
          rw [List.drop_eq_getElem_cons hlt]
          have := List.getElem?_eq_getElem hlt
          rw [ei] at this
          rw [← Option.some.inj this]
        rw [ed] at el
        unfold lcL at el
        obtain ⟨ρ1, et, el⟩ := bind_some el
        obtain ⟨k, ek, el⟩ := bind_some el
        refine .inr ⟨Y.go i d al Hc ei kept, fun Hn => ∃ m', m' < items.length - i ∧ (m' = items.length - (i + 1) ∧ i + 1 ≤ items.length ∧ ∃ (r1 r2 : List Rv) (acc : List V) (T : List Addr), Hn A = some (.lst acc) ∧ RpL X.K N (W ++ [A]) T Hn acc r1 T ∧ SimH X.K N H0 (wipeE vs ρ) (L2.wipe σ vs) Hn Lw ((W ++ [A]) ++ T) ∧
          lcL t c e (wipeE vs ρ) (items.drop (i + 1)) = some r2 ∧ rs = r1 ++ r2 ∧ (∀ r ∈ r1, r.vw = false) ∧ Same H1 Hn ∧ (∀ a ∈ T, H1 a = none)), fun _ h => h, fun x H3 y => ?_⟩
        obtain ⟨s3, r3⟩ := Y.yld i d al Hc x H3 ei kept y
        have r4 : Rp X.K (SR N ((W ++ [A]) ++ T) al false) H3 .shr x d [] := by
          refine r3.mono fun a z => ⟨z.1.1, fun _ w => ?_⟩
          rcases List.mem_append.mp w with w | w
          · rcases List.mem_append.mp w with w | w
            · exact z.1.2 rfl w
            · exact z.2 (List.mem_singleton.mp w ▸ nA)
          · exact z.2 (nT a w)
        refine ⟨N, H0, wipeE vs ρ, Lw, (W ++ [A]) ++ T, d, al, ρ1, simc.same s3, r4, et, fun σ2 L2 sim2 sub2 tch => ?_⟩
        refine ⟨wipe_eq tch hv, N, H0, ρ1, L2, _, k, sim2, ek, fun H4 s4 => ?_⟩
        have s34 := s3.trans s4
        cases k with
        | false =>
          refine iteF ⟨_, by omega, rfl, hlt, r1, r2, acc, T, s34 A _ hA, rl.same s34, simc.same s34, by simpa using el, er, hvw, sc.trans s34, nT⟩
        | true =>
          rw [if_pos rfl] at el
          obtain ⟨x', ee, el⟩ := bind_some el
          split at el
          · cases el
          · rename_i hx
            have hx : x'.vw = false := by simpa using hx
            obtain ⟨r2', el2, e2'⟩ := Option.map_eq_some_iff.mp el
            subst e2'
            refine iteT ⟨N, H0, ρ1, L2, _, x', sim2.same s4, ee, fun v H5 F s5 n5 d5 p5 => ?_⟩
            have s35 := s34.trans s5
            have hA5 := s35 A _ hA
            have nF : ∀ a ∈ F, Hc a = none := fun a z => s34.free (n5 a z)
            have AF : A ∉ F := fun z => by have := nF A z; rw [hA] at this; cases this
            refine ⟨acc, hA5, ?_, _, by omega, rfl, hlt, r1 ++ [x'], r2', acc ++ [v], T ++ F, upd_same, ?_, ?_, el2, by rw [er, List.append_assoc]; rfl, fun r z => (List.mem_append.mp z).elim (hvw r) fun z => List.mem_singleton.mp z ▸ hx, fun b o e => ?_, fun a z => (List.mem_append.mp z).elim (nT a) fun z => sc.free (nF a z)⟩
            · have h1 := rl.len
              have h2 : r1.length ≤ rs.length := by rw [er, List.length_append]; omega
              have := sizeLine_eq
              omega
            · refine RpL.put (by simp) (by rw [hA5]; trivial) (RpL.snoc ?_ ((rl.grow (fun a t => ⟨id, fun z w => (List.mem_append.mp w).elim z fun w => t (nF a w)⟩)).same s35)) (fun r z => (List.mem_append.mp z).elim (hvw r) fun z => List.mem_singleton.mp z ▸ hx) fun z => (List.mem_append.mp z).elim (fun z => by have := nT A z; have := sc.free (H' := Hc) (l := A); exact absurd (rl.own_trk A z) (fun t => by
                  have hnd := simc.nd
                  rw [List.nodup_append] at hnd
                  exact hnd.2.2 A (by simp) A z rfl)) AF
              exact p5.mono fun a z => ⟨⟨z.1.1, fun e w => z.1.2 e (List.mem_append_left _ w)⟩, fun e w => (List.mem_append.mp w).elim (fun w => z.1.2 e (List.mem_append_right _ w)) z.2⟩
            · have := (simc.hold s35 nF d5 p5.own_mut)
              rw [List.append_assoc] at this
              exact this.put (by simp) (fun z => nAW (sim.sub A (subw A z))) trivial
            · have hb : b ≠ A := fun z => by rw [z, nA] at e; cases e
              rw [upd_ne hb]
              exact s35 b o (sc b o e)
      · have ei : i = items.length := by omega
        subst ei
        rw [List.drop_length] at el
        unfold lcL at el
        cases el
        rw [List.append_nil] at er
        subst er
        refine .inl ⟨Y.stop Hc kept, ?_⟩
        have hnd := simc.nd
        rw [List.nodup_append] at hnd
        have AT : A ∉ T := fun z => hnd.2.2 A (by simp) A z rfl
        have newT : ∀ a ∈ T, H a = none := fun a z => s1.free (nT a z)
        split at z
        · rename_i hf
          cases z
          refine q _ Hc (A :: T) (s1.trans sc) (fun a z => (List.mem_cons.mp z).elim (fun e => e ▸ s1.free nA) (newT a)) (List.nodup_cons.mpr ⟨AT, hnd.2.1⟩) (.nd1 (fun z => nomatch z) .lst hA ?_)
          exact (rl.full hf al_any).mono fun a z => ⟨⟨z.1.1, fun e w => z.1.2 e (List.mem_append_left _ w)⟩, fun w => (List.mem_cons.mp w).elim (fun e => z.1.2 rfl (by rw [e]; simp)) z.2⟩
        · cases z
          refine q _ Hc [A] (s1.trans sc) (fun a z => List.mem_singleton.mp z ▸ s1.free nA) nodup1 (.nd1 (fun z => nomatch z) .lst hA ?_)
          exact (rl.give (fun a z => ⟨sim.nw a (newT a z), fun w => hnd.2.2 a w a z rfl⟩) (fun _ z => z) (List.all_eq_true.mpr fun r z => by rw [hvw r z]; rfl) al_any).mono fun a z => ⟨⟨z.1, fun e w => z.2 e (List.mem_append_left _ w)⟩, fun w => z.2 rfl (List.mem_append_right _ w)⟩
  · cases z
variable {elt tg iter : Expr} {ifs : List Expr} {scope : Scope} {own : List (Str × Nat)} {pos pos' spos py : Pos} {it : EvI} {t : Tg} {c : EvT} {fe : EvE}
theorem e_lc (own : List (Str × Nat)) (hc : X.calm = true) (hN : X.N.Nodup) (hi : PIv X tg iter it) (ok : BlkOk X.N X.env.scope scope own)
    (hg : ∀ (s : Shared) (H : Hp) (C : Addr) (cl : List (Str × Addr)) (fp : List Addr), PGv (X.blk s H scope (compEnvC scope cl C X.env) fp) tg t) (ht : ∀ (s : Shared) (H : Hp) (C : Addr) (cl : List (Str × Addr)) (fp : List Addr), PTsv (X.blk s H scope (compEnvC scope cl C X.env) fp) ifs c)
    (he : ∀ (s : Shared) (H : Hp) (C : Addr) (cl : List (Str × Addr)) (fp : List Addr), PEv (X.blk s H scope (compEnvC scope cl C X.env) fp) elt fe) (hv : (tgSlots t).all (fun j => decide (j ∈ own.map (·.2))) = true := by rfl) (hs : ∀ x, foldedSetIterable iter X.env x = pure x := by intro _; rfl) :
    PEv X (.ListComp elt [⟨tg, iter, ifs, 0⟩] scope pos) (eLc it (own.map (·.2)) t c fe) :=
  imp_e (pe_lc hc hN hi ok hg ht he hs) fun σ H Q h => lc_read hv h
/-- x = [..] -/
theorem s_setLc (i : Nat) (own : List (Str × Nat)) {y : Str} (hc : X.calm = true) (hN : X.N.Nodup) (hi : PIv X tg iter it) (ok : BlkOk X.N X.env.scope scope own)
    (hg : ∀ (s : Shared) (H : Hp) (C : Addr) (cl : List (Str × Addr)) (fp : List Addr), PGv (X.blk s H scope (compEnvC scope cl C X.env) fp) tg t) (ht : ∀ (s : Shared) (H : Hp) (C : Addr) (cl : List (Str × Addr)) (fp : List Addr), PTsv (X.blk s H scope (compEnvC scope cl C X.env) fp) ifs c)
    (he : ∀ (s : Shared) (H : Hp) (C : Addr) (cl : List (Str × Addr)) (fp : List Addr), PEv (X.blk s H scope (compEnvC scope cl C X.env) fp) elt fe)
    (hsw : swapsWith (.ListComp elt [⟨tg, iter, ifs, 0⟩] scope pos) (some (.Name y py)) spos.line X.env = pure true) (hy : X.N[i]? = some y := by rfl) (hyl : X.env.scope.names.lookup y = some .local := by rfl)
    (hv : (tgSlots t).all (fun j => decide (j ∈ own.map (·.2))) = true := by rfl) (hs : ∀ x, foldedSetIterable iter X.env x = pure x := by intro _; rfl) :
    PSv X (.Assign [.Name y py] (.ListComp elt [⟨tg, iter, ifs, 0⟩] scope pos) spos) (sSet [] i (eLc it (own.map (·.2)) t c fe)) := by
  refine imp_s (ps_setLc (wi := tI X.K it) (g := tG X.K t) (tt := tT X.K c) (te := tE X.K fe) hc hN hy hyl hsw hi ok hg ht he hs) fun D σ H ⟨N, H0, ρ, L, o, sim, z, q⟩ => ?_
  unfold sSet at z
  obtain ⟨r, e1, z⟩ := bind_some z
  split at z
  · rename_i hc
    rw [Bool.and_eq_true, decide_eq_true_eq] at hc
    cases z
    refine lc_read (X := X) hv ?_
    refine one sim.h e1 fun v H1 F s1 n1 d1 p1 => ?_
    have hv : r.vw = false := by simpa using hc.1
    obtain ⟨L2, sim2, sub2⟩ := sim.set (r := ⟨r.d, r.l, r.al⟩) s1 n1 d1 (p1.mono fun a z => ⟨⟨z.1.1, fun _ => z.1.2 hv⟩, z.2⟩) hc.2
    exact q _ H1 L2 sim2 (Frm.same s1 fun b z => (sub2 b z).imp id (n1 b))
  · cases z
end
end Ev

set_option Elab.async false
set_option linter.all false
set_option maxRecDepth 100000
set_option maxHeartbeats 4000000
/-! sorted of tuples of ints of one length, any number of them. -/
namespace EvS
open PySem PySem.Spec L2
open PyProof.Rows hiding St
open SrtO (Srtd Stb Swo)

theorem lt_irr : ∀ ns : List Int, HT.lexLt ns ns = false
  | [] => rfl
  | n :: ns => by rw [HT.lexLt_cons, if_pos rfl]; exact lt_irr ns
theorem lt_asym : ∀ (a b : List Int), HT.lexLt a b = true → HT.lexLt b a = false
  | [], [], h => by cases h
  | [], _ :: _, _ => rfl
  | _ :: _, [], h => by cases h
  | x :: a, y :: b, h => by
    rw [HT.lexLt_cons] at h ⊢
    by_cases e : x = y
    · rw [if_pos e] at h
      rw [if_pos e.symm]
      exact lt_asym a b h
    · rw [if_neg e] at h
      rw [if_neg (fun z => e z.symm)]
      have := of_decide_eq_true h
      exact decide_eq_false (by omega)
theorem lt_neg_trans : ∀ (a b c : List Int), HT.lexLt a b = false → HT.lexLt b c = false → HT.lexLt a c = false
  | [], [], _, _, h => h
  | [], _ :: _, _, h, _ => by cases h
  | _ :: _, [], [], _, _ => rfl
  | _ :: _, [], _ :: _, _, h => by cases h
  | _ :: _, _ :: _, [], _, _ => rfl
  | x :: a, y :: b, z :: c, h1, h2 => by
    rw [HT.lexLt_cons] at h1 h2 ⊢
    by_cases e : x = y
    · rw [if_pos e] at h1
      by_cases e2 : y = z
      · rw [if_pos e2] at h2
        rw [if_pos (e.trans e2)]
        exact lt_neg_trans a b c h1 h2
      · rw [if_neg e2] at h2
        rw [if_neg (by rw [e]; exact e2), e]
        exact h2
    · rw [if_neg e] at h1
      have g1 := of_decide_eq_false h1
      by_cases e2 : y = z
      · rw [← e2, if_neg e]
        exact h1
      · rw [if_neg e2] at h2
        have g2 := of_decide_eq_false h2
        rw [if_neg (by omega)]
        exact decide_eq_false (by omega)
theorem swo_lex {α : Type} (k : α → List Int) : Swo fun v u => HT.lexLt (k v) (k u) :=
  ⟨fun x y h => lt_asym _ _ h, fun x y z h1 h2 => lt_neg_trans _ _ _ h2 h1⟩
section
variable {prog : Program} {w : World} {A : Around} {E : Value → Shared → Prop} {s : Shared} {Q : Bool → Shared → Prop}
theorem oneLt_i (c : Bool) {p q : Int} {t u : Tok} (h : Q (decide (p < q)) s) : wpAny (model prog w) A (oneLt' c (.int p t) (.int q u)) Q E s := by
  cases c with
  | true => exact oneLt_int h
  | false => exact PySem.W.kat_one _ _ (PyProof.Rows.lt_int (Q := PySem.W.BoolBack Q) h)
theorem lexL_ints {b : Bool} {xs ys : List Value} {ns ms : List Int} (i : Nat) (hx : IntsAre xs ns) (hy : IntsAre ys ms) (hl : ns.length = ms.length)
    (h : Q (HT.lexLt ns ms) s) : PySem.W.KatLex prog w A b false Q (xs.zip ys) i s := by
  induction hx generalizing ys ms i with
  | nil =>
    cases hy with
    | nil => exact PySem.W.kat_nil h
    | cons q u hy => simp at hl
  | @cons p t xs ns hx ih =>
    cases hy with
    | nil => simp at hl
    | @cons q u ys ms hy =>
      have hl' : ns.length = ms.length := by simpa using hl
      show PySem.W.KatLex prog w A b false Q ((Value.int p t, Value.int q u) :: xs.zip ys) i s
      refine PySem.W.kat_cons (wpAny_eqBool_int ?_)
      rw [HT.lexLt_cons] at h
      by_cases e : p = q
      · subst e
        rw [if_pos rfl] at h
        rw [beq_self_eq_true]
        refine PySem.W.kat_yes ?_
        first
          | exact ih (i + 1) hy hl' h
          | exact ih _ _ (i + 1) hy hl' h
      · rw [if_neg e] at h
        rw [show (p == q) = false from beq_eq_false_iff_ne.mpr e]
        exact PySem.W.kat_no (oneLt_i _ h)
/-- tuples of d ints, as k tells them -/
def Tups (h : Heap) (d : Nat) (vs : List Value) (k : Value → List Int) : Prop := ∀ v ∈ vs, TS.TupInts h v (k v) ∧ (k v).length = d
theorem Tups.keeps {h h' : Heap} {d : Nat} {vs : List Value} {k : Value → List Int} (x : Tups h d vs k) (kp : ∀ b o, h.get? b = some o → o.cls = .type "tuple" → h'.get? b = some o) : Tups h' d vs k := fun v hv =>
  ⟨(x v hv).1.keeps kp, (x v hv).2⟩
theorem firsts {h : Heap} {d : Nat} {k : Value → List Int} (hd : 1 ≤ d) : ∀ vs : List Value, Tups h d vs k → ∃ fs, PySem.W.KatTups h vs fs ∧ fs.length = vs.length ∧ ∀ f, f ∈ fs → ∃ n t, f = Value.int n t
  | [], _ => ⟨[], PySem.W.KatTups.nil, rfl, fun f hf => by simp at hf⟩
  | v :: vs, x => by
    obtain ⟨fs, kt, hl, hi⟩ := firsts hd vs fun u hu => x u (List.mem_cons_of_mem _ hu)
    obtain ⟨⟨a, xs, e1, ⟨o, ho, hc, n, hdt⟩, i⟩, hn⟩ := x v (List.mem_cons_self ..)
    subst e1
    obtain ⟨y, ys, e⟩ : ∃ y ys, xs.toList = y :: ys := by
      cases q : xs.toList with
      | nil =>
        rw [q] at i
        have l := i.length
        rw [List.length_nil, hn] at l
        omega
      | cons y ys => exact ⟨y, ys, rfl⟩
    obtain ⟨m, t, hy⟩ := i.all y (by rw [e]; exact List.mem_cons_self ..)
    refine ⟨y :: fs, PySem.W.KatTups.cons ho hc hdt ?_ kt, by simp [hl], ?_⟩
    · have z := congrArg (fun l : List Value => l[0]?) e
      simpa using z
    · intro f hf
      rcases List.mem_cons.mp hf with rfl | hf
      · exact ⟨m, t, hy⟩
      · exact hi f hf
theorem tup_cmp {d : Nat} {vs : List Value} {k : Value → List Int} (hp : Tups s.heap d vs k) : SrtO.Cmp prog w A s (tuples' true) (fun p => p.1 ∈ vs) (SrtO.lt2 fun v u => HT.lexLt (k v) (k u)) := by
  intro p q hm hm'
  obtain ⟨⟨a, xs, e1, ⟨o, ho, hc, n, hdt⟩, i⟩, l1⟩ := hp _ hm
  obtain ⟨⟨a', ys, e2, ⟨o', ho', hc', n', hdt'⟩, i'⟩, l2⟩ := hp _ hm'
  show wpAny (model prog w) A (keyLt' (tuples' true) p.1 q.1) (fun r s' => s' = s ∧ r = HT.lexLt (k p.1) (k q.1)) (fun _ _ => False) s
  rw [e1] at i l1 ⊢
  rw [e2] at i' l2 ⊢
  refine PySem.W.kat_lt ho hdt ho' hdt' ?_
  have ez : decide (xs.size < ys.size) = false := by
    have z1 := i.length
    have z2 := i'.length
    rw [Array.length_toList] at z1 z2
    exact decide_eq_false (by omega)
  rw [ez]
  exact lexL_ints 0 i i' (by omega) ⟨rfl, rfl⟩
theorem tups_sortableO {d : Nat} (hd : 1 ≤ d) {a : Addr} {vs : List Value} {k : Value → List Int} (h0 : 0 < vs.length) (hp : Tups s.heap d vs k) (ha : ∀ o, s.heap.get? a = some o → o.cls ≠ .type "tuple") : SrtO.SortableO prog w A s a vs fun v u => HT.lexLt (k v) (k u) := by
  intro h' keep
  have hp' : Tups h' d vs k := hp.keeps fun b o e c => keep b o (fun z => by subst z; exact ha o e c) e
  obtain ⟨fs, h1, h2, h3⟩ := firsts hd vs hp'
  refine ⟨tuples' true, fun Q E hq => ?_, tup_cmp (s := { s with heap := h' }) hp'⟩
  refine PySem.W.kat_kind (T := .type "int") h1 (by omega) (fun f hm => ?_) (by rfl) ?_
  · obtain ⟨x, t, rfl⟩ := h3 f hm
    exact PySem.W.Looks.now
  · have e : (Value.type "int" != Value.type "tuple") = true := by first | decide +kernel | rfl | decide
    rw [e]
    exact hq
theorem sorted_tupsO {d : Nat} (hd : 1 ≤ d) {l : Addr} {vs : List Value} {k : Value → List Int} {Q : Value → Shared → Prop} (hl : s.heap.IsList l vs.toArray) (hz : vs.length ≤ sizeLine) (hp : Tups s.heap d vs k)
    (h : ∀ (h' : Heap) (d : Addr) (out : List Value), Srtd (fun v u => HT.lexLt (k v) (k u)) out → Stb (fun v u => HT.lexLt (k v) (k u)) out vs → (∀ b o, s.heap.get? b = some o → h'.get? b = some o) → s.heap.objs.size ≤ d → (∃ n, h'.get? d = some (seqObj "list" out.toArray n)) → Q (.ref d) { s with heap := h' }) :
    wpAny (model prog w) A (call (.builtin "sorted") [.ref l]) Q E s := by
  refine SrtO.sorted_ord (swo_lex k) hl hz (fun h2 h₁ a ha kk => ?_) fun out hs hb => ?_
  · refine tups_sortableO (s := { s with heap := h₁ }) hd (by omega) (hp.keeps fun b o e _ => (kk b o e).2) fun o e => ?_
    have e' : some o = some (seqObj "list" vs.toArray 0) := e.symm.trans ha
    cases e'
    intro c
    exact absurd (Value.type.inj c) (by decide)
  · exact h _ _ out hs hb (fun b o e => PyProof.Rows.sortedAll_old e) (Nat.le_succ _) (PyProof.Rows.sortedAll_at s.heap vs out.toArray)
end
/-- as a rule of the layer -/
def rSortedL (K : PySem.W.Frag) : List V → Hp → VK → Prop := fun vs H Q => ∃ (a : Addr) (xs : List V) (k : V → List Int) (d : Nat), 1 ≤ d ∧ vs = [V.ref a] ∧ SqL K H a xs ∧ (∀ x ∈ xs, ∃ t, x = V.ref t ∧ H t = some (.tup ((k x).map V.int)) ∧ (k x).length = d) ∧
  ∀ ys p, Srtd (fun x y => HT.lexLt (k x) (k y)) ys → Stb (fun x y => HT.lexLt (k x) (k y)) ys xs → H p = none → Q (.ref p) (upd H p (.lst ys))
theorem cr_sortedL {X : Cx} : CallR X (.builtin "sorted") (rSortedL X.K) := by
  intro pins s σ H vs us Q I r h
  obtain ⟨a, xs, k, d, hd, rfl, hs, hx, q⟩ := h
  obtain ⟨its, rv, hl, hz⟩ := I.list hs
  obtain ⟨u, rfl, ru⟩ := vals1 r
  obtain rfl : u = Value.ref a := ru
  obtain ⟨e1, e2⟩ := refs_back rv fun x m => by
    obtain ⟨t, e, _⟩ := hx x m
    exact ⟨t, e⟩
  refine sorted_tupsO (k := fun u => k (backV u)) hd hl.isList (by rw [← rv.length]; exact hz) (fun v hv => ?_) fun h' d out h1 h2 kp hd hn => ?_
  · obtain ⟨t, rfl⟩ := e2 v hv
    have hm : V.ref t ∈ xs := by rw [e1]; exact List.mem_map.mpr ⟨_, hv, rfl⟩
    obtain ⟨t', e, ht, hlen⟩ := hx _ hm
    cases e
    obtain ⟨_, its2, r2, o, ho, hc, n, hdt⟩ := I.hok _ _ ht
    exact ⟨⟨t, its2.toArray, rfl, ⟨o, ho, hc, n, hdt⟩, Vals.ints r2⟩, hlen⟩
  · have h3 : ∀ u ∈ out, ∃ a, u = Value.ref a := fun u hu => e2 u (h2.perm.mem_iff.mp hu)
    obtain ⟨n, hn⟩ := hn
    have hb : Stb (fun x y => HT.lexLt (k x) (k y)) (out.map backV) xs := by
      rw [e1]
      exact SrtO.Stb.map (swo_lex k) backV h2
    refine ⟨.ref d, upd H d (.lst (out.map backV)), I.laid (t' := s.toks) kp hd ⟨?_, out, n, vals_back h3, hn⟩, rfl, q _ d (SrtO.srtd_map h1) hb (I.hok.fresh hd)⟩
    rw [hb.len]
    exact hz
end EvS

set_option Elab.async false
set_option linter.all false
set_option maxRecDepth 100000
/-! Builtins by values. -/
namespace Ev
open PySem PySem.Spec L2
open PyProof.Rows hiding St

/-- a list whose items can't be changed is ours wholly -/
def whole : D → Bool
  | .lst ds => immAll ds
  | _ => false
def res (al vw : Bool) (z : Ret) : Rv := if imm z.1 = true then rA z.1 else if (whole z.1 && decide (z.2 = .top)) = true then ⟨z.1, .full, false, false⟩ else ⟨z.1, z.2, al, vw⟩
section
variable {K : PySem.W.Frag} {S : Addr → Prop} {N : Addr → Prop} {W : List Addr} {H H1 : Hp} {F : List Addr} {v : V} {Q : VK}
theorem Rp.whole {d : D} (r : Rp K S H .top v d F) (h : whole d = true) : ∀ S', Rp K S' H .full v d F := fun S' => by
  cases r with
  | nd1 h0 hn h1 h2 =>
    cases hn with
    | lst =>
      have e := h2.shr0
      subst e
      exact .nd1 (fun z => nomatch z) .lst h1 (h2.of_imm (by simpa only [Ev.whole] using h)).2
    | _ => cases h
  | fl => cases h
  | _ => cases h
theorem Post.res {z : Ret} {al vw : Bool} (q : Post K N W H (res al vw z) Q) (s : Same H H1) (new : ∀ a ∈ F, H a = none) (nd : F.Nodup) (hS : ∀ a, S a → SR N W al vw a) (rp : Rp K (fun a => S a ∧ a ∉ F) H1 z.2 v z.1 F) : Q v H1 := by
  unfold Ev.res at q
  split at q
  · rename_i hi
    exact q.atom s fun S => (rp.of_imm hi).2
  · split at q
    · rename_i hw
      rw [Bool.and_eq_true, decide_eq_true_eq] at hw
      rw [hw.2] at rp
      exact q v H1 F s new nd (rp.whole hw.1 _)
    · exact q v H1 F s new nd (rp.mono fun a z => ⟨hS a z.1, z.2⟩)
theorem RpL.give' {T : List Addr} {al vw : Bool} (hT : ∀ a ∈ T, N a ∧ a ∉ W) : ∀ {vs : List V} {rs : List Rv} {F : List Addr}, RpL K N W T H vs rs F → (∀ a ∈ F, a ∈ T) → (∀ r ∈ rs, r.al = true → al = true) → (∀ r ∈ rs, r.vw = true → vw = true) → Rps K (SR N W al vw) H .shr vs (rs.map (·.d)) []
  | _, _, _, .nil, _, _, _ => .nil
  | _, _, _, .cons (r := r) (F := F) h1 h2, hs, ha, hv => by
    refine Rps.cons (F := []) (G := []) (h1.give (fun a z => ⟨fun e => z.1.1 ?_, fun e => z.1.2 ?_⟩) fun a z => ⟨fun _ => (hT a (hs a (List.mem_append_left _ z))).1, fun _ => (hT a (hs a (List.mem_append_left _ z))).2⟩)
      (RpL.give' hT h2 (fun a z => hs a (List.mem_append_right _ z)) (fun r hr => ha r (List.mem_cons_of_mem _ hr)) fun r hr => hv r (List.mem_cons_of_mem _ hr))
    · cases q : r.al with
      | false => rfl
      | true => rw [ha r List.mem_cons_self q] at e; cases e
    · cases q : r.vw with
      | false => rfl
      | true => rw [hv r List.mem_cons_self q] at e; cases e
end
/-- what is made of shared things S -/
def Made (K : PySem.W.Frag) (S : Addr → Prop) (H : Hp) (z : Ret) (Q : VK) : Prop := ∀ v H' F, Same H H' → (∀ a ∈ F, H a = none) → F.Nodup → Rp K (fun a => S a ∧ a ∉ F) H' z.2 v z.1 F → Q v H'
def CallOk (X : Cx) (f : Value) (g : List D → Option Ret) : Prop :=
  ∃ r : List V → Hp → VK → Prop, CallR X f r ∧ ∀ (S : Addr → Prop) (H : Hp) (vs : List V) (ds : List D) (z : Ret) (Q : VK), Rps X.K S H .shr vs ds [] → g ds = some z → Made X.K S H z Q → r vs H Q
theorem CallOk.or {X : Cx} {f : Value} {g g' : List D → Option Ret} (h : CallOk X f g) (h' : CallOk X f g') : CallOk X f (fun ds => (g ds).or (g' ds)) := by
  obtain ⟨r, ho, hr⟩ := h
  obtain ⟨r', ho', hr'⟩ := h'
  refine ⟨_, ho.or ho', fun S H vs ds z Q p e q => ?_⟩
  have e : (g ds).or (g' ds) = some z := e
  cases hg : g ds with
  | some k =>
    rw [hg] at e
    cases e
    exact .inl (hr S H vs ds _ Q p hg q)
  | none =>
    rw [hg] at e
    exact .inr (hr' S H vs ds _ Q p e q)
def eBi (g : List D → Option Ret) (ga : EvA) : EvE := fun ρ => (ga ρ).bind fun rs => (g (rs.map (·.d))).map (res (rs.any (·.al)) (rs.any (·.vw)))
theorem any_of {α : Type} {p : α → Bool} {l : List α} : ∀ r ∈ l, p r = true → l.any p = true := fun r h e => List.any_eq_true.mpr ⟨r, h, e⟩
section
variable {X : Cx} {e : Expr} {es : List Expr} {ga : EvA} {fe fa fb : EvE} {p pos : Pos} {x : Str} {id T : String} {g : List D → Option Ret}
theorem bi_read {r : List V → Hp → VK → Prop} (hr : ∀ (S : Addr → Prop) (H : Hp) (vs : List V) (ds : List D) (z : Ret) (Q : VK), Rps X.K S H .shr vs ds [] → g ds = some z → Made X.K S H z Q → r vs H Q) {σ : St} {H : Hp} {Q : VK} (h : tE X.K (eBi g ga) σ H Q) : tA X.K ga σ H fun vs H1 => r vs H1 Q := by
  obtain ⟨N, H0, ρ, L, W, rr, sim, z, q⟩ := h
  unfold eBi at z
  obtain ⟨rs, e1, z⟩ := bind_some z
  obtain ⟨z', e2, z⟩ := Option.map_eq_some_iff.mp z
  subst z
  refine ⟨N, H0, ρ, L, W, rs, sim, e1, fun vs H1 T' s1 n1 d1 p1 => ?_⟩
  have hT : ∀ a ∈ T', N a ∧ a ∉ W := fun a m => ⟨sim.nw a (n1 a m), fun w => sim.th a w (n1 a m)⟩
  exact hr _ H1 vs _ z' Q (p1.give' hT (fun _ m => m) (fun r h => any_of (p := fun r : Rv => r.al) r h) (fun r h => any_of (p := fun r : Rv => r.vw) r h)) e2 fun v H2 F s2 n2 d2 p2 => q.res (s1.trans s2) (fun a m => s1.free (n2 a m)) d2 (fun a z => z) p2
theorem e_bi (ho : CallOk X (.builtin id) g) (hm : X.mg x = none) (hv : bootBuiltins x = some (.builtin id)) (ha : PAv X (e :: es) ga) (hg : Gl X x := by rfl) (hn : x ≠ "__name__" := by decide) (hdb : (x == ("__debug__" : Str)) = false := by decide)
    (he : starEach (e :: es) X.env = (false, eval e X.env) :: starEach es X.env := by rfl) (hpl : (backTo pos (starEach es X.env)).any (·.1) = false := by rfl) : PEv X (.Call (.Name x p) (e :: es) [] pos) (eBi g ga) := by
  obtain ⟨r, ho, hr⟩ := ho
  exact imp_e (pe_callB ho hg hm hv ha hn hdb he hpl) fun σ H Q h => bi_read hr h
theorem e_ty (ho : CallOk X (.type T) g) (hm : X.mg x = none) (hv : bootBuiltins x = some (.type T)) (ha : PAv X (e :: es) ga) (hg : Gl X x := by rfl) (hn : x ≠ "__name__" := by decide) (hdb : (x == ("__debug__" : Str)) = false := by decide)
    (he : starEach (e :: es) X.env = (false, eval e X.env) :: starEach es X.env := by rfl) (hpl : (backTo pos (starEach es X.env)).any (·.1) = false := by rfl) : PEv X (.Call (.Name x p) (e :: es) [] pos) (eBi g ga) := by
  obtain ⟨r, ho, hr⟩ := ho
  exact imp_e (pe_callTy ho hg hm hv ha hn hdb he hpl) fun σ H Q h => bi_read hr h
end
theorem Made.atom {K : PySem.W.Frag} {S : Addr → Prop} {H : Hp} {d : D} {l : Lv} {v : V} {Q : VK} (q : Made K S H (d, l) Q) (r : ∀ S, Rp K S H l v d []) : Q v H := q v H [] (Same.refl H) (fun _ z => nomatch z) .nil (r _)
theorem Made.lst {K : PySem.W.Frag} {S : Addr → Prop} {H : Hp} {ds : List D} {vs : List V} {Q : VK} (q : Made K S H (.lst ds, .top) Q) (r : Rps K S H .shr vs ds []) : ∀ p, H p = none → Q (.ref p) (upd H p (.lst vs)) := fun p np =>
  q _ _ [p] (same_upd np) (fun a m => List.mem_singleton.mp m ▸ np) nodup1 (.nd1 (fun z => nomatch z) .lst upd_same ((r.trk.same (same_upd np)).mono fun a z => ⟨z.1, fun m => z.2 (List.mem_singleton.mp m ▸ np)⟩))
theorem Rps.inv1 {K : PySem.W.Frag} {S : Addr → Prop} {H : Hp} {vs : List V} {d : D} (r : Rps K S H .shr vs [d] []) : ∃ v, vs = [v] ∧ Rp K S H .shr v d [] := by
  generalize hF : ([] : List Addr) = F at r
  cases r with
  | cons h1 h2 =>
    have e1 := h1.shr0
    subst e1
    cases h2
    exact ⟨_, rfl, h1⟩
theorem Rps.inv2 {K : PySem.W.Frag} {S : Addr → Prop} {H : Hp} {vs : List V} {d e : D} (r : Rps K S H .shr vs [d, e] []) : ∃ v w, vs = [v, w] ∧ Rp K S H .shr v d [] ∧ Rp K S H .shr w e [] := by
  generalize hF : ([] : List Addr) = F at r
  cases r with
  | cons h1 h2 =>
    have e1 := h1.shr0
    have e2 := h2.shr0
    subst e1 e2
    obtain ⟨w, rfl, h3⟩ := h2.inv1
    exact ⟨_, w, rfl, h1, h3⟩
theorem Rp.lst_shr {K : PySem.W.Frag} {S : Addr → Prop} {H : Hp} {v : V} {ds : List D} (r : Rp K S H .shr v (.lst ds) []) : ∃ a vs, v = .ref a ∧ H a = some (.lst vs) ∧ S a ∧ Rps K S H .shr vs ds [] := by
  cases r with
  | nd0 h h1 h2 h3 => cases h; exact ⟨_, _, rfl, h1, h2, h3⟩
/-- a list or a tuple that is read -/
def itemsOf : D → Option (List D)
  | .lst ds => some ds
  | .fl ds => some ds
  | .tup ds => some ds
  | _ => none
theorem items_rp {K : PySem.W.Frag} {S : Addr → Prop} {H : Hp} {v : V} {d : D} {ds : List D} (r : Rp K S H .shr v d []) (h : itemsOf d = some ds) : ∃ a vs, v = .ref a ∧ (SqL K H a vs ∨ SqT K H a vs) ∧ Rps K S H .shr vs ds [] := by
  cases d with
  | lst xs => cases h; obtain ⟨a, vs, rfl, h1, _, h3⟩ := r.lst_shr; exact ⟨a, vs, rfl, .inl (SqL.of h1), h3⟩
  | fl xs => cases h; obtain ⟨a, vs, rfl, h1, h3, _⟩ := r.fl_inv; exact ⟨a, vs, rfl, .inl h1.sq, h3⟩
  | tup xs => cases h; obtain ⟨a, vs, rfl, h1, h3⟩ := r.tup_inv; exact ⟨a, vs, rfl, .inr (SqT.of h1), h3⟩
  | _ => cases h
def seqOf : D → Option (List D)
  | .lst ds => some ds
  | .fl ds => some ds
  | _ => none
theorem seq_rp {K : PySem.W.Frag} {S : Addr → Prop} {H : Hp} {v : V} {d : D} {ds : List D} (r : Rp K S H .shr v d []) (h : seqOf d = some ds) : ∃ a vs, v = .ref a ∧ SqL K H a vs ∧ Rps K S H .shr vs ds [] := by
  cases d with
  | lst xs => cases h; obtain ⟨a, vs, rfl, h1, _, h3⟩ := r.lst_shr; exact ⟨a, vs, rfl, SqL.of h1, h3⟩
  | fl xs => cases h; obtain ⟨a, vs, rfl, h1, h3, _⟩ := r.fl_inv; exact ⟨a, vs, rfl, h1.sq, h3⟩
  | _ => cases h

/-! ### the builtins -/
def bList : List D → Option Ret
  | [d] => (itemsOf d).map fun ds => (.lst ds, .top)
  | _ => none
def bAbs : List D → Option Ret
  | [.int i] => some (.int (if i < 0 then -i else i), .full)
  | _ => none
def bMax2 : List D → Option Ret
  | [.int i, .int j] => some (.int (if j > i then j else i), .full)
  | _ => none
def bMin2 : List D → Option Ret
  | [.int i, .int j] => some (.int (if j < i then j else i), .full)
  | _ => none
def bSum : List D → Option Ret
  | [d] => ((seqOf d).bind intsOf).map fun ns => (.int ns.sum, .full)
  | _ => none
def blOf : D → Option Bool
  | .bl b => some b
  | _ => none
def blsOf : List D → Option (List Bool)
  | [] => some []
  | d :: ds => (blOf d).bind fun i => (blsOf ds).map (i :: ·)
theorem blsOf_some : ∀ {ds : List D} {ns : List Bool}, blsOf ds = some ns → ds = ns.map .bl
  | [], _, h => by cases h; rfl
  | d :: ds, ns, h => by
    unfold blsOf at h
    obtain ⟨i, e1, h⟩ := bind_some h
    obtain ⟨m, e2, h⟩ := Option.map_eq_some_iff.mp h
    subst h
    rw [blsOf_some e2]
    cases d <;> first | (cases e1; rfl) | cases e1
def bAll : List D → Option Ret
  | [.lst ds] => (blsOf ds).map fun bs => (.bl (bs.all id), .full)
  | _ => none
def bAny : List D → Option Ret
  | [.lst ds] => (blsOf ds).map fun bs => (.bl (bs.any id), .full)
  | _ => none
def bInt : List D → Option Ret
  | [.int i] => some (.int i, .full)
  | [.bl k] => some (.int (if k then 1 else 0), .full)
  | _ => none
/-- sorted by insertion -/
def isort {α : Type} (lt : α → α → Bool) : List α → List α
  | [] => []
  | x :: xs => insF lt x (isort lt xs)
where insF {α : Type} (lt : α → α → Bool) (x : α) : List α → List α
  | [] => [x]
  | y :: ys => if lt y x = true then y :: insF lt x ys else x :: y :: ys
def rowOf : D → Option (List Int)
  | .tup ds => intsOf ds
  | _ => none
def rowsOf : List D → Option (List (List Int))
  | [] => some []
  | d :: ds => (rowOf d).bind fun i => (rowsOf ds).map (i :: ·)
def dRow (r : List Int) : D := .tup (r.map .int)
theorem rowsOf_some : ∀ {ds : List D} {ns : List (List Int)}, rowsOf ds = some ns → ds = ns.map dRow
  | [], _, h => by cases h; rfl
  | d :: ds, ns, h => by
    unfold rowsOf at h
    obtain ⟨i, e1, h⟩ := bind_some h
    obtain ⟨m, e2, h⟩ := Option.map_eq_some_iff.mp h
    subst h
    rw [rowsOf_some e2]
    cases d with
    | tup xs => rw [show xs = i.map .int from intsOf_some e1]; rfl
    | _ => cases e1
abbrev sortI (ns : List Int) : List Int := isort (fun a b => decide (a < b)) ns
abbrev sortR (rs : List (List Int)) : List (List Int) := isort HT.lexLt rs
def bSortedI : List D → Option Ret
  | [d] => ((seqOf d).bind intsOf).map fun ns => (.lst ((sortI ns).map .int), .top)
  | _ => none
def sameLen : List (List Int) → Bool
  | [] => true
  | r :: rs => decide (1 ≤ r.length) && rs.all fun q => decide (q.length = r.length)
def bSortedR : List D → Option Ret
  | [d] => (seqOf d).bind fun ds => (rowsOf ds).bind fun rs => if sameLen rs = true then some (.lst ((sortR rs).map dRow), .top) else none
  | _ => none
section
open SrtO (Srtd Stb Swo)
theorem insF_perm {α : Type} {lt : α → α → Bool} (x : α) : ∀ l : List α, (isort.insF lt x l).Perm (x :: l)
  | [] => List.Perm.refl _
  | y :: ys => by
    unfold isort.insF
    split
    · exact ((insF_perm x ys).cons y).trans (List.Perm.swap x y ys)
    · exact List.Perm.refl _
theorem isort_perm {α : Type} {lt : α → α → Bool} : ∀ l : List α, (isort lt l).Perm l
  | [] => List.Perm.refl _
  | x :: xs => (insF_perm x _).trans ((isort_perm xs).cons x)
theorem insF_srtd {α : Type} {lt : α → α → Bool} (O : Swo lt) (x : α) : ∀ {l : List α}, Srtd lt l → Srtd lt (isort.insF lt x l)
  | [], _ => List.pairwise_singleton _ _
  | y :: ys, h => by
    unfold isort.insF
    have hh := List.pairwise_cons.mp h
    split
    · rename_i hy
      refine List.pairwise_cons.mpr ⟨fun z hz => ?_, insF_srtd O x hh.2⟩
      rcases List.mem_cons.mp ((insF_perm x ys).mem_iff.mp hz) with e | hz
      · rw [e]; exact O.asym _ _ hy
      · exact hh.1 z hz
    · rename_i hy
      have hy : lt y x = false := by simpa using hy
      refine List.pairwise_cons.mpr ⟨fun z hz => ?_, h⟩
      rcases List.mem_cons.mp hz with e | hz
      · rw [e]; exact hy
      · exact O.tr x y z hy (hh.1 z hz)
theorem isort_srtd {α : Type} {lt : α → α → Bool} (O : Swo lt) : ∀ l : List α, Srtd lt (isort lt l)
  | [] => List.Pairwise.nil
  | x :: xs => insF_srtd O x (isort_srtd O xs)
theorem insF_cls {α : Type} {lt : α → α → Bool} (O : Swo lt) (x z : α) : ∀ {l : List α}, Srtd lt l → (isort.insF lt x l).filter (SrtO.eqv lt z) = (x :: l).filter (SrtO.eqv lt z)
  | [], _ => rfl
  | y :: ys, h => by
    unfold isort.insF
    have hh := List.pairwise_cons.mp h
    split
    · rename_i hy
      have ih := insF_cls O x z hh.2
      have hxy : ¬ (SrtO.eqv lt z x = true ∧ SrtO.eqv lt z y = true) := fun ⟨a, b⟩ => by
        obtain ⟨a1, a2⟩ := SrtO.eqv_iff.mp a
        obtain ⟨b1, b2⟩ := SrtO.eqv_iff.mp b
        have := O.tr x z y a1 b2
        rw [hy] at this
        cases this
      rcases SrtO.bcase (SrtO.eqv lt z x) with q | q
      · have q' : SrtO.eqv lt z y = false := by
          rcases SrtO.bcase (SrtO.eqv lt z y) with p | p
          · exact absurd ⟨q, p⟩ hxy
          · exact p
        rw [List.filter_cons_of_neg (by rw [q']; decide), ih, List.filter_cons_of_pos q, List.filter_cons_of_pos q, List.filter_cons_of_neg (by rw [q']; decide)]
      · rw [List.filter_cons_of_neg (a := x) (by rw [q]; decide)] at ih
        rw [List.filter_cons_of_neg (a := x) (by rw [q]; decide)]
        rcases SrtO.bcase (SrtO.eqv lt z y) with p | p
        · rw [List.filter_cons_of_pos p, List.filter_cons_of_pos p, ih]
        · rw [List.filter_cons_of_neg (a := y) (by rw [p]; decide), List.filter_cons_of_neg (a := y) (by rw [p]; decide), ih]
    · rfl
theorem isort_stb {α : Type} {lt : α → α → Bool} (O : Swo lt) : ∀ l : List α, Stb lt (isort lt l) l
  | [] => Stb.refl []
  | x :: xs => by
    have ih := isort_stb O xs
    refine ⟨isort_perm _, fun z => ?_⟩
    show (isort.insF lt x (isort lt xs)).filter _ = _
    rw [insF_cls O x z (isort_srtd O xs)]
    rcases SrtO.bcase (SrtO.eqv lt z x) with q | q
    · rw [List.filter_cons_of_pos q, List.filter_cons_of_pos q, ih.cls z]
    · rw [List.filter_cons_of_neg (by rw [q]; decide), List.filter_cons_of_neg (by rw [q]; decide), ih.cls z]
theorem swo_int : Swo (fun a b : Int => decide (a < b)) := ⟨fun x y h => by
    have := of_decide_eq_true h
    exact decide_eq_false (by omega), fun x y z h1 h2 => by
    have h1 := of_decide_eq_false h1
    have h2 := of_decide_eq_false h2
    exact decide_eq_false (by omega)⟩
theorem stb_int {a b : List Int} (h : a.Perm b) : Stb (fun a b : Int => decide (a < b)) a b := by
  refine ⟨h, fun z => ?_⟩
  have e : ∀ l : List Int, l.filter (SrtO.eqv (fun a b : Int => decide (a < b)) z) = l.filter fun x => decide (x = z) := fun l => by
    congr 1
    funext x
    unfold SrtO.eqv
    by_cases q : x = z
    · subst q; simp
    · rw [decide_eq_false q]
      have : z < x ∨ x < z := by omega
      rcases this with t | t <;> simp [t]
  rw [e, e]
  have f : ∀ l : List Int, l.filter (fun x => decide (x = z)) = List.replicate (l.count z) z := fun l => by
    induction l with
    | nil => rfl
    | cons x l ih =>
      by_cases q : x = z
      · subst q; simp [ih, List.replicate_succ]
      · simp [q, ih, List.count_cons]
  rw [f, f, h.count_eq]
theorem sortI_uniq {a b : List Int} (h : a.Perm b) (hs : a.Pairwise (· ≤ ·)) : a = sortI b := by
  have s1 : Srtd (fun a b : Int => decide (a < b)) a := hs.imp fun {x y} h => decide_eq_false (by omega)
  exact SrtO.stb_uniq swo_int s1 (isort_srtd swo_int b) ⟨h.trans (isort_perm b).symm, fun z => ((stb_int h).cls z).trans ((isort_stb swo_int b).cls z).symm⟩
end
theorem Rps.mem {K : PySem.W.Frag} {S : Addr → Prop} {H : Hp} {rs : List (List Int)} : ∀ {vs : List V} {F : List Addr}, Rps K S H .shr vs (rs.map dRow) F → Paired (fun v r => ∃ a, v = V.ref a ∧ H a = some (.tup (r.map V.int))) vs rs := by
  induction rs with
  | nil => intro vs F h; cases h; exact .nil
  | cons r rs ih =>
    intro vs F h
    cases h with
    | cons h1 h2 =>
      obtain ⟨a, us, rfl, e, r1⟩ := Rp.tup_inv h1
      obtain ⟨rfl, _⟩ := r1.ints
      exact .cons ⟨a, rfl, e⟩ (ih h2)
/-- the ints of a tuple -/
def keyV (H : Hp) : V → List Int
  | .ref a => match H a with
    | some (.tup vs) => vs.filterMap fun v => match v with | .int i => some i | _ => none
    | _ => []
  | _ => []
theorem keyV_at {H : Hp} {a : Addr} {r : List Int} (h : H a = some (.tup (r.map V.int))) : keyV H (.ref a) = r := by
  unfold keyV
  simp only [h]
  rw [List.filterMap_map]
  exact List.filterMap_some
theorem paired_key {H : Hp} : ∀ {vs : List V} {rs : List (List Int)}, Paired (fun v r => ∃ a, v = V.ref a ∧ H a = some (.tup (r.map V.int))) vs rs → vs.map (keyV H) = rs ∧ ∀ v ∈ vs, ∃ a, v = V.ref a ∧ H a = some (.tup ((keyV H v).map V.int))
  | _, _, .nil => ⟨rfl, fun _ z => nomatch z⟩
  | _, _, .cons ⟨a, e, h⟩ t => by
    obtain ⟨i1, i2⟩ := paired_key t
    subst e
    refine ⟨by rw [List.map_cons, keyV_at h, i1], fun v hv => ?_⟩
    rcases List.mem_cons.mp hv with e | hv
    · rw [e, keyV_at h]; exact ⟨a, rfl, h⟩
    · exact i2 v hv
theorem sameLen_all {rs : List (List Int)} (h : sameLen rs = true) : ∃ d, 1 ≤ d ∧ ∀ r ∈ rs, r.length = d := by
  cases rs with
  | nil => exact ⟨1, Nat.le_refl _, fun _ z => nomatch z⟩
  | cons r rs =>
    unfold sameLen at h
    rw [Bool.and_eq_true, decide_eq_true_eq] at h
    refine ⟨r.length, h.1, fun q hq => ?_⟩
    rcases List.mem_cons.mp hq with e | hq
    · rw [e]
    · exact of_decide_eq_true (List.all_eq_true.mp h.2 q hq)
theorem rps_rows {K : PySem.W.Frag} {S : Addr → Prop} {H : Hp} : ∀ {vs : List V}, (∀ v ∈ vs, ∃ a, v = V.ref a ∧ H a = some (.tup ((keyV H v).map V.int))) → Rps K S H .shr vs ((vs.map (keyV H)).map dRow) []
  | [], _ => .nil
  | v :: vs, h => by
    obtain ⟨a, e, ha⟩ := h v List.mem_cons_self
    have r := rps_rows (K := K) (S := S) (vs := vs) fun u hu => h u (List.mem_cons_of_mem _ hu)
    refine Rps.cons (F := []) (G := []) ?_ r
    subst e
    refine .tup ha ?_
    generalize keyV H (V.ref a) = ns
    induction ns with
    | nil => exact .nil
    | cons n ns ih => exact Rps.cons (F := []) (G := []) .int ih
theorem rps_ints {K : PySem.W.Frag} {S : Addr → Prop} {H : Hp} {l : Lv} : ∀ ns : List Int, Rps K S H l (ns.map V.int) (ns.map .int) []
  | [] => .nil
  | n :: ns => Rps.cons (F := []) (G := []) .int (rps_ints ns)
section
variable {X : Cx}
theorem k_sortedI : CallOk X (.builtin "sorted") bSortedI := ⟨_, cr_sortedI, fun S H vs ds z Q r e q => by
  unfold bSortedI at e
  split at e
  · rename_i d
    obtain ⟨ns, e1, e⟩ := Option.map_eq_some_iff.mp e
    subst e
    obtain ⟨xs, e2, e3⟩ := bind_some e1
    obtain ⟨v, rfl, r1⟩ := r.inv1
    obtain ⟨a, us, rfl, h1, h2⟩ := seq_rp r1 e2
    rw [intsOf_some e3] at h2
    obtain ⟨rfl, _⟩ := h2.ints
    refine ⟨a, ns, rfl, h1, fun ns' p pm pw np => ?_⟩
    rw [sortI_uniq pm pw]
    exact q.lst (rps_ints _) p np
  · cases e⟩
theorem k_sortedR : CallOk X (.builtin "sorted") bSortedR := ⟨_, EvS.cr_sortedL, fun S H vs ds z Q r e q => by
  unfold bSortedR at e
  split at e
  · rename_i d
    obtain ⟨xs, e2, e⟩ := bind_some e
    obtain ⟨rs, e3, e⟩ := bind_some e
    split at e
    · rename_i hl
      cases e
      obtain ⟨v, rfl, r1⟩ := r.inv1
      obtain ⟨a, us, rfl, h1, h2⟩ := seq_rp r1 e2
      rw [rowsOf_some e3] at h2
      obtain ⟨k1, k2⟩ := paired_key (Rps.mem h2)
      obtain ⟨d, hd, hlen⟩ := sameLen_all hl
      refine ⟨a, us, keyV H, d, hd, rfl, h1, fun x hx => ?_, fun ys p hs hb np => ?_⟩
      · obtain ⟨t, e, ht⟩ := k2 x hx
        exact ⟨t, e, ht, hlen _ (by rw [← k1]; exact List.mem_map_of_mem hx)⟩
      · have eo : ys.map (keyV H) = sortR rs := by
          refine SrtO.stb_uniq (EvS.swo_lex id) (SrtO.srtd_map hs) (isort_srtd (EvS.swo_lex id) rs) ?_
          have z1 := SrtO.Stb.map (EvS.swo_lex id) (keyV H) hb
          rw [k1] at z1
          have z2 := isort_stb (EvS.swo_lex (α := List Int) id) rs
          exact ⟨z1.perm.trans z2.perm.symm, fun x => (z1.cls x).trans (z2.cls x).symm⟩
        have hy : ∀ v ∈ ys, ∃ a, v = V.ref a ∧ H a = some (.tup ((keyV H v).map V.int)) := fun v hv => k2 v (hb.perm.mem_iff.mp hv)
        have z := rps_rows (K := X.K) (S := S) hy
        rw [eo] at z
        exact q.lst z p np
    · cases e
  · cases e⟩
abbrev bSorted : List D → Option Ret := fun ds => (bSortedI ds).or (bSortedR ds)
theorem k_sorted : CallOk X (.builtin "sorted") bSorted := k_sortedI.or k_sortedR
theorem k_list : CallOk X (.type "list") bList := ⟨_, call_list_of, fun S H vs ds z Q r e q => by
  unfold bList at e
  split at e
  · rename_i d
    obtain ⟨xs, e2, e⟩ := Option.map_eq_some_iff.mp e
    subst e
    obtain ⟨v, rfl, r1⟩ := r.inv1
    obtain ⟨a, us, rfl, h1, h2⟩ := items_rp r1 e2
    exact ⟨a, us, rfl, h1, fun l nl => q.lst h2 l nl⟩
  · cases e⟩
theorem k_abs : CallOk X (.builtin "abs") bAbs := ⟨_, call_abs, fun S H vs ds z Q r e q => by
  unfold bAbs at e
  split at e
  · cases e
    obtain ⟨v, rfl, r1⟩ := r.inv1
    obtain ⟨rfl, _⟩ := r1.int_inv
    exact ⟨_, rfl, q.atom fun _ => .int⟩
  · cases e⟩
theorem k_max2 (hc : X.calm = true) : CallOk X (.builtin "max") bMax2 := ⟨_, call_max2 hc, fun S H vs ds z Q r e q => by
  unfold bMax2 at e
  split at e
  · cases e
    obtain ⟨v, w, rfl, r1, r2⟩ := r.inv2
    obtain ⟨rfl, _⟩ := r1.int_inv
    obtain ⟨rfl, _⟩ := r2.int_inv
    exact ⟨_, _, rfl, q.atom fun _ => .int⟩
  · cases e⟩
theorem k_min2 (hc : X.calm = true) : CallOk X (.builtin "min") bMin2 := ⟨_, call_min2 hc, fun S H vs ds z Q r e q => by
  unfold bMin2 at e
  split at e
  · cases e
    obtain ⟨v, w, rfl, r1, r2⟩ := r.inv2
    obtain ⟨rfl, _⟩ := r1.int_inv
    obtain ⟨rfl, _⟩ := r2.int_inv
    exact ⟨_, _, rfl, q.atom fun _ => .int⟩
  · cases e⟩
theorem k_sum (hc : X.calm = true) : CallOk X (.builtin "sum") bSum := ⟨_, cr_sum hc, fun S H vs ds z Q r e q => by
  unfold bSum at e
  split at e
  · rename_i d
    obtain ⟨ns, e1, e⟩ := Option.map_eq_some_iff.mp e
    subst e
    obtain ⟨xs, e2, e3⟩ := bind_some e1
    obtain ⟨v, rfl, r1⟩ := r.inv1
    obtain ⟨a, us, rfl, h1, h2⟩ := seq_rp r1 e2
    rw [intsOf_some e3] at h2
    obtain ⟨rfl, _⟩ := h2.ints
    exact ⟨a, ns, rfl, h1, q.atom fun _ => .int⟩
  · cases e⟩
theorem Rps.bls {K : PySem.W.Frag} {S : Addr → Prop} {H : Hp} {l : Lv} : ∀ {vs : List V} {ns : List Bool} {F : List Addr}, Rps K S H l vs (ns.map .bl) F → vs = ns.map V.bl
  | _, [], _, .nil => rfl
  | _, n :: ns, _, .cons h1 h2 => by
    obtain ⟨rfl, e1⟩ := Rp.bl_inv h1
    rw [Rps.bls h2]
    rfl
theorem k_all (hc : X.calm = true) : CallOk X (.builtin "all") bAll := ⟨_, cr_all hc, fun S H vs ds z Q r e q => by
  unfold bAll at e
  split at e
  · rename_i d
    obtain ⟨ns, e1, e⟩ := Option.map_eq_some_iff.mp e
    subst e
    obtain ⟨v, rfl, r1⟩ := r.inv1
    obtain ⟨a, us, rfl, h1, _, h2⟩ := r1.lst_shr
    rw [blsOf_some e1] at h2
    have := h2.bls
    subst this
    exact ⟨a, ns, rfl, SqL.of h1, q.atom fun _ => .bl⟩
  · cases e⟩
theorem k_any (hc : X.calm = true) : CallOk X (.builtin "any") bAny := ⟨_, cr_any hc, fun S H vs ds z Q r e q => by
  unfold bAny at e
  split at e
  · rename_i d
    obtain ⟨ns, e1, e⟩ := Option.map_eq_some_iff.mp e
    subst e
    obtain ⟨v, rfl, r1⟩ := r.inv1
    obtain ⟨a, us, rfl, h1, _, h2⟩ := r1.lst_shr
    rw [blsOf_some e1] at h2
    have := h2.bls
    subst this
    exact ⟨a, ns, rfl, SqL.of h1, q.atom fun _ => .bl⟩
  · cases e⟩
theorem k_int : CallOk X (.type "int") bInt := ⟨_, call_int1, fun S H vs ds z Q r e q => by
  unfold bInt at e
  split at e
  · cases e
    obtain ⟨v, rfl, r1⟩ := r.inv1
    obtain ⟨rfl, _⟩ := r1.int_inv
    exact .inl ⟨_, rfl, q.atom fun _ => .int⟩
  · cases e
    obtain ⟨v, rfl, r1⟩ := r.inv1
    obtain ⟨rfl, _⟩ := r1.bl_inv
    exact .inr ⟨_, rfl, q.atom fun _ => .int⟩
  · cases e⟩
end
end Ev

set_option Elab.async false
set_option linter.all false
set_option maxRecDepth 100000
/-! Methods, slices, lists put together; a name's list changed. -/
namespace Ev
open PySem PySem.Spec L2
open PyProof.Rows hiding St

section
variable {X : Cx} {e e2 o : Expr} {es : List Expr} {ga : EvA} {fe fa fb : EvE} {p pos apos cpos : Pos} {x : Str} {id T : String}
/-! ### methods that only look -/
def MtOk (X : Cx) (T id : String) (g : D → List D → Option Ret) : Prop :=
  ∃ r : V → List V → Hp → VK → Prop, MtR X id r ∧ ∀ (S : Addr → Prop) (H : Hp) (v : V) (d : D) (vs : List V) (ds : List D) (z : Ret) (Q : VK), Rp X.K S H .shr v d [] → Rps X.K S H .shr vs ds [] → g d ds = some z → Made X.K S H z Q → r v vs H Q
/-- the receiver's type -/
def tyN : D → Option String
  | .non => some "NoneType" | .bl _ => some "bool" | .int _ => some "int" | .str _ => some "str"
  | .tup _ => some "tuple" | .lst _ => some "list" | .fl _ => some "list" | .dk _ => some "dict" | .dt _ => some "dict"
  | _ => none
def rcv : String → D → Bool
  | "list", .lst _ => true
  | "list", .fl _ => true
  | "str", .str _ => true
  | "dict", .dk _ => true
  | "dict", .dt _ => true
  | _, _ => false
theorem rcv_ty {K : PySem.W.Frag} {S : Addr → Prop} {H : Hp} {l : Lv} {v : V} {d : D} {F : List Addr} {T : String} (r : Rp K S H l v d F) (h : rcv T d = true) : tyV K T v H := by
  unfold rcv at h
  split at h
  · obtain ⟨a, vs, G, rfl, h1, _⟩ := r.lst_inv; exact .inl ⟨rfl, vs, SqL.of h1⟩
  · obtain ⟨a, vs, rfl, h1, _⟩ := r.fl_inv; exact .inl ⟨rfl, vs, h1.sq⟩
  · obtain ⟨rfl, _⟩ := r.str_inv; rfl
  · obtain ⟨a, kv, G, rfl, h1, _⟩ := r.dk_inv; exact .inr (.inr (.inl ⟨rfl, .inl ⟨kv, h1⟩⟩))
  · obtain ⟨a, kv, G, rfl, h1, _⟩ := r.dt_inv; exact .inr (.inr (.inl ⟨rfl, .inr ⟨kv, h1⟩⟩))
  · cases h
def eMt (T : String) (g : D → List D → Option Ret) (fo : EvE) (ga : EvA) : EvE := fun ρ => (fo ρ).bind fun x => if rcv T x.d = true then (ga ρ).bind fun rs => (g x.d (rs.map (·.d))).map (res (x.al || rs.any (·.al)) (x.vw || rs.any (·.vw))) else none
theorem mt_read {r : V → List V → Hp → VK → Prop} {g : D → List D → Option Ret} {fo : EvE} (hr : ∀ (S : Addr → Prop) (H : Hp) (v : V) (d : D) (vs : List V) (ds : List D) (z : Ret) (Q : VK), Rp X.K S H .shr v d [] → Rps X.K S H .shr vs ds [] → g d ds = some z → Made X.K S H z Q → r v vs H Q) {σ : St} {H : Hp} {Q : VK}
    (h : tE X.K (eMt T g fo ga) σ H Q) : tBM X.K T r (tE X.K fo) (tA X.K ga) σ H Q := by
  obtain ⟨N, H0, ρ, L, W, rr, sim, z, q⟩ := h
  unfold eMt at z
  obtain ⟨x, e0, z⟩ := bind_some z
  split at z
  · rename_i hT
    obtain ⟨rs, e1, z⟩ := bind_some z
    obtain ⟨z', e2, z⟩ := Option.map_eq_some_iff.mp z
    subst z
    refine one sim e0 fun v H1 F s1 n1 d1 p1 => ⟨rcv_ty p1 hT, ?_⟩
    refine ⟨N, H0, ρ, L, W ++ F, rs, sim.hold s1 n1 d1 p1.own_mut, e1, fun vs H2 T' s2 n2 d2 p2 => ?_⟩
    have hF : ∀ a ∈ F, N a ∧ a ∉ W := fun a m => ⟨sim.nw a (n1 a m), fun w => sim.th a w (n1 a m)⟩
    have hT' : ∀ a ∈ T', N a ∧ a ∉ W ++ F := fun a m => ⟨sim.nw a (s1.free (n2 a m)), fun w => (sim.hold s1 n1 d1 p1.own_mut).th a w (n2 a m)⟩
    have q1 : Rp X.K (SR N W (x.al || rs.any (·.al)) (x.vw || rs.any (·.vw))) H2 .shr v x.d [] := (p1.same s2).give (fun a z => ⟨fun e => z.1.1 (by simp at e; exact e.1), fun e => z.1.2 (by simp at e; exact e.1)⟩) fun a m => ⟨fun _ => (hF a m).1, fun _ => (hF a m).2⟩
    have q2 := p2.give' (al := rs.any (·.al)) (vw := rs.any (·.vw)) hT' (fun _ m => m) (fun r h => any_of (p := fun r : Rv => r.al) r h) (fun r h => any_of (p := fun r : Rv => r.vw) r h)
    refine hr _ H2 v x.d vs _ z' Q q1 (q2.mono fun a z => ⟨fun e => z.1 (by simp only [Bool.or_eq_false_iff] at e; exact e.2), fun e m => z.2 (by simp only [Bool.or_eq_false_iff] at e; exact e.2) (List.mem_append_left _ m)⟩) e2 fun u H3 G s3 n3 d3 p3 => q.res (s1.trans (s2.trans s3)) (fun a m => s1.free (s2.free (n3 a m))) d3 (fun a z => z) p3
  · cases z
theorem e_mt {g : D → List D → Option Ret} {fo : EvE} (ho : MtOk X T id g) (pa : PlainAttrs T) (slot : Slot T x id) (hty : typeOf (.builtin id) = pure (.type "method_descriptor")) (hr : PEv X o fo) (ha : PAv X (e :: es) ga)
    (hbase : attributeBase o x X.env (eval o X.env) = eval o X.env := by rfl)
    (hfew : ((backTo cpos (starEach (e :: es) X.env)).all (fun x => !x.1) && (backToKw cpos (keywordEach [] X.env)).all (fun x => x.1.isSome)
      && decide ((e :: es).length + ([] : List Keyword).length + (if ([] : List Keyword).isEmpty then 0 else 1) < 30)) = true := by rfl)
    (hline : (apos.endLine == cpos.line) = true := by rfl) (hs : starEach (e :: es) X.env = (false, eval e X.env) :: starEach es X.env := by rfl) (hplain : (backTo cpos (starEach es X.env)).any (·.1) = false := by rfl) :
    PEv X (.Call (.Attribute o x apos) (e :: es) [] cpos) (eMt T g fo ga) := by
  obtain ⟨r, hm, hr'⟩ := ho
  exact imp_e (pe_bm pa slot hty hm hr ha hbase hfew hline hs hplain) fun σ H Q h => mt_read hr' h
/-- the first place of an equal item -/
def mIndex : D → List D → Option Ret
  | .lst ds, [d] => if (shp 8 d && shps 7 ds) = true then (ds.findIdx? fun z => deq z d).map fun j => (.int (j : Nat), .full) else none
  | _, _ => none
theorem m_index (hu : X.A.units + 65 < cLine) : MtOk X "list" "list.index" mIndex := ⟨_, mt_indexD hu, fun S H v d vs ds z Q r1 r2 e q => by
  unfold mIndex at e
  split at e
  · rename_i ds y
    split at e
    · rename_i hs
      rw [Bool.and_eq_true] at hs
      obtain ⟨j, ej, e⟩ := Option.map_eq_some_iff.mp e
      subst e
      obtain ⟨w, rfl, r3⟩ := r2.inv1
      obtain ⟨a, us, rfl, h1, _⟩ := r1.lst_shr
      have p3 := r1.dp (shp_lst hs.2)
      have s3 := shaped_of (shp_lst hs.2)
      simp only [pd] at p3 s3
      obtain ⟨hj, hp, hno⟩ := List.findIdx?_eq_some_iff_getElem.mp ej
      refine ⟨a, w, pd y, pds ds, j, pd ds[j], rfl, rfl, p3, r3.dp hs.1, s3, shaped_of hs.1, by rw [pds_map, List.getElem?_map, List.getElem?_eq_getElem hj]; rfl, hp, fun m z' hm hz => ?_, q.atom fun _ => .int⟩
      rw [pds_map, List.getElem?_map, List.getElem?_eq_getElem (by omega)] at hz
      cases hz
      have := hno m hm
      simpa [deq] using this
    · cases e
  · cases e⟩

/-! ### isinstance -/
def eIsi (T : String) (fe : EvE) : EvE := fun ρ => (fe ρ).bind fun x => (tyN x.d).bind fun tn => (kitB tn T).map rB
theorem ty_rp {K : PySem.W.Frag} {S : Addr → Prop} {H : Hp} {l : Lv} {v : V} {d : D} {F : List Addr} {tn : String} (r : Rp K S H l v d F) (h : tyN d = some tn) : TyX K H v (.type tn) := by
  cases d with
  | non => cases h; obtain ⟨rfl, _⟩ := r.non_inv; exact .base .non
  | bl b => cases h; obtain ⟨rfl, _⟩ := r.bl_inv; exact .base (.bl _)
  | int i => cases h; obtain ⟨rfl, _⟩ := r.int_inv; exact .base (.int _)
  | str x => cases h; obtain ⟨rfl, _⟩ := r.str_inv; exact .base (.str _)
  | tup ds => cases h; obtain ⟨a, vs, rfl, h1, _⟩ := r.tup_inv; exact .base (.tup h1)
  | lst ds => cases h; obtain ⟨a, vs, G, rfl, h1, _⟩ := r.lst_inv; exact .base (.lst h1)
  | fl ds =>
    cases h
    obtain ⟨a, vs, rfl, h1, _⟩ := r.fl_inv
    rcases h1 with ⟨o, h1⟩ | ⟨o, its, n, h1, h2, _⟩
    · exact .base (.frz h1)
    · exact .kList h1 h2
  | dk kd => cases h; obtain ⟨a, kv, G, rfl, h1, _⟩ := r.dk_inv; exact .base (.dK h1)
  | dt kd => cases h; obtain ⟨a, kv, G, rfl, h1, _⟩ := r.dt_inv; exact .base (.dT h1)
  | _ => cases h
theorem e_isi {t : Str} {p1 p2 : Pos} (T : String) (hm : X.mg "isinstance" = none) (hmT : X.mg t = none) (hvT : bootBuiltins t = some (.type T)) (he : PEv X e fe) (hg : Gl X "isinstance" := by rfl) (hgT : Gl X t := by rfl) (hnT : t ≠ "__name__" := by decide) (hdT : (t == ("__debug__" : Str)) = false := by decide)
    (hs1 : starEach [e, .Name t p2] X.env = (false, eval e X.env) :: starEach [.Name t p2] X.env := by rfl) (hs2 : starEach [.Name t p2] X.env = (false, eval (.Name t p2) X.env) :: starEach [] X.env := by rfl)
    (hpl : (backTo pos (starEach [.Name t p2] X.env)).any (·.1) = false := by rfl) : PEv X (.Call (.Name "isinstance" p1) [e, .Name t p2] [] pos) (eIsi T fe) := by
  have hv : bootBuiltins "isinstance" = some (.builtin "isinstance") := PyProof.Rows.boot_isinstance
  refine imp_e (pe_callB call_isi hg hm hv (pa_cons he (pa_cons (pe_bltn (v := .ty T) hgT hmT hvT rfl hnT hdT) pa_nil hs2) hs1) (by decide) (by decide) hs1 hpl) fun σ H Q ⟨N, H0, ρ, L, W, rr, sim, z, q⟩ => ?_
  unfold eIsi at z
  obtain ⟨x, e1, z⟩ := bind_some z
  obtain ⟨tn, e2, z⟩ := bind_some z
  obtain ⟨b, e3, z⟩ := Option.map_eq_some_iff.mp z
  subst z
  refine one sim e1 fun v H1 F s1 n1 d1 p1 => ?_
  exact ⟨v, .ty T, .type tn, .type T, b, rfl, .ty T, ty_rp p1 e2, kit_ty e3, q.bl s1⟩

/-! ### slices -/
def cutL {α : Type} (xs : List α) (lo hi : Option Int) : List α := (xs.drop (HT.sIx xs.length 0 lo)).take (HT.sIx xs.length xs.length hi - HT.sIx xs.length 0 lo)
abbrev EvO := Env → Option (Option Int)
def oNone : EvO := fun _ => some none
def oSome (fe : EvE) : EvO := fun ρ => (fe ρ).bind fun x => (intOf x.d).map some
def tO (K : PySem.W.Frag) (f : EvO) : TO := fun σ H Q => ∃ N H0 ρ L W o, SimH K N H0 ρ σ H L W ∧ f ρ = some o ∧ ∀ H', Same H H' → Q o H'
abbrev POv (X : Cx) (e : Option Expr) (f : EvO) : Prop := PO X e (tO X.K f)
theorem imp_o {e : Option Expr} {t t' : TO} (h : PO X e t) (i : ∀ σ H Q, t' σ H Q → t σ H Q) : PO X e t' := ⟨fun p s σ H Q I w => h.run p s σ H Q I (i σ H Q w)⟩
theorem o_none : POv X none oNone := imp_o po_none fun σ H Q ⟨N, H0, ρ, L, W, k, sim, z, q⟩ => by cases z; exact q H (Same.refl H)
theorem o_some (he : PEv X e fe) : POv X (some e) (oSome fe) := imp_o (po_some he) fun σ H Q ⟨N, H0, ρ, L, W, k, sim, z, q⟩ => by
  unfold oSome at z
  obtain ⟨x, e1, z⟩ := bind_some z
  obtain ⟨i, e2, z⟩ := Option.map_eq_some_iff.mp z
  subst z
  refine one sim e1 fun v H1 F s1 n1 d1 p1 => ?_
  have : x.d = .int i := by
    cases q : x.d <;> rw [q] at e2 <;> first | (cases e2; rfl) | cases e2
  rw [this] at p1
  obtain ⟨rfl, _⟩ := p1.int_inv
  exact ⟨i, rfl, q H1 s1⟩
/-- a part of a list, of a tuple (not the whole of it) -/
def cutD (d : D) (lo hi : Option Int) : Option Ret := match d with
  | .lst ds => some (.lst (cutL ds lo hi), .top)
  | .fl ds => some (.lst (cutL ds lo hi), .top)
  | .tup ds => if HT.sIx ds.length 0 lo = 0 ∧ HT.sIx ds.length ds.length hi = ds.length then none else some (.tup (cutL ds lo hi), .shr)
  | _ => none
def eSl (fe : EvE) (fl fh : EvO) : EvE := fun ρ => (fe ρ).bind fun x => (fl ρ).bind fun lo => (fh ρ).bind fun hi => (cutD x.d lo hi).map (res x.al x.vw)
theorem cutV_eq (xs : List V) (lo hi : Option Int) : cutV xs lo hi = cutL xs lo hi := rfl
theorem Rps.cut {K : PySem.W.Frag} {S : Addr → Prop} {H : Hp} {vs : List V} {ds : List D} (r : Rps K S H .shr vs ds []) (lo hi : Option Int) : Rps K S H .shr (cutV vs lo hi) (cutL ds lo hi) [] := by
  unfold cutV cutL
  rw [r.len]
  exact (r.drop _).take _
theorem e_sl {lo hi : Option Expr} {fl fh : EvO} {p2 : Pos} (he : PEv X e fe) (hl : POv X lo fl) (hh : POv X hi fh) : PEv X (.Subscript e (.Slice lo hi none p2) pos) (eSl fe fl fh) := by
  refine imp_e (pe_slice (sl_list.or sl_tup) he hl hh) fun σ H Q ⟨N, H0, ρ, L, W, rr, sim, z, q⟩ => ?_
  unfold eSl at z
  obtain ⟨x, e1, z⟩ := bind_some z
  obtain ⟨l, e2, z⟩ := bind_some z
  obtain ⟨h, e3, z⟩ := bind_some z
  obtain ⟨z', e4, z⟩ := Option.map_eq_some_iff.mp z
  subst z
  refine one sim e1 fun v H1 F s1 n1 d1 p1 => ⟨N, H0, ρ, L, W, l, sim.same s1, e2, fun H2 s2 => ⟨N, H0, ρ, L, W, h, (sim.same s1).same s2, e3, fun H3 s3 => ?_⟩⟩
  have hF : ∀ a ∈ F, N a ∧ a ∉ W := fun a m => ⟨sim.nw a (n1 a m), fun w => sim.th a w (n1 a m)⟩
  have s23 := s2.trans s3
  have s13 := s1.trans s23
  have r := (p1.same s23).give (S' := SR N W x.al x.vw) (fun a z => z.1) fun a m => ⟨fun _ => (hF a m).1, fun _ => (hF a m).2⟩
  have fin : Made X.K (SR N W x.al x.vw) H3 z' Q := fun u H4 G s4 n4 d4 p4 => q.res (s13.trans s4) (fun a m => s13.free (n4 a m)) d4 (fun a z => z) p4
  unfold cutD at e4
  split at e4
  · rename_i ds hd
    cases e4
    rw [hd] at r
    obtain ⟨a, vs, rfl, h1, _, h3⟩ := r.lst_shr
    exact .inl ⟨a, vs, rfl, SqL.of h1, fun p np => fin.lst (h3.cut l h) p np⟩
  · rename_i ds hd
    cases e4
    rw [hd] at r
    obtain ⟨a, vs, rfl, h1, h3, _⟩ := r.fl_inv
    exact .inl ⟨a, vs, rfl, h1.sq, fun p np => fin.lst (h3.cut l h) p np⟩
  · rename_i ds hd
    split at e4
    · cases e4
    · rename_i hno
      cases e4
      rw [hd] at r
      obtain ⟨a, vs, rfl, h1, h3⟩ := r.tup_inv
      refine .inr ⟨a, vs, rfl, SqT.of h1, by rw [h3.len]; exact hno, fun p np => fin _ _ [] (same_upd np) (fun _ z => nomatch z) .nil (.tup upd_same (((h3.cut l h).same (same_upd np)).mono fun a z => ⟨z, fun m => nomatch m⟩))⟩
  · cases e4
/-- xs[::-1] -/
def eRev (fe : EvE) : EvE := fun ρ => (fe ρ).bind fun x => (seqOf x.d).map fun ds => res x.al x.vw (.lst ds.reverse, .top)
theorem Rps.rev {K : PySem.W.Frag} {S : Addr → Prop} {H : Hp} : ∀ {vs : List V} {ds : List D} {F : List Addr}, Rps K S H .shr vs ds F → Rps K S H .shr vs.reverse ds.reverse []
  | _, _, _, .nil => .nil
  | _, _, _, .cons h1 h2 => by
    have e1 := h1.shr0
    subst e1
    rw [List.reverse_cons, List.reverse_cons]
    exact Rps.app (F := []) (G := []) (Rps.rev h2) (Rps.cons (F := []) (G := []) h1 .nil)
theorem e_rev {k : Nat} {p1 p2 p3 : Pos} (he : PEv X e fe) : PEv X (.Subscript e (.Slice none none (some (.UnaryOp .USub (.Constant (.int 1) k p1) p2)) p3) pos) (eRev fe) := by
  refine imp_e (pe_revL he) fun σ H Q ⟨N, H0, ρ, L, W, rr, sim, z, q⟩ => ?_
  unfold eRev at z
  obtain ⟨x, e1, z⟩ := bind_some z
  obtain ⟨ds, e2, z⟩ := Option.map_eq_some_iff.mp z
  subst z
  refine one sim e1 fun v H1 F s1 n1 d1 p1 => ?_
  have hF : ∀ a ∈ F, N a ∧ a ∉ W := fun a m => ⟨sim.nw a (n1 a m), fun w => sim.th a w (n1 a m)⟩
  have r := p1.give (S' := SR N W x.al x.vw) (fun a z => z.1) fun a m => ⟨fun _ => (hF a m).1, fun _ => (hF a m).2⟩
  obtain ⟨a, vs, rfl, h1, h2⟩ := seq_rp r e2
  have fin : Made X.K (SR N W x.al x.vw) H1 (.lst ds.reverse, .top) Q := fun u H4 G s4 n4 d4 p4 => q.res (s1.trans s4) (fun a m => s1.free (n4 a m)) d4 (fun a z => z) p4
  exact ⟨a, vs, rfl, h1, fun p np => fin.lst h2.rev p np⟩

/-! ### lists put together -/
def eCat (fa fb : EvE) : EvE := fun ρ => (fa ρ).bind fun x => (fb ρ).bind fun y => match x.d, y.d with
  | .lst xs, .lst ys => if xs.length + ys.length ≤ 1000000 then some (res (x.al || y.al) (x.vw || y.vw) (.lst (xs ++ ys), .top)) else none
  | _, _ => none
/-- + of ints or of lists -/
def ePlus (fa fb : EvE) : EvE := fun ρ => (eAdd fa fb ρ).or (eCat fa fb ρ)
theorem mil {n : Nat} (h : n ≤ 1000000) : n ≤ sizeLine := Nat.le_trans h (by rw [sizeLine_eq]; decide)
theorem e_plus (ha : PEv X e fa) (hb : PEv X e2 fb) : PEv X (.BinOp e .Add e2 pos) (ePlus fa fb) := by
  refine imp_e (pe_op (op_add.or op_cat) ha hb) fun σ H Q ⟨N, H0, ρ, L, W, rr, sim, z, q⟩ => ?_
  unfold ePlus at z
  cases h1 : eAdd fa fb ρ with
  | some k =>
    rw [h1] at z
    cases z
    obtain ⟨x, y, i, j, e1, e2, d1, d2, hc, rfl⟩ := eOp_some h1
    refine two sim e1 e2 fun v w H2 F G s _ _ _ _ _ p1 p2 => ?_
    rw [d1] at p1
    rw [d2] at p2
    obtain ⟨rfl, _⟩ := p1.int_inv
    obtain ⟨rfl, _⟩ := p2.int_inv
    exact .inl ⟨i, j, rfl, rfl, q.int s⟩
  | none =>
    rw [h1] at z
    have z : eCat fa fb ρ = some rr := z
    unfold eCat at z
    obtain ⟨x, e1, z⟩ := bind_some z
    obtain ⟨y, e2, z⟩ := bind_some z
    split at z
    · rename_i xs ys hx hy
      split at z
      · rename_i hl
        cases z
        refine two sim e1 e2 fun v w H2 F G s n1 n2 _ _ _ p1 p2 => ?_
        have hF : ∀ a ∈ F, N a ∧ a ∉ W := fun a m => ⟨sim.nw a (n1 a m), fun w => sim.th a w (n1 a m)⟩
        have hG : ∀ a ∈ G, N a ∧ a ∉ W := fun a m => ⟨sim.nw a (n2 a m), fun w => sim.th a w (n2 a m)⟩
        have r1 := p1.give (S' := SR N W (x.al || y.al) (x.vw || y.vw)) (fun a z => ⟨fun e => z.1.1 (by simp at e; exact e.1), fun e => z.1.2 (by simp at e; exact e.1)⟩) fun a m => ⟨fun _ => (hF a m).1, fun _ => (hF a m).2⟩
        have r2 := p2.give (S' := SR N W (x.al || y.al) (x.vw || y.vw)) (fun a z => ⟨fun e => z.1.1 (by simp at e; exact e.2), fun e m => z.1.2 (by simp at e; exact e.2) (List.mem_append_left _ m)⟩) fun a m => ⟨fun _ => (hG a m).1, fun _ => (hG a m).2⟩
        rw [hx] at r1
        rw [hy] at r2
        obtain ⟨a, vs, rfl, h1, _, h3⟩ := r1.lst_shr
        obtain ⟨b, us, rfl, h4, _, h6⟩ := r2.lst_shr
        have fin : Made X.K (SR N W (x.al || y.al) (x.vw || y.vw)) H2 (.lst (xs ++ ys), .top) Q := fun u H4 G s4 n4 d4 p4 => q.res (s.trans s4) (fun a m => s.free (n4 a m)) d4 (fun a z => z) p4
        exact .inr ⟨a, b, vs, us, rfl, rfl, h1, h4, mil (by rw [h3.len, h6.len]; exact hl), fun p np => fin.lst (h3.app h6) p np⟩
      · cases z
    · cases z

/-! ### range by steps -/
def rngC (lo c : Int) (n : Nat) : List (D × Bool) := (List.range n).map fun (i : Nat) => (D.int (lo + (i : Int) * c), false)
theorem rngC_get {lo c : Int} {n i : Nat} {d : D} {al : Bool} (h : (rngC lo c n)[i]? = some (d, al)) : i < n ∧ d = .int (lo + (i : Int) * c) ∧ al = false := by
  unfold rngC at h
  rw [List.getElem?_map] at h
  obtain ⟨j, e1, e2⟩ := Option.map_eq_some_iff.mp h
  obtain ⟨h1, h2⟩ := List.getElem?_eq_some_iff.mp e1
  rw [List.getElem_range] at h2
  subst h2
  cases e2
  exact ⟨by simpa using h1, rfl, rfl⟩
theorem yld_rngC {K : PySem.W.Frag} {N : Addr → Prop} {W : List Addr} {H1 : Hp} {lo c : Int} {n : Nat} : Yld K N W H1 (Itc lo c n) (rngC lo c n) where
  go := fun i d al H2 e k => (rngC_get e).1
  yld := fun i d al H2 x H3 e k y => by
    obtain ⟨h1, rfl, rfl⟩ := rngC_get e
    obtain ⟨e1, e2⟩ := y
    subst e1 e2
    exact ⟨Same.refl _, .int⟩
  stop := fun H2 k => by
    show n ≤ (rngC lo c n).length
    unfold rngC
    rw [List.length_map, List.length_range]
    exact Nat.le_refl _
/-- range(0, n, 2), n small -/
def iRangeC (ga : EvA) : EvI := fun ρ => (ga ρ).bind fun (rs : List Rv) => match (rs.map Rv.d : List D) with
  | [.int 0, .int j, .int 2] => if 0 ≤ j ∧ j < 1000000 then some (rngC 0 2 ((j.toNat + 1) / 2)) else none
  | _ => none
theorem rgc2 {j : Int} (h0 : 0 ≤ j) (h1 : j < 1000000) : RgC 0 j 2 ((j.toNat + 1) / 2) := by
  refine ⟨by decide, by decide, ?_, ?_⟩
  · unfold Builtin.Range.small Builtin.Range.rangeSize
    simp only [Builtin.Range.rangeFitsLong, Bool.and_eq_true, Bool.or_eq_true, decide_eq_true_eq, beq_iff_eq, show (2 : Int) > 0 by decide, if_true]
    split <;> omega
  · unfold Builtin.Range.rangeSize
    rw [if_pos (by decide)]
    split <;> omega
theorem i_range3 {tg a b c : Expr} (hm : X.mg "range" = none) (ha : PAv X [a, b, c] ga) (hl : ∀ ρ rs, ga ρ = some rs → rs.length = 3) (hg : Gl X "range" := by rfl) (hs : starEach [a, b, c] X.env = (false, eval a X.env) :: starEach [b, c] X.env := by rfl) (hpl : (backTo pos (starEach [b, c] X.env)).any (·.1) = false := by rfl) :
    PIv X tg (.Call (.Name "range" p) [a, b, c] [] pos) (iRangeC ga) := by
  refine imp_i (pi_range3 hg hm ha hs hpl) fun σ H R ⟨N, H0, ρ, L, W, items, sim, z, q⟩ => ?_
  unfold iRangeC at z
  obtain ⟨rs, e1, z⟩ := bind_some z
  refine ⟨N, H0, ρ, L, W, rs, sim, e1, fun vs H1 T s1 n1 d1 p1 => ?_⟩
  split at z
  · rename_i j hd
    split at z
    · rename_i hc
      cases z
      have := p1.ints (ns := [0, j, 2]) hd
      subst this
      exact ⟨0, j, 2, _, rfl, rgc2 hc.1 hc.2, q _ H1 s1 yld_rngC⟩
    · cases z
  · cases z

/-! ### enumerate, zip -/
def numbered (al : Bool) : Nat → List D → List (D × Bool)
  | _, [] => []
  | k, d :: ds => (.tup [.int (k : Nat), d], al) :: numbered al (k + 1) ds
theorem numbered_get {al : Bool} : ∀ {ds : List D} {k i : Nat} {d : D} {al' : Bool}, (numbered al k ds)[i]? = some (d, al') → ∃ x, ds[i]? = some x ∧ d = .tup [.int ((k + i : Nat)), x] ∧ al' = al
  | [], _, _, _, _, h => by simp [numbered] at h
  | x :: ds, k, 0, d, al', h => by
    simp [numbered] at h
    exact ⟨x, rfl, h.1.symm, h.2.symm⟩
  | x :: ds, k, i + 1, d, al', h => by
    obtain ⟨y, e1, e2, e3⟩ := numbered_get (ds := ds) (k := k + 1) (i := i) (by simpa [numbered] using h)
    exact ⟨y, by simpa using e1, by rw [e2]; congr 3; omega, e3⟩
theorem numbered_len {al : Bool} : ∀ (ds : List D) (k : Nat), (numbered al k ds).length = ds.length
  | [], _ => rfl
  | x :: ds, k => by show (numbered al (k + 1) ds).length + 1 = _; rw [numbered_len ds (k + 1)]; rfl
def iEnumV (ga : EvA) : EvI := fun ρ => (ga ρ).bind fun (rs : List Rv) => match rs with
  | [x] => if x.vw = true then none else (seqOf x.d).map (numbered x.al 0)
  | _ => none
theorem Rps.at_ {K : PySem.W.Frag} {S : Addr → Prop} {H : Hp} {vs : List V} {ds : List D} {i : Nat} {d : D} (r : Rps K S H .shr vs ds []) (h : ds[i]? = some d) : ∃ v, vs[i]? = some v ∧ Rp K S H .shr v d [] := by
  obtain ⟨v, G, e, rp, sub⟩ := r.get h
  have hG : G = [] := rp.shr0
  subst hG
  exact ⟨v, e, rp⟩
/-- a list that stays, whatever is done to what is ours -/
theorem seq_stays {K : PySem.W.Frag} {N : Addr → Prop} {W : List Addr} {H1 : Hp} {v : V} {d : D} {ds : List D} {al : Bool} (hm : ∀ b ∈ W, Mut (H1 b)) (r : Rp K (SR N W al false) H1 .shr v d []) (h : seqOf d = some ds) : ∃ a vs, v = .ref a ∧ (∀ H2, Kept H1 W H2 → SqL K H2 a vs) ∧ Rps K (SR N W al false) H1 .shr vs ds [] := by
  cases d with
  | lst xs =>
    cases h
    obtain ⟨a, vs, rfl, h1, h2, h3⟩ := r.lst_shr
    exact ⟨a, vs, rfl, fun H2 k => SqL.of (k _ _ h1 (h2.2 rfl)), h3⟩
  | fl xs =>
    cases h
    obtain ⟨a, vs, rfl, h1, h3, _⟩ := r.fl_inv
    refine ⟨a, vs, rfl, fun H2 k => ?_, h3⟩
    rcases h1 with ⟨o, h1⟩ | h1
    · refine .inl (.inr ⟨o, k _ _ h1 fun w => ?_⟩)
      have := hm a w
      rw [h1] at this
      exact this
    · exact .inr h1
  | _ => cases h
theorem item_stays {K : PySem.W.Frag} {N : Addr → Prop} {W : List Addr} {H1 H2 : Hp} {v : V} {d : D} {al : Bool} (hm : ∀ b ∈ W, Mut (H1 b)) (rp : Rp K (SR N W al false) H1 .shr v d []) (k : Kept H1 W H2) : Rp K (fun a => SR N W al false a ∧ H1 a ≠ none) H2 .shr v d [] := by
  have z := (rp.trk.mono (S' := fun a => ((al = false → N a) ∧ H1 a ≠ none) ∧ a ∉ W) fun a z => ⟨⟨z.1.1, z.2⟩, z.1.2 rfl⟩).kept hm k
  exact z.mono fun a z => ⟨⟨z.1.1, fun _ => z.2⟩, z.1.2⟩
theorem i_enum {tpos : Pos} {elts : List Expr} {kk : Nat} (hm : X.mg "enumerate" = none) (ha : PAv X [e] ga) (hg : Gl X "enumerate" := by rfl) (hs : starEach [e] X.env = [(false, eval e X.env)] := by rfl) : PIv X (.Tuple elts kk tpos) (.Call (.Name "enumerate" p) [e] [] pos) (iEnumV ga) := by
  refine imp_i (pi_enum hg hm ha hs) fun σ H R ⟨N, H0, ρ, L, W, items, sim, z, q⟩ => ?_
  unfold iEnumV at z
  obtain ⟨rs, e1, z⟩ := bind_some z
  split at z
  · rename_i x
    split at z
    · cases z
    · rename_i hv
      have hv : x.vw = false := by simpa using hv
      obtain ⟨ds, e2, z⟩ := Option.map_eq_some_iff.mp z
      subst z
      refine arg1 sim e1 fun v H1 F s1 n1 d1 p1 => ?_
      have hF : ∀ a ∈ F, N a ∧ a ∉ W := fun a m => ⟨sim.nw a (n1 a m), fun w => sim.th a w (n1 a m)⟩
      have muW : ∀ b ∈ W, Mut (H1 b) := fun b z => mut_same (sim.mu b z) s1
      have r := p1.give (S' := SR N W x.al false) (fun a z => ⟨z.1.1, fun _ => z.1.2 hv⟩) fun a m => ⟨fun _ => (hF a m).1, fun _ => (hF a m).2⟩
      obtain ⟨a, vs, rfl, hst, h2⟩ := seq_stays muW r e2
      refine ⟨a, vs, rfl, hst H1 fun _ _ e _ => e, q _ H1 s1 ⟨fun i d al H2 ei k => ?_, fun i d al H2 y H3 ei k hy => ?_, fun H2 k => ?_⟩⟩
      · obtain ⟨u, e3, _, _⟩ := numbered_get ei
        obtain ⟨w, e4, _⟩ := h2.at_ e3
        exact ⟨vs, w, hst H2 k, e4⟩
      · obtain ⟨u, e3, rfl, rfl⟩ := numbered_get ei
        obtain ⟨w, e4, rp⟩ := h2.at_ e3
        obtain ⟨T, w', rfl, nT, rfl, hw⟩ := hy
        have := hw vs (hst H2 k)
        rw [e4] at this
        cases this
        refine ⟨same_upd nT, .tup upd_same ?_⟩
        have z := item_stays muW rp k
        refine Rps.cons (F := []) (G := []) (by rw [Nat.zero_add]; exact .int) (Rps.cons (F := []) (G := []) (z.same (same_upd nT)) .nil)
      · exact ⟨vs, hst H2 k, by rw [numbered_len, h2.len]; exact Nat.le_refl _⟩
  · cases z
def zipD (al : Bool) : List D → List D → List (D × Bool)
  | x :: xs, y :: ys => (.tup [x, y], al) :: zipD al xs ys
  | _, _ => []
theorem zipD_get {al : Bool} : ∀ {xs ys : List D} {i : Nat} {d : D} {al' : Bool}, (zipD al xs ys)[i]? = some (d, al') → ∃ x y, xs[i]? = some x ∧ ys[i]? = some y ∧ d = .tup [x, y] ∧ al' = al
  | [], _, _, _, _, h => by simp [zipD] at h
  | _ :: _, [], _, _, _, h => by simp [zipD] at h
  | x :: xs, y :: ys, 0, d, al', h => by
    simp [zipD] at h
    exact ⟨x, y, rfl, rfl, h.1.symm, h.2.symm⟩
  | x :: xs, y :: ys, i + 1, d, al', h => by
    obtain ⟨u, v, h1, h2, h3⟩ := zipD_get (xs := xs) (ys := ys) (i := i) (by simpa [zipD] using h)
    exact ⟨u, v, by simpa using h1, by simpa using h2, h3⟩
theorem zipD_len {al : Bool} : ∀ (xs ys : List D), (zipD al xs ys).length = min xs.length ys.length
  | [], _ => by simp [zipD]
  | _ :: _, [] => by simp [zipD]
  | x :: xs, y :: ys => by show (zipD al xs ys).length + 1 = _; rw [zipD_len xs ys, List.length_cons, List.length_cons]; omega
def iZipV (ga : EvA) : EvI := fun ρ => (ga ρ).bind fun (rs : List Rv) => match rs with
  | [x, y] => if (x.vw || y.vw) = true then none else (seqOf x.d).bind fun xs => (seqOf y.d).map fun ys => zipD (x.al || y.al) xs ys
  | _ => none
theorem i_zip {tpos : Pos} {elts : List Expr} {kk : Nat} (hm : X.mg "zip" = none) (ha : PAv X [e, e2] ga) (hg : Gl X "zip" := by rfl) (hs : starEach [e, e2] X.env = (false, eval e X.env) :: starEach [e2] X.env := by rfl) (hpl : (backTo pos (starEach [e2] X.env)).any (·.1) = false := by rfl) : PIv X (.Tuple elts kk tpos) (.Call (.Name "zip" p) [e, e2] [] pos) (iZipV ga) := by
  refine imp_i (pi_zip hg hm ha hs hpl) fun σ H R ⟨N, H0, ρ, L, W, items, sim, z, q⟩ => ?_
  unfold iZipV at z
  obtain ⟨rs, e1, z⟩ := bind_some z
  split at z
  · rename_i x y
    split at z
    · cases z
    · rename_i hv
      have hv : x.vw = false ∧ y.vw = false := by simpa using hv
      obtain ⟨xs, e2, z⟩ := bind_some z
      obtain ⟨ys, e3, z⟩ := Option.map_eq_some_iff.mp z
      subst z
      refine ⟨N, H0, ρ, L, W, [x, y], sim, e1, fun us H1 T s1 n1 d1 p1 => ?_⟩
      have hT : ∀ a ∈ T, N a ∧ a ∉ W := fun a m => ⟨sim.nw a (n1 a m), fun w => sim.th a w (n1 a m)⟩
      have muW : ∀ b ∈ W, Mut (H1 b) := fun b z => mut_same (sim.mu b z) s1
      have r := p1.give (al := x.al || y.al) hT (fun _ m => m) (by simp [hv.1, hv.2]) (fun r hr h => by
        rcases List.mem_cons.mp hr with e | hr
        · rw [← e, h]; rfl
        · rw [← List.mem_singleton.mp hr, h]; simp)
      obtain ⟨v, w, rfl, r1, r2⟩ := Rps.inv2 r
      obtain ⟨a, vs, rfl, hs1, h2⟩ := seq_stays muW r1 e2
      obtain ⟨b, ws, rfl, hs2, h3⟩ := seq_stays muW r2 e3
      refine ⟨a, b, vs, ws, rfl, hs1 H1 fun _ _ e _ => e, hs2 H1 fun _ _ e _ => e, q _ H1 s1 ⟨fun i d al H2 ei k => ?_, fun i d al H2 y H3 ei k hy => ?_, fun H2 k => ?_⟩⟩
      · obtain ⟨u, u', e4, e5, _⟩ := zipD_get ei
        obtain ⟨p1, q1, _⟩ := h2.at_ e4
        obtain ⟨p2, q2, _⟩ := h3.at_ e5
        exact ⟨vs, ws, p1, p2, hs1 H2 k, hs2 H2 k, q1, q2⟩
      · obtain ⟨u, u', e4, e5, rfl, rfl⟩ := zipD_get ei
        obtain ⟨p1, q1, rp1⟩ := h2.at_ e4
        obtain ⟨p2, q2, rp2⟩ := h3.at_ e5
        obtain ⟨T, x', y', rfl, nT, rfl, hw1, hw2⟩ := hy
        have := hw1 vs (hs1 H2 k)
        rw [q1] at this
        cases this
        have := hw2 ws (hs2 H2 k)
        rw [q2] at this
        cases this
        refine ⟨same_upd nT, .tup upd_same ?_⟩
        exact Rps.cons (F := []) (G := []) ((item_stays muW rp1 k).same (same_upd nT)) (Rps.cons (F := []) (G := []) ((item_stays muW rp2 k).same (same_upd nT)) .nil)
      · refine ⟨vs, ws, hs1 H2 k, hs2 H2 k, ?_⟩
        rw [zipD_len, h2.len, h3.len]
        omega
  · cases z
end
/-! ### what is ours alone is changed -/
section
variable {K : PySem.W.Frag} {N : Addr → Prop} {H0 H H1 : Hp} {ρ : Env} {σ : St} {L : List Addr}
theorem Sim.mut {i : Nat} {s : Sv} (sim : Sim K N H0 ρ σ H L) (e : ρ[i]? = some (some s)) :
    ∃ v G, σ[i]? = some (some v) ∧ Rp K (SR N L s.al false) H s.l v s.d G ∧ G.Nodup ∧ (∀ b ∈ G, b ∈ L) ∧
      ∀ {H1 : Hp} {a : Addr} {o : HO} {s' : Sv} {G' T : List Addr}, Same H H1 → a ∈ G → Mut (some o) → (∀ b ∈ T, H b = none ∧ Mut (upd H1 a o b)) → (∀ b ∈ G', b ∈ G ∨ b ∈ T) → G'.Nodup →
        Rp K (fun b => (s'.al = false → N b) ∧ (b ∉ L ∨ b ∈ G) ∧ b ∉ T ∧ b ∉ G' ) (upd H1 a o) s'.l v s'.d G' →
        ∃ L', Sim K N H0 (ρ.set i (some s')) σ (upd H1 a o) L' ∧ Frm H L (upd H1 a o) L' := by
  obtain ⟨F1, G, F2, eL, get, p⟩ := sim.sl.at_ (List.getElem?_eq_some_iff.mp e).1
  obtain ⟨v, ev, rp⟩ := get s e
  have hnd := sim.nd
  rw [eL] at hnd
  have hG : ∀ b ∈ G, b ∈ L := fun b z => by rw [eL]; simp [z]
  have hnd' := hnd
  rw [List.nodup_append, List.nodup_append] at hnd
  obtain ⟨n1, ⟨n2, n3, n4⟩, n5⟩ := hnd
  have out : ∀ b ∈ G, b ∉ F1 ++ F2 := fun b hb z => by
    rcases List.mem_append.mp z with z | z
    · exact n5 b z b (by simp [hb]) rfl
    · exact n4 b hb b z rfl
  refine ⟨v, G, ev, rp, n2, hG, fun {H1 a o s' G' T} sm ha m hT hG' nG' rp' => ?_⟩
  have haL := hG a ha
  have tr : H a ≠ none := sim.th a haL
  have sub : ∀ b, b ∈ F1 ++ (G' ++ F2) → b ∈ L ∨ H b = none := fun b z => by
    rw [eL]
    rcases List.mem_append.mp z with z | z
    · simp [z]
    · rcases List.mem_append.mp z with z | z
      · exact (hG' b z).elim (fun y => by simp [y]) fun y => .inr (hT b y).1
      · simp [z]
  have neq : ∀ b, b ∉ L → b ≠ a := fun b z y => z (y ▸ haL)
  have kp : ∀ al, Keeps (SR N L al false) (F1 ++ F2) H (upd H1 a o) := fun al b u eb q => by
    have : b ≠ a := fun y => by
      subst y
      rcases q with q | q | ⟨xs, rfl⟩ | ⟨o', u', rfl⟩
      · exact q.2 rfl haL
      · exact out b ha q
      · have := sim.mu b haL; rw [eb] at this; exact this
      · have := sim.mu b haL; rw [eb] at this; exact this
    rw [upd_ne this]
    exact sm b u eb
  have z := p (L1 := F1 ++ (G' ++ F2)) (H1 := upd H1 a o) (v := v) (s := s') (G' := G') kp (fun b z t w => (sub b w).elim z t) (rp'.mono fun b z => ⟨z.1, fun _ w => by
    rcases List.mem_append.mp w with w | w
    · rcases z.2.1 with y | y
      · exact y (by rw [eL]; simp [w])
      · exact out b y (by simp [w])
    · rcases List.mem_append.mp w with w | w
      · exact z.2.2.2 w
      · rcases z.2.1 with y | y
        · exact y (by rw [eL]; simp [w])
        · exact out b y (by simp [w])⟩)
  have eσ : σ.set i (some v) = σ := by
    obtain ⟨h1, h2⟩ := List.getElem?_eq_some_iff.mp ev
    rw [← h2, List.set_getElem_self]
  rw [eσ] at z
  refine ⟨F1 ++ (G' ++ F2), ⟨fun b u eb n => ?_, fun b eb => ?_, ?_, fun b w => ?_, fun b w => ?_, z⟩, ⟨fun b u eb n => ?_, fun b eb => ?_, sub⟩⟩
  · rw [upd_ne (fun y => n (by rw [y]; exact sim.ln a haL))]
    exact sm b u (sim.kp b u eb n)
  · by_cases y : b = a
    · rw [y]; exact sim.ln a haL
    · rw [upd_ne y] at eb; exact sim.nw b (sm.free eb)
  · rw [List.nodup_append, List.nodup_append]
    have inL : ∀ b, b ∈ F1 ∨ b ∈ F2 → H b ≠ none := fun b z => sim.th b (by rw [eL]; rcases z with z | z <;> simp [z])
    refine ⟨n1, ⟨nG', n3, fun b hb c hc y => ?_⟩, fun b hb c hc y => ?_⟩
    · subst y
      exact (hG' b hb).elim (fun y => out b y (by simp [hc])) fun y => inL b (.inr hc) (hT b y).1
    · subst y
      rcases List.mem_append.mp hc with hc | hc
      · exact (hG' b hc).elim (fun y => out b y (by simp [hb])) fun y => inL b (.inl hb) (hT b y).1
      · exact n5 b hb b (by simp [hc]) rfl
  · exact (sub b w).elim (sim.ln b) (sim.nw b)
  · by_cases y : b = a
    · rw [y, upd_same]; exact m
    · rw [upd_ne y]
      rcases List.mem_append.mp w with w | w
      · exact mut_same (sim.mu b (by rw [eL]; simp [w])) sm
      · rcases List.mem_append.mp w with w | w
        · rcases hG' b w with w | w
          · exact mut_same (sim.mu b (hG b w)) sm
          · have := (hT b w).2
            rw [upd_ne y] at this
            exact this
        · exact mut_same (sim.mu b (by rw [eL]; simp [w])) sm
  · rw [upd_ne (neq b n)]; exact sm b u eb
  · by_cases y : b = a
    · rw [y, upd_same] at eb; cases eb
    · rw [upd_ne y] at eb; exact sm.free eb
end
end Ev

set_option Elab.async false
set_option linter.all false
set_option maxRecDepth 100000
/-! A name's list changed: append, insert, extend. -/
namespace Ev
open PySem PySem.Spec L2
open PyProof.Rows hiding St

/-- a list's new items: as much ours as before, or the list alone -/
def keepLv (l l' : Lv) : Lv := if l = .full ∧ l' = .full then .full else .top
section
variable {K : PySem.W.Frag} {N : Addr → Prop} {H0 H H1 : Hp} {ρ : Env} {σ : St} {L : List Addr}
/-- the list at slot i gets the items ws (es): old ones and those of a row of values -/
theorem Sim.relist {i : Nat} {sl : Lv} {sa : Bool} {ds : List D} (sim : Sim K N H0 ρ σ H L) (e : ρ[i]? = some (some ⟨.lst ds, sl, sa⟩)) (hl : sl ≠ .shr) :
    ∃ a vs, σ[i]? = some (some (.ref a)) ∧ H a = some (.lst vs) ∧ vs.length = ds.length ∧
      ∀ {H1 : Hp} {us : List V} {rs : List Rv} {T : List Addr} {ws : List V} {es : List D} (pick : ∀ {S : Addr → Prop} {l : Lv} {F G : List Addr}, Rps K S H1 l vs ds F → Rps K S H1 l us (rs.map (·.d)) G → (F ++ G).Nodup → ∃ F', Rps K S H1 l ws es F' ∧ (∀ b ∈ F', b ∈ F ++ G) ∧ F'.Nodup),
        Same H H1 → (∀ b ∈ T, H b = none) → T.Nodup → RpL K N L T H1 us rs T → rs.all (fun r => !r.vw) = true →
        ∃ L', Sim K N H0 (ρ.set i (some ⟨.lst es, keepLv sl (if rs.all (fun r => !r.vw && decide (r.l = .full)) = true then .full else .top), sa || rs.any (·.al)⟩)) σ (upd H1 a (.lst ws)) L' ∧ Frm H L (upd H1 a (.lst ws)) L' := by
  obtain ⟨v, G, ev, rp, nG, hG, go⟩ := sim.mut e
  cases rp with
  | nd1 h0 hn ha r =>
    rename_i a o vs ds' F
    cases hn
    refine ⟨a, _, ev, ha, r.len, fun {H1 us rs T ws es} pick sm nT dT rl hvw => ?_⟩
    have hN : ∀ b ∈ a :: F, N b := fun b z => sim.ln b (hG b z)
    have aT : a ∉ T := fun z => by have := nT a z; rw [ha] at this; cases this
    have nFd := List.nodup_cons.mp nG
    have Tout : ∀ b ∈ T, b ∉ L := fun b z w => sim.th b w (nT b z)
    have trT : ∀ b ∈ T, Mut (H1 b) := by
      have : ∀ {vs : List V} {rs : List Rv} {F : List Addr}, RpL K N L T H1 vs rs F → ∀ a ∈ F, Mut (H1 a) := by
        intro vs rs F h
        induction h with
        | nil => exact fun _ z => nomatch z
        | cons h1 h2 ih => exact fun a z => (List.mem_append.mp z).elim (h1.own_mut a) (ih a)
      exact this rl
    have updH : ∀ {S : Addr → Prop} {l : Lv} {ws : List V} {es : List D} {F' : List Addr}, Rps K S H1 l ws es F' → (∀ b, S b → b ≠ a) → a ∉ F' → Rps K S (upd H1 a (.lst ws)) l ws es F' := fun r hS hF => r.keep fun b u eb q => by
      have : b ≠ a := fun y => by
        subst y
        have e1 := sm _ _ ha
        rcases q with q | q | ⟨xs, rfl⟩ | ⟨o', u', rfl⟩
        · exact hS _ q rfl
        · exact hF q
        · rw [e1] at eb; cases eb
        · rw [e1] at eb; cases eb
      rw [upd_ne this]
      exact eb
    by_cases hk : sl = .full ∧ rs.all (fun r => !r.vw && decide (r.l = .full)) = true
    · have hk2 : keepLv sl (if rs.all (fun r => !r.vw && decide (r.l = .full)) = true then .full else .top) = .full := by
        unfold keepLv
        rw [if_pos ⟨hk.1, if_pos hk.2⟩]
      rw [hk2]
      rw [hk.1] at r
      have r1 : Rps K (fun b => ((sa || rs.any (·.al)) = false → N b) ∧ (b ∉ L ∨ b ∈ a :: F) ∧ b ∉ T ∧ b ∉ a :: F) H1 .full _ ds F := ((r.trk.same sm).mono fun b z => ⟨fun e => z.1.1 (by simp at e; exact e.1), .inl (z.1.2 rfl), fun w => z.2 (nT b w), fun w => z.1.2 rfl (hG b w)⟩)
      have r2 : Rps K (fun b => ((sa || rs.any (·.al)) = false → N b) ∧ (b ∉ L ∨ b ∈ a :: F) ∧ b ∉ T ∧ b ∉ a :: F) H1 .full us (rs.map (·.d)) T := (rl.full (al := rs.any (·.al)) hk.2 al_any).mono fun b z => ⟨fun e => z.1.1 (by simp only [Bool.or_eq_false_iff] at e; exact e.2), .inl (z.1.2 rfl), z.2, fun w => z.1.2 rfl (hG b w)⟩
      have dFT : (F ++ T).Nodup := by
        rw [List.nodup_append]
        exact ⟨nFd.2, dT, fun b hb c hc y => Tout c hc (y ▸ hG b (List.mem_cons_of_mem _ hb))⟩
      obtain ⟨F', r3, sub, nF'⟩ := pick r1 r2 dFT
      have aF' : a ∉ F' := fun z => (List.mem_append.mp (sub a z)).elim nFd.1 aT
      exact go (G' := a :: F') (T := T) sm List.mem_cons_self trivial (fun b z => ⟨nT b z, by rw [upd_ne (fun y => aT (by rw [← y]; exact z))]; exact trT b z⟩) (fun b z => (List.mem_cons.mp z).elim (fun y => .inl (by rw [y]; exact List.mem_cons_self)) fun z => (List.mem_append.mp (sub b z)).imp (List.mem_cons_of_mem _) id) (List.nodup_cons.mpr ⟨aF', nF'⟩)
        (.nd1 (fun z => nomatch z) .lst upd_same ((updH r3 (fun b z y => z.2.2.2 (by rw [y]; exact List.mem_cons_self)) aF').mono fun b z => ⟨z.1, z.2.1, z.2.2.1, fun w => (List.mem_cons.mp w).elim (fun y => z.2.2.2 (by rw [y]; exact List.mem_cons_self)) fun w => (List.mem_append.mp (sub b w)).elim (fun w => z.2.2.2 (List.mem_cons_of_mem _ w)) z.2.2.1⟩))
    · have hk2 : keepLv sl (if rs.all (fun r => !r.vw && decide (r.l = .full)) = true then .full else .top) = .top := by
        unfold keepLv
        refine if_neg fun z => hk ⟨z.1, ?_⟩
        by_cases q : rs.all (fun r => !r.vw && decide (r.l = .full)) = true
        · exact q
        · rw [if_neg q] at z; exact absurd z.2 (fun z => nomatch z)
      rw [hk2]
      have r1 : Rps K (fun b => ((sa || rs.any (·.al)) = false → N b) ∧ (b ∉ L ∨ b ∈ a :: F) ∧ b ≠ a) H1 .shr _ ds [] := (r.trk.same sm).give (fun b z => ⟨fun e => z.1.1 (by simp at e; exact e.1), .inl (z.1.2 rfl), fun y => z.1.2 rfl (by rw [y]; exact hG a List.mem_cons_self)⟩) fun b z => ⟨fun _ => hN b (List.mem_cons_of_mem _ z), .inr (List.mem_cons_of_mem _ z), fun y => nFd.1 (y ▸ z)⟩
      have r2 : Rps K (fun b => ((sa || rs.any (·.al)) = false → N b) ∧ (b ∉ L ∨ b ∈ a :: F) ∧ b ≠ a) H1 .shr us (rs.map (·.d)) [] := (rl.give (al := rs.any (·.al)) (fun b z => ⟨sim.nw b (nT b z), Tout b z⟩) (fun _ z => z) hvw al_any).mono fun b z => ⟨fun e => z.1 (by simp only [Bool.or_eq_false_iff] at e; exact e.2), .inl (z.2 rfl), fun y => z.2 rfl (by rw [y]; exact hG a List.mem_cons_self)⟩
      obtain ⟨F', r3, sub, nF'⟩ := pick r1 r2 .nil
      have e3 := r3.shr0
      subst e3
      exact go (G' := [a]) (T := []) sm List.mem_cons_self trivial (fun _ z => nomatch z) (fun b z => .inl (by rw [List.mem_singleton.mp z]; exact List.mem_cons_self)) nodup1
        (.nd1 (fun z => nomatch z) .lst upd_same ((updH r3 (fun b z y => z.2.2 y) (fun z => nomatch z)).mono fun b z => ⟨z.1, z.2.1, (fun w => nomatch w), fun w => z.2.2 (List.mem_singleton.mp w)⟩))
  | nd0 hn h1 h2 h3 => exact absurd rfl hl
end
/-- what a list's method makes of it, by its arguments -/
abbrev LOp := ∀ {α : Type}, (α → Option Int) → List α → List α → Option (List α)
def sLop (f : LOp) (fz : List Nat) (i : Nat) (ga : EvA) : EvS := fun ρ => match (frzs fz ρ)[i]? with
  | some (some s) => match s.d with
    | .lst ds => if decide (s.l = .shr) || decide (1000000 < ds.length) then none else (ga (frzs fz ρ)).bind fun rs => if rs.all (fun r => !r.vw) = true then (f intOf ds (rs.map (·.d))).map fun es => .nx ((frzs fz ρ).set i (some ⟨.lst es, keepLv s.l (if rs.all (fun r => !r.vw && decide (r.l = .full)) = true then .full else .top), s.al || rs.any (·.al)⟩)) else none
    | _ => none
  | _ => none
def intV : V → Option Int
  | .int i => some i
  | _ => none
theorem intV_rp {K : PySem.W.Frag} {S : Addr → Prop} {H : Hp} {l : Lv} {v : V} {d : D} {F : List Addr} (r : Rp K S H l v d F) : intV v = intOf d := by
  cases r with
  | nd0 h => cases h <;> rfl
  | nd1 _ h => cases h <;> rfl
  | _ => rfl
/-- the list method's rule over values -/
structure LopOk (X : Cx) (id : String) (f : LOp) : Prop where
  ok : ∃ r : V → List V → Hp → VK → Prop, MtR X id r ∧ ∀ (H : Hp) (a : Addr) (vs us ws : List V) (Q : VK), H a = some (.lst vs) → vs.length ≤ 1000000 → f intV vs us = some ws → Q .non (upd H a (.lst ws)) → r (.ref a) us H Q
  pick : ∀ {K : PySem.W.Frag} {S : Addr → Prop} {H : Hp} {l : Lv} {vs us : List V} {ds es zs : List D} {F G : List Addr}, Rps K S H l vs ds F → Rps K S H l us es G → (F ++ G).Nodup → f intOf ds es = some zs → ∃ ws F', f intV vs us = some ws ∧ Rps K S H l ws zs F' ∧ (∀ b ∈ F', b ∈ F ++ G) ∧ F'.Nodup
section
variable {X : Cx} {e o : Expr} {es : List Expr} {ga : EvA} {fe fa fb : EvE} {pos apos cpos npos : Pos} {x m : Str} {id : String} {f : LOp}
theorem s_lop (fz : List Nat) (i : Nat) (hf : LopOk X id f) (slot : Slot "list" m id) (hty : typeOf (.builtin id) = pure (.type "method_descriptor")) (ha : PAv X (e :: es) ga)
    (hN : X.N[i]? = some x := by rfl) (hv : Vis X.env.scope x := by first | exact Or.inl rfl | exact Or.inr (Or.inl rfl) | exact Or.inr (Or.inr rfl)) (hd : (x == ("__debug__" : Str)) = false := by decide) (hcd : (x == ("__classdict__" : Str)) = false := by decide)
    (hsw : swapsWith (.Call (.Attribute (.Name x npos) m apos) (e :: es) [] cpos) none pos.line X.env = pure false := by rfl)
    (hbase : attributeBase (.Name x npos) m X.env (eval (.Name x npos) X.env) = eval (.Name x npos) X.env := by rfl)
    (hfew : ((backTo cpos (starEach (e :: es) X.env)).all (fun x => !x.1) && (backToKw cpos (keywordEach [] X.env)).all (fun x => x.1.isSome)
      && decide ((e :: es).length + ([] : List Keyword).length + (if ([] : List Keyword).isEmpty then 0 else 1) < 30)) = true := by rfl)
    (hline : (apos.endLine == cpos.line) = true := by rfl) (hs : starEach (e :: es) X.env = (false, eval e X.env) :: starEach es X.env := by rfl) (hplain : (backTo cpos (starEach es X.env)).any (·.1) = false := by rfl) :
    PSv X (.Expr (.Call (.Attribute (.Name x npos) m apos) (e :: es) [] cpos) pos) (sLop f fz i ga) := by
  obtain ⟨r, hm, hr⟩ := hf.ok
  refine imp_s (ps_expr (pe_bm PySem.F.plainAttrs_list slot hty hm (pe_var hN hv hd hcd) ha hbase hfew hline hs hplain) hsw) fun D σ H ⟨N, H0, ρ, L0, o, sim0, z, q0⟩ => ?_
  unfold sLop at z
  obtain ⟨L, sim, subL⟩ := sim0.frzs fz
  have q := q0.at_ (H1 := H) (L1 := L) ⟨fun _ _ e _ => e, fun _ e => e, fun b z => .inl (subL b z)⟩
  split at z
  · rename_i s es
    split at z
    · rename_i ds hd
      split at z
      · cases z
      · rename_i hc
        obtain ⟨sd, sl, sa⟩ := s
        cases hd
        simp only [Bool.or_eq_true, decide_eq_true_eq, not_or, Nat.not_lt] at hc
        obtain ⟨rs, e1, z⟩ := bind_some z
        split at z
        · rename_i hvw
          obtain ⟨zs, e2, z⟩ := Option.map_eq_some_iff.mp z
          subst z
          obtain ⟨a, vs, ev, ha', hlen, go⟩ := sim.relist es hc.1
          refine ⟨.ref a, ev, .inl ⟨rfl, vs, SqL.of ha'⟩, N, H0, _, L, L, rs, sim.h, e1, fun us H1 T s1 n1 d1 p1 => ?_⟩
          obtain ⟨v, G, ev', rp, _⟩ := sim.sl.get es
          rw [ev] at ev'
          cases ev'
          obtain ⟨a', vs', G1, e3, h1, r1, _⟩ := rp.lst_inv
          cases e3
          rw [ha'] at h1
          cases h1
          have look1 := (r1.same s1).give (S' := fun _ => True) (fun _ _ => trivial) fun _ _ => trivial
          obtain ⟨ws, _, ew, _⟩ := hf.pick look1 p1.look .nil e2
          refine hr H1 a _ us ws _ (s1 a _ ha') (by rw [hlen]; exact hc.2) ew ?_
          obtain ⟨L', sim', fr⟩ := go (ws := ws) (es := zs) (fun q1 q2 q3 => by
            obtain ⟨ws', F', e4, r4, sub, nd⟩ := hf.pick q1 q2 q3 e2
            rw [ew] at e4
            cases e4
            exact ⟨F', r4, sub, nd⟩) s1 n1 d1 p1 hvw
          exact q _ _ L' sim' fr
        · cases z
    · cases z
  · cases z
/-- xs.append(y) -/
def oApp : LOp := fun _ xs ys => match ys with
  | [y] => some (xs ++ [y])
  | _ => none
theorem mem_nodup {F G : List Addr} (h : (F ++ G).Nodup) : (∀ b ∈ F ++ G, b ∈ F ++ G) ∧ (F ++ G).Nodup := ⟨fun _ z => z, h⟩
theorem l_app : LopOk X "list.append" oApp where
  ok := ⟨_, mt_append, fun H a vs us ws Q h1 h2 h3 q => by
    unfold oApp at h3
    split at h3
    · cases h3
      exact ⟨a, vs, _, rfl, rfl, h1, Nat.lt_of_le_of_lt h2 (by rw [sizeLine_eq]; decide), q⟩
    · cases h3⟩
  pick := fun {K S H l vs us ds es zs F G} r1 r2 nd e => by
    unfold oApp at e
    split at e
    · rename_i y
      cases e
      cases r2 with
      | cons h1 h2 =>
        cases h2
        exact ⟨_, _, rfl, r1.app (.cons h1 .nil), fun _ z => z, nd⟩
    · cases e
/-- xs.insert(i, y), i in bounds -/
def oIns : LOp := fun g xs ys => match ys with
  | [i, y] => (g i).bind fun k => if 0 ≤ k ∧ k < 1000000 then some (xs.take k.toNat ++ [y] ++ xs.drop k.toNat) else none
  | _ => none
theorem Rps.take' {K : PySem.W.Frag} {S : Addr → Prop} {H : Hp} {l : Lv} : ∀ {vs : List V} {ds : List D} {F : List Addr} (n : Nat), Rps K S H l vs ds F → ∃ F1 F2, F = F1 ++ F2 ∧ Rps K S H l (vs.take n) (ds.take n) F1 ∧ Rps K S H l (vs.drop n) (ds.drop n) F2
  | _, _, F, 0, h => ⟨[], F, rfl, .nil, h⟩
  | _, _, _, n + 1, .nil => ⟨[], [], rfl, .nil, .nil⟩
  | _, _, _, n + 1, .cons (F := F) h1 h2 => by
    obtain ⟨F1, F2, e, a, b⟩ := Rps.take' n h2
    exact ⟨F ++ F1, F2, by rw [e, List.append_assoc], .cons h1 a, b⟩
theorem l_ins : LopOk X "list.insert" oIns where
  ok := ⟨_, mt_insert, fun H a vs us ws Q h1 h2 h3 q => by
    unfold oIns at h3
    split at h3
    · rename_i i y
      obtain ⟨k, ek, h3⟩ := bind_some h3
      split at h3
      · rename_i hk
        cases h3
        have : i = .int k := by cases i <;> first | (cases ek; rfl) | cases ek
        subst this
        exact ⟨a, vs, k, y, rfl, rfl, h1, Nat.lt_of_le_of_lt h2 (by rw [sizeLine_eq]; decide), hk.1, by omega, q⟩
      · cases h3
    · cases h3⟩
  pick := fun {K S H l vs us ds es zs F G} r1 r2 nd e => by
    unfold oIns at e
    split at e
    · rename_i i y
      obtain ⟨k, ek, e⟩ := bind_some e
      split at e
      · rename_i hk
        cases e
        cases r2 with
        | cons h1 h2 =>
          cases h2 with
          | cons h3 h4 =>
            cases h4
            rename_i v1 F1 v2 F2
            obtain ⟨A, B, eF, t1, t2⟩ := r1.take' k.toNat
            have ei : i = .int k := by cases i <;> first | (cases ek; rfl) | cases ek
            subst ei
            obtain ⟨rfl, rfl⟩ := h1.int_inv
            refine ⟨_ ++ [v2] ++ _, (A ++ F2) ++ B, by simp only [oIns, intV, Option.bind_some, if_pos hk], ((t1.app (by have := Rps.cons h3 .nil; rw [List.append_nil] at this; exact this)).app t2), fun b z => ?_, ?_⟩
            · rw [eF]
              rcases List.mem_append.mp z with z | z
              · rcases List.mem_append.mp z with z | z <;> simp [z]
              · simp [z]
            · rw [eF] at nd
              have p : ((A ++ F2) ++ B).Perm ((A ++ B) ++ ([] ++ (F2 ++ []))) := by
                simp only [List.nil_append, List.append_nil, List.append_assoc]
                exact List.Perm.append_left A List.perm_append_comm
              exact p.nodup_iff.mpr nd
      · cases e
    · cases e
end
end Ev

set_option Elab.async false
set_option linter.all false
set_option maxRecDepth 100000
/-! Short words for the printed derivations. -/
namespace Ev
open PySem PySem.Spec L2
open PyProof.Rows hiding St

/-- the built-in names are not taken -/
structure Blts (mg : Str → Option Value) : Prop where
  len : mg "len" = none
  min : mg "min" = none
  max : mg "max" = none
  sum : mg "sum" = none
  sorted : mg "sorted" = none
  list : mg "list" = none
  range : mg "range" = none
  zip : mg "zip" = none
  enumerate : mg "enumerate" = none
  abs : mg "abs" = none
  int : mg "int" = none
  isinstance : mg "isinstance" = none
  bool : mg "bool" = none
  tuple : mg "tuple" = none
  str : mg "str" = none
  set : mg "set" = none
  all : mg "all" = none
  any : mg "any" = none
  reversed : mg "reversed" = none
  dict : mg "dict" = none
theorem bt_bool : bootBuiltins "bool" = some (.type "bool") := by decide +kernel
section
variable {X : Cx} {e e2 : Expr} {fe fa fb : EvE} {pos pos' : Pos} {x : Str}
theorem x_eq (hu : X.A.units + 65 < cLine) : CmpOk X .Eq gEq := c_eq (by omega)
theorem x_ne (hu : X.A.units + 65 < cLine) : CmpOk X .NotEq gNe := c_ne (by omega)
theorem x_lt (hu : X.A.units + 65 < cLine) : CmpOk X .Lt gLt := c_lt (by omega)
theorem x_le (hu : X.A.units + 65 < cLine) : CmpOk X .LtE gLe := c_le (by omega)
theorem x_ge (hu : X.A.units + 65 < cLine) : CmpOk X .GtE gGe := c_ge (by omega)
theorem x_gt (hu : X.A.units + 65 < cLine) : CmpOk X .Gt gGt := c_gt
theorem x_is (hu : X.A.units + 65 < cLine) : CmpOk X .Is gIs := c_is
theorem x_isnot (hu : X.A.units + 65 < cLine) : CmpOk X .IsNot gIsNot := c_isnot
theorem x_in (hu : X.A.units + 65 < cLine) : CmpOk X .In gIn := c_in hu
theorem x_nin (hu : X.A.units + 65 < cLine) : CmpOk X .NotIn gNin := c_nin hu
theorem x_ix (hu : X.A.units + 65 < cLine) (ha : PEv X e fa) (hb : PEv X e2 fb) (hs : PlainIx e2 := by exact fun _ _ => rfl) : PEv X (.Subscript e e2 pos) (eIx fa fb) := e_ix (by omega) ha hb hs
/-- x += e, x -= e of ints -/
def sAug (g : Int → Int → Int) (i : Nat) (fe : EvE) : EvS := fun ρ => match ρ[i]? with
  | some (some s) => (fe ρ).bind fun r => match s.d, r.d with
    | .int a, .int b => some (.nx (ρ.set i (some ⟨.int (g a b), .full, false⟩)))
    | _, _ => none
  | _ => none
theorem s_augI {op : Operator} {g : Int → Int → Int} (i : Nat) (ho : PIp X op (ipI g)) (he : PEv X e fe) (hN : X.N.Nodup) (hi : X.N[i]? = some x := by rfl) (hx : Loc X.env.scope x := by first | exact Or.inl rfl | exact Or.inr rfl) (hf : X.fn x = true ∨ X.env.scope.names.lookup x = some .local := by first | exact .inl rfl | exact .inr rfl | assumption) :
    PSv X (.AugAssign (.Name x pos') op e pos) (sAug g i fe) := by
  refine imp_s (ps_aug hN hi hx he ho hf) fun D σ H ⟨N, H0, ρ, L, o, sim, z, q⟩ => ?_
  unfold sAug at z
  split at z
  · rename_i s es
    obtain ⟨r, e1, z⟩ := bind_some z
    split at z
    · rename_i a b ha hb
      cases z
      obtain ⟨v, G, ev, rp, sub⟩ := sim.sl.get es
      rw [ha] at rp
      obtain ⟨rfl, _⟩ := rp.int_inv
      refine ⟨.int a, ev, one sim.h e1 fun w H1 F s1 n1 d1 p1 => ?_⟩
      rw [hb] at p1
      obtain ⟨rfl, _⟩ := p1.int_inv
      obtain ⟨L2, sim2, sub2⟩ := sim.set (i := i) (v := .int (g a b)) (r := ⟨.int (g a b), .full, false⟩) (G := []) s1 (fun _ z => nomatch z) .nil .int (List.getElem?_eq_some_iff.mp es).1
      exact ⟨a, b, rfl, rfl, q _ H1 L2 sim2 (Frm.same s1 fun b z => (sub2 b z).imp id fun z => nomatch z)⟩
    · cases z
  · cases z
theorem s_aadd (i : Nat) (he : PEv X e fe) (hN : X.N.Nodup) (hi : X.N[i]? = some x := by rfl) (hx : Loc X.env.scope x := by first | exact Or.inl rfl | exact Or.inr rfl) (hf : X.fn x = true ∨ X.env.scope.names.lookup x = some .local := by first | exact .inl rfl | exact .inr rfl | assumption) :
    PSv X (.AugAssign (.Name x pos') .Add e pos) (sAug (fun a b => a + b) i fe) := s_augI i ip_add he hN hi hx hf
theorem s_asub (i : Nat) (he : PEv X e fe) (hN : X.N.Nodup) (hi : X.N[i]? = some x := by rfl) (hx : Loc X.env.scope x := by first | exact Or.inl rfl | exact Or.inr rfl) (hf : X.fn x = true ∨ X.env.scope.names.lookup x = some .local := by first | exact .inl rfl | exact .inr rfl | assumption) :
    PSv X (.AugAssign (.Name x pos') .Sub e pos) (sAug (fun a b => a - b) i fe) := s_augI i ip_sub he hN hi hx hf
end
abbrev eShr := eOp (fun _ j => decide (0 ≤ j)) fun i j => .int (i / 2 ^ j.toNat)
abbrev eAnd2 := eOp cT fun i j => .int (Builtin.bitAnd i j)
def eDk : EvE := fun _ => some ⟨.dk [], .full, false, false⟩
def eDt : EvE := fun _ => some ⟨.dt [], .full, false, false⟩
def sBrk : EvS := fun ρ => some (.bk ρ)
def sCnt : EvS := fun ρ => some (.ct ρ)
def sRet0 : EvS := fun _ => some (.rt .non .full)
theorem len1 {f : EvE} : ∀ ρ rs, aCons f aNil ρ = some rs → rs.length = 1 := aCons_len fun _ _ h => aNil_len h
theorem len2 {f g : EvE} : ∀ ρ rs, aCons f (aCons g aNil) ρ = some rs → rs.length = 2 := aCons_len len1
theorem len3 {f g h : EvE} : ∀ ρ rs, aCons f (aCons g (aCons h aNil)) ρ = some rs → rs.length = 3 := aCons_len len2
theorem len4 {f g h i : EvE} : ∀ ρ rs, aCons f (aCons g (aCons h (aCons i aNil))) ρ = some rs → rs.length = 4 := aCons_len len3
theorem len5 {f g h i j : EvE} : ∀ ρ rs, aCons f (aCons g (aCons h (aCons i (aCons j aNil)))) ρ = some rs → rs.length = 5 := aCons_len len4
theorem hu_room {k : Nat} {A : Around} (hr : Room k A) : A.units + 65 < cLine := by have := hr.un; omega
/-- a def as the top has it keeps its promise -/
theorem fnD_of {P : Program} {w : World} {K : PySem.W.Frag} {mg : Str → Option Value} {base : Heap} {k n : Nat} {x : Str} {φ : List D → Option Ret} {f : Addr} {fd : FuncData} {ps : List Str} (F : FnOk P w K mg base CX0 k f fd ps (spD K n φ)) (hm : mg x = some (.ref f)) (hk : PySem.W.keepIn K (.ref f) = true) (hb : Binds K fd ps []) : FnD P w K mg base k x n φ := ⟨f, fd, ps, F, hm, hk, hb⟩
end Ev

set_option Elab.async false
set_option linter.all false
set_option maxRecDepth 100000
/-! list.count of ints. -/
namespace Ev
open PySem PySem.Spec L2
open PyProof.Rows hiding St
section
variable {X : Cx}
def mCount : D → List D → Option Ret
  | .lst ds, [.int k] => (intsOf ds).map fun ns => (.int (ns.count k : Nat), .full)
  | _, _ => none
theorem m_count : MtOk X "list" "list.count" mCount := ⟨_, mt_lcount, fun S H v d vs ds z Q r1 r2 e q => by
  unfold mCount at e
  split at e
  · rename_i ds k
    obtain ⟨ns, ej, e⟩ := Option.map_eq_some_iff.mp e
    subst e
    have := intsOf_some ej
    subst this
    obtain ⟨w, rfl, r3⟩ := r2.inv1
    obtain ⟨rfl, _⟩ := r3.int_inv
    obtain ⟨a, us, rfl, h1, _, h3⟩ := r1.lst_shr
    have := h3.ints.1
    subst this
    exact ⟨a, ns, k, rfl, rfl, SqL.of h1, q.atom fun _ => .int⟩
  · cases e⟩
end
end Ev

set_option Elab.async false
set_option linter.all false
set_option maxRecDepth 100000
/-! A statement ahead of which slots are given up to be shared. -/
namespace Ev
open PySem PySem.Spec L2
open PyProof.Rows hiding St
section
variable {X : Cx} {st : Stmt} {f : EvS}
def sFz (z : List Nat) (f : EvS) : EvS := fun ρ => f (frzs z ρ)
theorem s_fz (z : List Nat) (h : PSv X st f) : PSv X st (sFz z f) := imp_s h fun D σ H ⟨N, H0, ρ, L, o, sim, e, q⟩ => by
  obtain ⟨L1, sim1, sub⟩ := sim.frzs z
  exact ⟨N, H0, frzs z ρ, L1, o, sim1, e, q.at_ (Frm.same (Same.refl H) fun b w => .inl (sub b w))⟩
end
end Ev

set_option Elab.async false
set_option linter.all false
set_option maxRecDepth 100000
/-! Reckoning with the combinators: simp lemmas, loops by what holds of them, typed data. -/
namespace Ev
open PySem PySem.Spec L2
open PyProof.Rows hiding St

/-! ### typed data -/
def dInts (ns : List Int) : List D := ns.map .int
@[simp] theorem map_int (ns : List Int) : ns.map D.int = dInts ns := rfl
def dPair (p : Int × Int) : D := .tup [.int p.1, .int p.2]
@[simp] theorem dInts_nil : dInts [] = [] := rfl
@[simp] theorem dInts_cons (n : Int) (ns : List Int) : dInts (n :: ns) = .int n :: dInts ns := rfl
@[simp] theorem dInts_len (ns : List Int) : (dInts ns).length = ns.length := List.length_map _
theorem dInts_app (a b : List Int) : dInts (a ++ b) = dInts a ++ dInts b := List.map_append
@[simp] theorem intsOf_d (ns : List Int) : intsOf (dInts ns) = some ns := intsOf_map ns
@[simp] theorem immAll_ints (ns : List Int) : immAll (dInts ns) = true := by
  induction ns with
  | nil => rfl
  | cons n ns ih => rw [dInts_cons, immAll, ih]; rfl
@[simp] theorem shps_ints (k : Nat) (ns : List Int) : shps k (dInts ns) = true := by
  induction ns with
  | nil => rfl
  | cons n ns ih => rw [dInts_cons, shps, ih]; simp [shp]
@[simp] theorem imm_pair (p : Int × Int) : imm (dPair p) = true := rfl
@[simp] theorem immAll_pairs (ps : List (Int × Int)) : immAll (ps.map dPair) = true := by
  induction ps with
  | nil => rfl
  | cons n ns ih => rw [List.map_cons, immAll, ih]; rfl
@[simp] theorem shp_pair (k : Nat) (p : Int × Int) : shp (k + 1) (dPair p) = true := by simp [dPair, shp, shps]
@[simp] theorem shps_pairs (k : Nat) (ps : List (Int × Int)) : shps (k + 1) (ps.map dPair) = true := by
  induction ps with
  | nil => rfl
  | cons n ns ih => rw [List.map_cons, shps, ih, shp_pair]; rfl
@[simp] theorem shps_pairs7 (ps : List (Int × Int)) : shps 7 (ps.map dPair) = true := shps_pairs 6 ps
theorem eqv_ints : ∀ a b : List Int, PyData.eqvAll (pds (dInts a)) (pds (dInts b)) = decide (a = b)
  | [], [] => by simp [pds, PyData.eqvAll]
  | [], _ :: _ => by simp [pds, PyData.eqvAll]
  | _ :: _, [] => by simp [pds, PyData.eqvAll]
  | x :: a, y :: b => by
    simp only [dInts_cons, pds, pd, PyData.eqvAll, PyData.eqv, eqv_ints a b]
    by_cases h : x = y <;> simp [h]
@[simp] theorem deq_int (a b : Int) : deq (.int a) (.int b) = decide (a = b) := by
  unfold deq
  simp only [pd, PyData.eqv]
  by_cases h : a = b <;> simp [h]
@[simp] theorem deq_ints (a b : List Int) : deq (.lst (dInts a)) (.lst (dInts b)) = decide (a = b) := by
  unfold deq
  simp only [pd, PyData.eqv]
  exact eqv_ints a b
@[simp] theorem deq_pair (p q : Int × Int) : deq (dPair p) (dPair q) = decide (p = q) := by
  unfold deq dPair
  simp only [pd, pds, PyData.eqv, PyData.eqvAll]
  obtain ⟨a, b⟩ := p
  obtain ⟨c, d⟩ := q
  by_cases h : a = c <;> by_cases h2 : b = d <;> simp [h, h2]
theorem eqv_pairs : ∀ a b : List (Int × Int), PyData.eqvAll (pds (a.map dPair)) (pds (b.map dPair)) = decide (a = b)
  | [], [] => by simp [pds, PyData.eqvAll]
  | [], _ :: _ => by simp [pds, PyData.eqvAll]
  | _ :: _, [] => by simp [pds, PyData.eqvAll]
  | x :: a, y :: b => by
    have h := deq_pair x y
    unfold deq at h
    simp only [List.map_cons, pds, PyData.eqvAll, eqv_pairs a b, h]
    by_cases h : x = y <;> simp [h]
@[simp] theorem deq_pairs (a b : List (Int × Int)) : deq (.lst (a.map dPair)) (.lst (b.map dPair)) = decide (a = b) := by
  unfold deq
  simp only [pd, PyData.eqv]
  exact eqv_pairs a b
theorem rowsOf_pairs : ∀ ps : List (Int × Int), rowsOf (ps.map dPair) = some (ps.map fun p => [p.1, p.2])
  | [] => rfl
  | p :: ps => by
    rw [List.map_cons, rowsOf, rowsOf_pairs ps]
    rfl

/-! ### loops -/
theorem forL_ind {α : Type} {t : Tg} {b : EvS} {f : α → D × Bool} {xs : List α} {ρ0 : Env} (P : List α → Env → Prop) (h0 : P [] ρ0)
    (hs : ∀ pre x post ρ, xs = pre ++ x :: post → P pre ρ → ∃ ρ1 ρ2, tgSet t (f x).1 (f x).2 ρ = some ρ1 ∧ (b ρ1 = some (.nx ρ2) ∨ b ρ1 = some (.ct ρ2)) ∧ P (pre ++ [x]) ρ2) :
    ∃ ρ', forL t b (xs.map f) ρ0 = some (.nx ρ') ∧ P xs ρ' := by
  have go : ∀ (post pre : List α) (ρ : Env), xs = pre ++ post → P pre ρ → ∃ ρ', forL t b (post.map f) ρ = some (.nx ρ') ∧ P xs ρ' := by
    intro post
    induction post with
    | nil => exact fun pre ρ e p => ⟨ρ, rfl, by rw [e, List.append_nil]; exact p⟩
    | cons x post ih =>
      intro pre ρ e p
      obtain ⟨ρ1, ρ2, e1, e2, p2⟩ := hs pre x post ρ e p
      obtain ⟨ρ', e3, p3⟩ := ih (pre ++ [x]) ρ2 (by rw [e, List.append_assoc]; rfl) p2
      refine ⟨ρ', ?_, p3⟩
      rw [List.map_cons]
      unfold forL
      rw [e1]
      rcases e2 with e2 | e2 <;> (simp only [Option.bind_some, e2]; exact e3)
  exact go xs [] ρ0 rfl h0
/-- .. that may return -/
theorem forL_ret {α : Type} {t : Tg} {b : EvS} {f : α → D × Bool} {xs : List α} {ρ0 : Env} (P : List α → Env → Prop) (R : D → Lv → Prop) (h0 : P [] ρ0)
    (hs : ∀ pre x post ρ, xs = pre ++ x :: post → P pre ρ → ∃ ρ1, tgSet t (f x).1 (f x).2 ρ = some ρ1 ∧ ((∃ ρ2, (b ρ1 = some (.nx ρ2) ∨ b ρ1 = some (.ct ρ2)) ∧ P (pre ++ [x]) ρ2) ∨ ∃ d l, b ρ1 = some (.rt d l) ∧ R d l)) :
    (∃ ρ', forL t b (xs.map f) ρ0 = some (.nx ρ') ∧ P xs ρ') ∨ ∃ d l, forL t b (xs.map f) ρ0 = some (.rt d l) ∧ R d l := by
  have go : ∀ (post pre : List α) (ρ : Env), xs = pre ++ post → P pre ρ → (∃ ρ', forL t b (post.map f) ρ = some (.nx ρ') ∧ P xs ρ') ∨ ∃ d l, forL t b (post.map f) ρ = some (.rt d l) ∧ R d l := by
    intro post
    induction post with
    | nil => exact fun pre ρ e p => .inl ⟨ρ, rfl, by rw [e, List.append_nil]; exact p⟩
    | cons x post ih =>
      intro pre ρ e p
      obtain ⟨ρ1, e1, h⟩ := hs pre x post ρ e p
      rw [List.map_cons]
      unfold forL
      rw [e1]
      rcases h with ⟨ρ2, e2, p2⟩ | ⟨d, l, e2, r⟩
      · have := ih (pre ++ [x]) ρ2 (by rw [e, List.append_assoc]; rfl) p2
        rcases e2 with e2 | e2 <;> (simp only [Option.bind_some, e2]; exact this)
      · exact .inr ⟨d, l, by simp only [Option.bind_some, e2], r⟩
  exact go xs [] ρ0 rfl h0
theorem pre_range {m : Nat} {pre post : List Nat} {x : Nat} (e : List.range m = pre ++ x :: post) : x = pre.length ∧ x < m := by
  have h : (List.range m)[pre.length]? = some x := by rw [e]; simp
  obtain ⟨h1, h2⟩ := List.getElem?_eq_some_iff.mp h
  rw [List.getElem_range] at h2
  rw [List.length_range] at h1
  omega
/-- over a range -/
theorem forR_ind {t : Tg} {b : EvS} {lo : Int} {n : Nat} {ρ0 : Env} (P : Nat → Env → Prop) (h0 : P 0 ρ0)
    (hs : ∀ k ρ, k < n → P k ρ → ∃ ρ1 ρ2, tgSet t (.int (lo + (k : Int))) false ρ = some ρ1 ∧ (b ρ1 = some (.nx ρ2) ∨ b ρ1 = some (.ct ρ2)) ∧ P (k + 1) ρ2) :
    ∃ ρ', forL t b (iRng lo n) ρ0 = some (.nx ρ') ∧ P n ρ' := by
  obtain ⟨ρ', h, p⟩ := forL_ind (t := t) (b := b) (f := fun (i : Nat) => (D.int (lo + (i : Int)), false)) (xs := List.range n) (ρ0 := ρ0) (fun pre ρ => P pre.length ρ) h0 (fun pre x post ρ e p => by
    obtain ⟨rfl, hx⟩ := pre_range e
    obtain ⟨ρ1, ρ2, h1, h2, h3⟩ := hs _ ρ hx p
    exact ⟨ρ1, ρ2, h1, h2, by rw [List.length_append]; exact h3⟩)
  rw [List.length_range] at p
  exact ⟨ρ', h, p⟩
theorem forR0_ind {t : Tg} {b : EvS} {n : Nat} {ρ0 : Env} (P : Nat → Env → Prop) (h0 : P 0 ρ0)
    (hs : ∀ (k : Nat) ρ, k < n → P k ρ → ∃ ρ1 ρ2, tgSet t (.int (k : Int)) false ρ = some ρ1 ∧ (b ρ1 = some (.nx ρ2) ∨ b ρ1 = some (.ct ρ2)) ∧ P (k + 1) ρ2) :
    ∃ ρ', forL t b (iRng 0 n) ρ0 = some (.nx ρ') ∧ P n ρ' := forR_ind P h0 fun k ρ hk p => by rw [Int.zero_add]; exact hs k ρ hk p
theorem sFor_eq {fz : List Nat} {it : EvI} {t : Tg} {b : EvS} {ρ : Env} {items : List (D × Bool)} (h : it (frzs fz ρ) = some items) : sFor fz it t b ρ = forL t b items (frzs fz ρ) := by
  unfold sFor
  rw [h]
  rfl
theorem iRange_1 {f : EvE} {ρ : Env} {r : Rv} {n : Nat} (h : f ρ = some r) (hd : r.d = .int n) (hn : n ≤ 1000000000) : iRange (aCons f aNil) ρ = some (iRng 0 n) := by
  unfold iRange aCons aNil
  simp only [h, Option.bind_some, List.map_cons, List.map_nil, hd]
  rw [if_pos (by omega)]
  congr 2
theorem run_rt {b : EvS} {m : Nat} {ds : List D} {d : D} {l : Lv} (h : b (entry m ds) = some (.rt d l)) : Ev.run b m ds = some (d, l) := by
  unfold Ev.run
  rw [h]
  rfl
theorem sSeq_nx {f g : EvS} {ρ ρ' : Env} (h : f ρ = some (.nx ρ')) : sSeq f g ρ = g ρ' := by
  unfold sSeq
  rw [h]
  rfl
theorem sSeq_rt {f g : EvS} {ρ : Env} {d : D} {l : Lv} (h : f ρ = some (.rt d l)) : sSeq f g ρ = some (.rt d l) := by
  unfold sSeq
  rw [h]
  rfl
theorem lcL_map {α : Type} {t : Tg} {c : EvT} {e : EvE} {f : α → D × Bool} {ρ : Env} (p : α → Bool) (g : α → Rv) : ∀ xs : List α,
    (∀ x ∈ xs, ∃ ρ1, tgSet t (f x).1 (f x).2 ρ = some ρ1 ∧ c ρ1 = some (p x) ∧ (p x = true → e ρ1 = some (g x) ∧ (g x).vw = false)) → lcL t c e ρ (xs.map f) = some ((xs.filter p).map g)
  | [], _ => rfl
  | x :: xs, h => by
    obtain ⟨ρ1, e1, e2, e3⟩ := h x List.mem_cons_self
    have ih := lcL_map p g xs fun y hy => h y (List.mem_cons_of_mem _ hy)
    rw [List.map_cons]
    unfold lcL
    rw [e1, ih]
    simp only [Option.bind_some, e2]
    cases hp : p x with
    | true =>
      obtain ⟨e4, e5⟩ := e3 hp
      simp [e4, e5, hp]
    | false => simp [hp]
theorem mkBig_full {α : Type} (g : α → D) (xs : List α) (h : xs.length ≤ 1000000) : mkBig (xs.map fun x => rA (g x)) = some ⟨.lst (xs.map g), .full, false, false⟩ := by
  unfold mkBig
  rw [List.length_map, if_pos h]
  have : (xs.map fun x => rA (g x)).all (fun r => !r.vw && decide (r.l = .full)) = true := by simp [rA]
  rw [if_pos this]
  have h2 : (xs.map fun x => rA (g x)).any (fun x => x.al) = false := by simp [rA]
  rw [h2, List.map_map]
  rfl

/-! ### sorting, looking for -/
theorem ins_map {α β : Type} (f : α → β) (lt : β → β → Bool) (x : α) : ∀ l : List α, isort.insF lt (f x) (l.map f) = (isort.insF (fun a b => lt (f a) (f b)) x l).map f
  | [] => rfl
  | y :: ys => by
    rw [List.map_cons]
    unfold isort.insF
    by_cases h : lt (f y) (f x) = true
    · rw [if_pos h, if_pos h, ins_map f lt x ys, List.map_cons]
    · rw [if_neg h, if_neg h, List.map_cons, List.map_cons]
theorem isort_map {α β : Type} (f : α → β) (lt : β → β → Bool) : ∀ l : List α, isort lt (l.map f) = (isort (fun a b => lt (f a) (f b)) l).map f
  | [] => rfl
  | x :: l => by
    rw [List.map_cons]
    show isort.insF lt (f x) (isort lt (l.map f)) = _
    rw [isort_map f lt l, ins_map]
    rfl
def ltP (p q : Int × Int) : Bool := HT.lexLt [p.1, p.2] [q.1, q.2]
abbrev sortP (ps : List (Int × Int)) : List (Int × Int) := isort ltP ps
theorem bSorted_ints (ns : List Int) : bSorted [.lst (dInts ns)] = some (.lst (dInts (sortI ns)), .top) := by
  show (bSortedI [.lst (dInts ns)]).or _ = _
  have : bSortedI [.lst (dInts ns)] = some (.lst (dInts (sortI ns)), .top) := by
    unfold bSortedI
    simp only [seqOf, Option.bind_some, intsOf_d, Option.map_some]
    rfl
  rw [this]
  rfl
theorem sameLen_pairs : ∀ ps : List (Int × Int), sameLen (ps.map fun p => [p.1, p.2]) = true
  | [] => rfl
  | p :: ps => by
    unfold sameLen
    rw [List.map_cons]
    simp
theorem bSorted_pairs (ps : List (Int × Int)) : bSorted [.lst (ps.map dPair)] = some (.lst ((sortP ps).map dPair), .top) := by
  cases ps with
  | nil => rfl
  | cons p ps =>
    have h1 : bSortedI [.lst ((p :: ps).map dPair)] = none := rfl
    show (bSortedI [.lst ((p :: ps).map dPair)]).or (bSortedR [.lst ((p :: ps).map dPair)]) = _
    rw [h1]
    show bSortedR [.lst ((p :: ps).map dPair)] = _
    unfold bSortedR
    simp only [seqOf, Option.bind_some, rowsOf_pairs, sameLen_pairs, if_true]
    have : sortR ((p :: ps).map fun p => [p.1, p.2]) = (sortP (p :: ps)).map fun p => [p.1, p.2] := isort_map _ _ _
    rw [this, List.map_map]
    rfl
@[simp] theorem any_ints (ns : List Int) (a : Int) : ((dInts ns).any fun z => deq z (.int a)) = decide (a ∈ ns) := by
  induction ns with
  | nil => simp
  | cons n ns ih =>
    rw [dInts_cons, List.any_cons, ih, deq_int]
    by_cases h : n = a
    · simp [h]
    · simp [h]; exact fun z => absurd z.symm h
@[simp] theorem any_pairs (ns : List (Int × Int)) (a : Int × Int) : ((ns.map dPair).any fun z => deq z (dPair a)) = decide (a ∈ ns) := by
  induction ns with
  | nil => simp
  | cons n ns ih =>
    rw [List.map_cons, List.any_cons, ih, deq_pair]
    by_cases h : n = a
    · simp [h]
    · simp [h]; exact fun z => absurd z.symm h
theorem idx_ints (ns : List Int) (a : Int) : ((dInts ns).findIdx? fun z => deq z (.int a)) = ns.findIdx? fun z => decide (z = a) := by
  unfold dInts
  rw [List.findIdx?_map]
  congr 1
theorem idx_at {ns : List Int} (nd : ns.Nodup) {i : Nat} (h : i < ns.length) : (ns.findIdx? fun z => decide (z = ns[i])) = some i := by
  rw [List.findIdx?_eq_some_iff_getElem]
  refine ⟨h, by simp, fun j hj => ?_⟩
  simp only [decide_eq_true_eq]
  intro e
  have := (List.getElem_inj nd).mp e
  omega
theorem sortI_perm {a b : List Int} (h : a.Perm b) : sortI a = sortI b := by
  refine sortI_uniq ((isort_perm a).trans h) ?_
  exact (isort_srtd swo_int a).imp fun {x y} h => by have := of_decide_eq_false h; omega
theorem sortP_swo : SrtO.Swo ltP := ⟨fun x y h => EvS.lt_asym _ _ h, fun x y z h1 h2 => EvS.lt_neg_trans _ _ _ h2 h1⟩
/-- sorted once is sorted -/
theorem isort_sorted {α : Type} {lt : α → α → Bool} : ∀ {l : List α}, SrtO.Srtd lt l → isort lt l = l
  | [], _ => rfl
  | x :: l, h => by
    have hh := List.pairwise_cons.mp h
    show isort.insF lt x (isort lt l) = _
    rw [isort_sorted hh.2]
    cases l with
    | nil => rfl
    | cons y ys =>
      unfold isort.insF
      rw [if_neg (by rw [hh.1 y List.mem_cons_self]; exact Bool.false_ne_true)]
theorem sortP_idem (ps : List (Int × Int)) : sortP (sortP ps) = sortP ps := isort_sorted (isort_srtd sortP_swo ps)
theorem kit_ii : kitB "int" "int" = some true := by decide +kernel
theorem kit_ib : kitB "int" "bool" = some false := by decide +kernel
theorem kit_ll : kitB "list" "list" = some true := by decide +kernel
theorem kit_tt : kitB "tuple" "tuple" = some true := by decide +kernel
theorem atI_ints (ns : List Int) (k : Nat) (h : k < ns.length) : L2.atI (dInts ns) (k : Int) = some (.int ns[k]) := by
  unfold L2.atI ixN
  rw [dInts_len, if_pos (by omega), if_pos (by omega)]
  simp only [Option.bind_some, dInts, Int.toNat_natCast]
  rw [List.getElem?_map, List.getElem?_eq_getElem h]
  rfl
end Ev

set_option Elab.async false
set_option linter.all false
set_option maxRecDepth 100000
set_option maxHeartbeats 4000000
namespace Pr
open PySem PySem.Spec L2 Ev
open PyProof.Rows hiding St

def FB_cut_price_1 : EvS :=
  (sIf (tCmp gNe (eCmp gIn (eName 1) (eName 4)) (eCmp gIn (eName 2) (eName 4))) (sAug (fun a b => a + b) 3 (eName 5)) sNil)
def F_cut_price_1 : EvS :=
  (sFor [] (iLst (eIx (eName 0) (eC (.int 2)))) (.tp [(.nm 4), (.nm 5)]) FB_cut_price_1)
def B_cut_price : EvS :=
  (sSeq (sSet [] 3 (ePlus (eIx (eIx (eName 0) (eC (.int 1))) (eName 1)) (eIx (eIx (eName 0) (eC (.int 1))) (eName 2)))) (sSeq F_cut_price_1 (sRetV 3)))
def R_cut_price : List D → Option Ret := run B_cut_price 6
def FB_inner_price_1 : EvS :=
  (sIf (tAnd (tCmp gIn (eName 1) (eName 4)) (tCmp gIn (eName 2) (eName 4))) (sAug (fun a b => a + b) 3 (eName 5)) sNil)
def F_inner_price_1 : EvS :=
  (sFor [] (iLst (eIx (eName 0) (eC (.int 2)))) (.tp [(.nm 4), (.nm 5)]) FB_inner_price_1)
def B_inner_price : EvS :=
  (sSeq (sSet [] 3 (ePlus (eIx (eIx (eName 0) (eC (.int 1))) (eName 1)) (eIx (eIx (eName 0) (eC (.int 1))) (eName 2)))) (sSeq F_inner_price_1 (sRetV 3)))
def R_inner_price : List D → Option Ret := run B_inner_price 6
def CE_cut_sum_1 : EvE :=
  (eName 2)
def C_cut_sum_1 : EvE :=
  (eLc (iLst (eIx (eName 0) (eC (.int 2)))) [1, 2] (.tp [(.nm 1), (.nm 2)]) tYes CE_cut_sum_1)
def B_cut_sum : EvS :=
  (sRet (ePlus (eBi bSum (aCons (eIx (eName 0) (eC (.int 1))) aNil)) (eBi bSum (aCons C_cut_sum_1 aNil))))
def R_cut_sum : List D → Option Ret := run B_cut_sum 3
def CE_inner_sum_1 : EvE :=
  (eMul (eName 2) (eDiv (eLen (aCons (eName 1) aNil)) (eC (.int 2))))
def C_inner_sum_1 : EvE :=
  (eLc (iLst (eIx (eName 0) (eC (.int 2)))) [1, 2] (.tp [(.nm 1), (.nm 2)]) tYes CE_inner_sum_1)
def B_inner_sum : EvS :=
  (sRet (ePlus (eBi bSum (aCons (eIx (eName 0) (eC (.int 1))) aNil)) (eBi bSum (aCons C_inner_sum_1 aNil))))
def R_inner_sum : List D → Option Ret := run B_inner_sum 3
def B_law_cell_at : EvS :=
  (sSeq (sIf (tCmp gLt (eName 1) (eLen (aCons (eName 0) aNil))) (sRet (eIx (eName 0) (eName 1))) sNil) (sRet (eC (.int 0))))
def R_law_cell_at : List D → Option Ret := run B_law_cell_at 2
def B_law_heavy : EvS :=
  (sSeq (sIf (tCmp gEq (eMod (eName 0) (eC (.int 2))) (eC (.int 1))) (sRet (eSub (eMod (eDiv (eName 0) (eC (.int 2))) (eC (.int 41))) (eC (.int 20)))) sNil) (sRet (ePlus (eSub (eMod (eDiv (eName 0) (eC (.int 2))) (eSub (eMul (eC (.int 2)) (ePow (eC (.int 10)) (eC (.int 60)))) (eC (.int 1)))) (ePow (eC (.int 10)) (eC (.int 60)))) (eC (.int 1)))))
def R_law_heavy : List D → Option Ret := run B_law_heavy 1
def CT_law_set_1 : EvT :=
  (tCmp gEq (eAnd2 (eShr (eMod (eName 0) (eC (.int 4096))) (eName 3)) (eC (.int 1))) (eC (.int 1)))
def CE_law_set_1 : EvE :=
  (eName 3)
def C_law_set_1 : EvE :=
  (eLc (iRange (aCons (eName 1) aNil)) [3] (.nm 3) CT_law_set_1 CE_law_set_1)
def B_law_set : EvS :=
  (sSeq (sSet [] 2 C_law_set_1) (sSeq (sIf (tCmp gEq (eMod (eLen (aCons (eName 2) aNil)) (eC (.int 2))) (eC (.int 0))) (sRet (eSl (eName 2) oNone (oSome (eNeg (eC (.int 1)))))) sNil) (sRetV 2)))
def R_law_set : List D → Option Ret := run B_law_set 4
def FB_law_sets_1 : EvS :=
  (sSeq (sSet [] 5 (eCall R_law_set (aCons (eDiv (eName 4) (eC (.int 3))) (aCons (eName 1) aNil)))) (sIf (tAnd (tCmp gGt (eLen (aCons (eName 5) aNil)) (eC (.int 2))) (tCmp gNin (eName 5) (eName 3))) (sSeq (sLop oApp [5] 3 (aCons (eName 5) aNil)) (sLop oApp [5] 2 (aCons (eTup (aCons (eName 5) (aCons (ePlus (eC (.int 1)) (eMod (eName 4) (ePow (eC (.int 10)) (eC (.int 60))))) aNil))) aNil))) sNil))
def F_law_sets_1 : EvS :=
  (sFor [] (iLst (eSl (eName 0) (oSome (eC (.int 14))) (oSome (eC (.int 63))))) (.nm 4) FB_law_sets_1)
def B_law_sets : EvS :=
  (sSeq (sSet [] 2 (eLst aNil)) (sSeq (sSet [] 3 (eLst aNil)) (sSeq F_law_sets_1 (sRetV 2))))
def R_law_sets : List D → Option Ret := run B_law_sets 6
def FB_law_order_1 : EvS :=
  (sSeq (sSet [] 4 (eMod (eDiv (eCall R_law_cell_at (aCons (eName 0) (aCons (ePlus (eC (.int 2)) (eName 3)) aNil))) (eC (.int 7))) (ePlus (eName 3) (eC (.int 1))))) (sFz [3] (sSet [] 2 (ePlus (ePlus (eSl (eName 2) oNone (oSome (eName 4))) (eLst (aCons (eName 3) aNil))) (eSl (eName 2) (oSome (eName 4)) oNone)))))
def F_law_order_1 : EvS :=
  (sFor [] (iRange (aCons (eName 1) aNil)) (.nm 3) FB_law_order_1)
def B_law_order : EvS :=
  (sSeq (sSet [] 2 (eLst aNil)) (sSeq F_law_order_1 (sRetV 2)))
def R_law_order : List D → Option Ret := run B_law_order 5
def CT_law_out_of_1 : EvT :=
  (tCmp gEq (ePlus (eMt "list" mCount (eName 0) (aCons (eIx (eName 2) (eC (.int 0))) aNil)) (eMt "list" mCount (eName 0) (aCons (eIx (eName 2) (eC (.int 1))) aNil))) (eC (.int 1)))
def CE_law_out_of_1 : EvE :=
  (eName 2)
def C_law_out_of_1 : EvE :=
  (eLc (iLst (eName 1)) [2] (.nm 2) CT_law_out_of_1 CE_law_out_of_1)
def B_law_out_of : EvS :=
  (sRet (eLen (aCons C_law_out_of_1 aNil)))
def R_law_out_of : List D → Option Ret := run B_law_out_of 3
def CE_law_1 : EvE :=
  (eCall R_law_heavy (aCons (eCall R_law_cell_at (aCons (eName 0) (aCons (ePlus (eC (.int 2)) (eName 12)) aNil))) aNil))
def C_law_1 : EvE :=
  (eLc (iRange (aCons (eName 2) aNil)) [12] (.nm 12) tYes CE_law_1)
def CE_law_2 : EvE :=
  (eTup (aCons (eIx (eName 5) (eMul (eC (.int 2)) (eName 13))) (aCons (eIx (eName 5) (ePlus (eMul (eC (.int 2)) (eName 13)) (eC (.int 1)))) aNil)))
def C_law_2 : EvE :=
  (eLc (iRange (aCons (eDiv (eName 2) (eC (.int 2))) aNil)) [13] (.nm 13) tYes CE_law_2)
def CE_law_3 : EvE :=
  (eTup (aCons (eBi bList (aCons (eName 14) aNil)) (aCons (eName 15) aNil)))
def C_law_3 : EvE :=
  (eLc (iLst (eName 4)) [14, 15] (.tp [(.nm 14), (.nm 15)]) tYes CE_law_3)
def CE_law_4 : EvE :=
  (eCall R_cut_price (aCons (eName 7) (aCons (eName 12) (aCons (eName 16) aNil))))
def C_law_4 : EvE :=
  (eLc (iLst (eName 6)) [12, 16] (.tp [(.nm 12), (.nm 16)]) tYes CE_law_4)
def CE_law_5 : EvE :=
  (eCmp gEq (eCall R_law_out_of (aCons (eName 14) (aCons (eName 6) aNil))) (eC (.int 1)))
def C_law_5 : EvE :=
  (eLc (iLst (eName 4)) [14, 15] (.tp [(.nm 14), (.nm 15)]) tYes CE_law_5)
def CE_law_6 : EvE :=
  (eBi bAbs (aCons (eName 15) aNil))
def C_law_6 : EvE :=
  (eLc (iLst (eName 3)) [15] (.nm 15) tYes CE_law_6)
def CT_law_1 : EvT :=
  (tCmp gEq (eAnd2 (eShr (eDiv (eName 1) (eC (.int 13))) (eName 13)) (eC (.int 1))) (eC (.int 0)))
def CE_law_7 : EvE :=
  (eName 17)
def C_law_7 : EvE :=
  (eLc (iEnumV (aCons (eName 6) aNil)) [13, 17] (.tp [(.nm 13), (.nm 17)]) CT_law_1 CE_law_7)
def CE_law_8 : EvE :=
  (eCall R_inner_price (aCons (eName 10) (aCons (eName 12) (aCons (eName 16) aNil))))
def C_law_8 : EvE :=
  (eLc (iLst (eName 11)) [12, 16] (.tp [(.nm 12), (.nm 16)]) tYes CE_law_8)
def B_law : EvS :=
  (sSeq (sSet [] 1 (eMod (eCall R_law_cell_at (aCons (eName 0) (aCons (eC (.int 0)) aNil))) (eC (.int 1000003)))) (sSeq (sSet [] 2 (eMod (eName 1) (eC (.int 13)))) (sSeq (sSet [] 3 C_law_1) (sSeq (sSet [] 4 (eCall R_law_sets (aCons (eName 0) (aCons (eName 2) aNil)))) (sSeq (sSet [] 5 (eCall R_law_order (aCons (eName 0) (aCons (eName 2) aNil)))) (sSeq (sFz [5] (sSet [] 6 C_law_2)) (sSeq (sIf (tCmp gEq (eMod (eName 2) (eC (.int 2))) (eC (.int 0))) (sSeq (sFz [4] (sSet [] 7 (eTup (aCons (eC (.int 1)) (aCons (eBi bList (aCons (eName 3) aNil)) (aCons C_law_3 aNil)))))) (sSeq (sFz [6] (sSet [] 8 (eBi bSum (aCons C_law_4 aNil)))) (sSeq (sFz [4] (sSet [] 9 (eBi bAll (aCons C_law_5 aNil)))) (sIf (tOr (tCmp gLt (eName 8) (eCall R_cut_sum (aCons (eName 7) aNil))) (tCmp gNe (eCmp gEq (eName 8) (eCall R_cut_sum (aCons (eName 7) aNil))) (eName 9))) (sRet (eC (.bl false))) sNil)))) sNil) (sSeq (sFz [3, 4] (sSet [] 10 (eTup (aCons (eC (.int 1)) (aCons C_law_6 (aCons C_law_3 aNil)))))) (sSeq (sFz [6] (sSet [] 11 C_law_7)) (sFz [11] (sRet (eCmp gLe (eBi bSum (aCons C_law_8 aNil)) (eCall R_inner_sum (aCons (eName 10) aNil))))))))))))))
def R_law : List D → Option Ret := run B_law 18
end Pr

set_option Elab.async false
set_option linter.all false
set_option maxRecDepth 100000
set_option maxHeartbeats 4000000
namespace Pr
open PySem PySem.Spec L2 Ev
open PyProof.Rows hiding St

def topS (i : Nat) : Stmt := PySem.Challenge.pw_pairsheath_k52_no_choice_beats_prices.main.body.getD i (.Pass ⟨0, 0, 0, 0⟩)
abbrev s_cut_price : Stmt := topS 1
abbrev N_cut_price : List Str := ["prices", "a", "b", "total", "some", "price"]
theorem sc_cut_price : FnScope N_cut_price ["prices", "a", "b"] (defScope s_cut_price) := ⟨rfl, rfl, rfl, by decide +kernel, rfl, by decide +kernel, by decide +kernel⟩
theorem ok_cut_price {P : Program} {w : World} {K : PySem.W.Frag} {mg : Str → Option Value} {base : Heap} {f : Addr} {fd : FuncData} (F : Fun K "cut_price" "cut_price" s_cut_price f fd) (hB : Blts mg)  : FnOk P w K mg base CX0 1 f fd ["prices", "a", "b"] (spD K 3 R_cut_price) := by
  refine def_ok (k := 0) F sc_cut_price fun cdv A outer s H E hr => ?_
  have hu := hu_room hr
  have nd := sc_cut_price.nd
  exact (s_cons (s_set [] 3 (e_plus (x_ix hu (x_ix hu (e_name 0) e_int) (e_name 1)) (x_ix hu (x_ix hu (e_name 0) e_int) (e_name 2))) nd) (s_cons (s_for [] rfl (i_lst (x_ix hu (e_name 0) e_int)) (g_tup rfl (gs_cons (g_name 4 nd) (gs_cons (g_name 5 nd) gs_nil))) (s_one (s_if (t_cmp (x_ne hu) (e_cmp (x_in hu) (e_name 1) (e_name 4)) (e_cmp (x_in hu) (e_name 2) (e_name 4))) (s_one (s_aadd 3 (e_name 5) nd)) s_nil))) (s_one (s_retv 3))))
abbrev s_inner_price : Stmt := topS 2
abbrev N_inner_price : List Str := ["prices", "a", "b", "total", "some", "price"]
theorem sc_inner_price : FnScope N_inner_price ["prices", "a", "b"] (defScope s_inner_price) := ⟨rfl, rfl, rfl, by decide +kernel, rfl, by decide +kernel, by decide +kernel⟩
theorem ok_inner_price {P : Program} {w : World} {K : PySem.W.Frag} {mg : Str → Option Value} {base : Heap} {f : Addr} {fd : FuncData} (F : Fun K "inner_price" "inner_price" s_inner_price f fd) (hB : Blts mg)  : FnOk P w K mg base CX0 1 f fd ["prices", "a", "b"] (spD K 3 R_inner_price) := by
  refine def_ok (k := 0) F sc_inner_price fun cdv A outer s H E hr => ?_
  have hu := hu_room hr
  have nd := sc_inner_price.nd
  exact (s_cons (s_set [] 3 (e_plus (x_ix hu (x_ix hu (e_name 0) e_int) (e_name 1)) (x_ix hu (x_ix hu (e_name 0) e_int) (e_name 2))) nd) (s_cons (s_for [] rfl (i_lst (x_ix hu (e_name 0) e_int)) (g_tup rfl (gs_cons (g_name 4 nd) (gs_cons (g_name 5 nd) gs_nil))) (s_one (s_if (t_bool (t_and (t_cmp (x_in hu) (e_name 1) (e_name 4)) (t_and1 (t_cmp (x_in hu) (e_name 2) (e_name 4))))) (s_one (s_aadd 3 (e_name 5) nd)) s_nil))) (s_one (s_retv 3))))
abbrev s_cut_sum : Stmt := topS 3
abbrev N_cut_sum : List Str := ["prices", "some", "price"]
theorem sc_cut_sum : FnScope N_cut_sum ["prices"] (defScope s_cut_sum) := ⟨rfl, rfl, rfl, by decide +kernel, rfl, by decide +kernel, by decide +kernel⟩
theorem ok_cut_sum {P : Program} {w : World} {K : PySem.W.Frag} {mg : Str → Option Value} {base : Heap} {f : Addr} {fd : FuncData} (F : Fun K "cut_sum" "cut_sum" s_cut_sum f fd) (hB : Blts mg)  : FnOk P w K mg base CX0 1 f fd ["prices"] (spD K 1 R_cut_sum) := by
  refine def_ok (k := 0) F sc_cut_sum fun cdv A outer s H E hr => ?_
  have hu := hu_room hr
  have nd := sc_cut_sum.nd
  exact (s_one (s_ret (e_plus (e_bi (k_sum rfl) hB.sum PyProof.Rows.boot_sum (a_cons (x_ix hu (e_name 0) e_int) a_nil)) (e_bi (k_sum rfl) hB.sum PyProof.Rows.boot_sum (a_cons (e_lc [("some", 1), ("price", 2)] rfl nd (i_lst (x_ix hu (e_name 0) e_int)) (blkOk_by (N := N_cut_sum) (sc := defScope s_cut_sum) (by decide +kernel)) (fun _ _ _ _ _ => (g_tup rfl (gs_cons (g_name 1 nd) (gs_cons (g_name 2 nd) gs_nil)))) (fun _ _ _ _ _ => ts_nil) (fun _ _ _ _ _ => (e_name 2))) a_nil)))))
abbrev s_inner_sum : Stmt := topS 4
abbrev N_inner_sum : List Str := ["prices", "some", "price"]
theorem sc_inner_sum : FnScope N_inner_sum ["prices"] (defScope s_inner_sum) := ⟨rfl, rfl, rfl, by decide +kernel, rfl, by decide +kernel, by decide +kernel⟩
theorem ok_inner_sum {P : Program} {w : World} {K : PySem.W.Frag} {mg : Str → Option Value} {base : Heap} {f : Addr} {fd : FuncData} (F : Fun K "inner_sum" "inner_sum" s_inner_sum f fd) (hB : Blts mg)  : FnOk P w K mg base CX0 1 f fd ["prices"] (spD K 1 R_inner_sum) := by
  refine def_ok (k := 0) F sc_inner_sum fun cdv A outer s H E hr => ?_
  have hu := hu_room hr
  have nd := sc_inner_sum.nd
  exact (s_one (s_ret (e_plus (e_bi (k_sum rfl) hB.sum PyProof.Rows.boot_sum (a_cons (x_ix hu (e_name 0) e_int) a_nil)) (e_bi (k_sum rfl) hB.sum PyProof.Rows.boot_sum (a_cons (e_lc [("some", 1), ("price", 2)] rfl nd (i_lst (x_ix hu (e_name 0) e_int)) (blkOk_by (N := N_inner_sum) (sc := defScope s_inner_sum) (by decide +kernel)) (fun _ _ _ _ _ => (g_tup rfl (gs_cons (g_name 1 nd) (gs_cons (g_name 2 nd) gs_nil)))) (fun _ _ _ _ _ => ts_nil) (fun _ _ _ _ _ => (e_mul (e_name 2) (e_div (e_len hB.len (a_cons (e_name 1) a_nil)) e_int)))) a_nil)))))
abbrev s_law_cell_at : Stmt := topS 6
abbrev N_law_cell_at : List Str := ["_law_script", "_law_k"]
theorem sc_law_cell_at : FnScope N_law_cell_at ["_law_script", "_law_k"] (defScope s_law_cell_at) := ⟨rfl, rfl, rfl, by decide +kernel, rfl, by decide +kernel, by decide +kernel⟩
theorem ok_law_cell_at {P : Program} {w : World} {K : PySem.W.Frag} {mg : Str → Option Value} {base : Heap} {f : Addr} {fd : FuncData} (F : Fun K "_law_cell_at" "_law_cell_at" s_law_cell_at f fd) (hB : Blts mg)  : FnOk P w K mg base CX0 1 f fd ["_law_script", "_law_k"] (spD K 2 R_law_cell_at) := by
  refine def_ok (k := 0) F sc_law_cell_at fun cdv A outer s H E hr => ?_
  have hu := hu_room hr
  have nd := sc_law_cell_at.nd
  exact (s_cons (s_if (t_cmp (x_lt hu) (e_name 1) (e_len hB.len (a_cons (e_name 0) a_nil))) (s_one (s_ret (x_ix hu (e_name 0) (e_name 1)))) s_nil) (s_one (s_ret e_int)))
abbrev s_law_heavy : Stmt := topS 7
abbrev N_law_heavy : List Str := ["_law_cell"]
theorem sc_law_heavy : FnScope N_law_heavy ["_law_cell"] (defScope s_law_heavy) := ⟨rfl, rfl, rfl, by decide +kernel, rfl, by decide +kernel, by decide +kernel⟩
theorem ok_law_heavy {P : Program} {w : World} {K : PySem.W.Frag} {mg : Str → Option Value} {base : Heap} {f : Addr} {fd : FuncData} (F : Fun K "_law_heavy" "_law_heavy" s_law_heavy f fd) (hB : Blts mg)  : FnOk P w K mg base CX0 1 f fd ["_law_cell"] (spD K 1 R_law_heavy) := by
  refine def_ok (k := 0) F sc_law_heavy fun cdv A outer s H E hr => ?_
  have hu := hu_room hr
  have nd := sc_law_heavy.nd
  exact (s_cons (s_if (t_cmp (x_eq hu) (e_mod (e_name 0) e_int) e_int) (s_one (s_ret (e_sub (e_mod (e_div (e_name 0) e_int) e_int) e_int))) s_nil) (s_one (s_ret (e_plus (e_sub (e_mod (e_div (e_name 0) e_int) (e_sub (e_mul e_int (e_pow e_int e_int)) e_int)) (e_pow e_int e_int)) e_int))))
abbrev s_law_set : Stmt := topS 8
abbrev N_law_set : List Str := ["_law_cell", "_law_many", "_law_some", "_law_a"]
theorem sc_law_set : FnScope N_law_set ["_law_cell", "_law_many"] (defScope s_law_set) := ⟨rfl, rfl, rfl, by decide +kernel, rfl, by decide +kernel, by decide +kernel⟩
theorem ok_law_set {P : Program} {w : World} {K : PySem.W.Frag} {mg : Str → Option Value} {base : Heap} {f : Addr} {fd : FuncData} (F : Fun K "_law_set" "_law_set" s_law_set f fd) (hB : Blts mg)  : FnOk P w K mg base CX0 1 f fd ["_law_cell", "_law_many"] (spD K 2 R_law_set) := by
  refine def_ok (k := 0) F sc_law_set fun cdv A outer s H E hr => ?_
  have hu := hu_room hr
  have nd := sc_law_set.nd
  exact (s_cons (s_setLc 2 [("_law_a", 3)] rfl nd (i_range1 hB.range (a_cons (e_name 1) a_nil) len1) (blkOk_by (N := N_law_set) (sc := defScope s_law_set) (by decide +kernel)) (fun _ _ _ _ _ => (g_name 3 nd)) (fun _ _ _ _ _ => (ts_one (t_cmp (x_eq hu) (e_band (e_shr (e_mod (e_name 0) e_int) (e_name 3)) e_int) e_int))) (fun _ _ _ _ _ => (e_name 3)) (sw_true rfl rfl rfl (by decide +kernel))) (s_cons (s_if (t_cmp (x_eq hu) (e_mod (e_len hB.len (a_cons (e_name 2) a_nil)) e_int) e_int) (s_one (s_ret (e_sl (e_name 2) o_none (o_some (e_neg e_int))))) s_nil) (s_one (s_retv 2))))
abbrev s_law_sets : Stmt := topS 9
abbrev N_law_sets : List Str := ["_law_script", "_law_many", "_law_found", "_law_seen", "_law_cell", "_law_some"]
theorem sc_law_sets : FnScope N_law_sets ["_law_script", "_law_many"] (defScope s_law_sets) := ⟨rfl, rfl, rfl, by decide +kernel, rfl, by decide +kernel, by decide +kernel⟩
theorem ok_law_sets {P : Program} {w : World} {K : PySem.W.Frag} {mg : Str → Option Value} {base : Heap} {f : Addr} {fd : FuncData} (F : Fun K "_law_sets" "_law_sets" s_law_sets f fd) (hB : Blts mg) (G_law_set : FnD P w K mg base 1 "_law_set" 2 R_law_set) : FnOk P w K mg base CX0 2 f fd ["_law_script", "_law_many"] (spD K 2 R_law_sets) := by
  refine def_ok (k := 1) F sc_law_sets fun cdv A outer s H E hr => ?_
  have hu := hu_room hr
  have nd := sc_law_sets.nd
  exact (s_cons (s_set [] 2 (e_lst a_nil) nd) (s_cons (s_set [] 3 (e_lst a_nil) nd) (s_cons (s_for [] rfl (i_lst (e_sl (e_name 0) (o_some e_int) (o_some e_int))) (g_name 4 nd) (s_cons (s_set [] 5 (e_call G_law_set (hr.mono (by decide)) (a_cons (e_div (e_name 4) e_int) (a_cons (e_name 1) a_nil)) (hl := len2)) nd) (s_one (s_if (t_bool (t_and (t_cmp (x_gt hu) (e_len hB.len (a_cons (e_name 5) a_nil)) e_int) (t_and1 (t_cmp (x_nin hu) (e_name 5) (e_name 3))))) (s_cons (s_lop [5] 3 l_app PySem.F.slot_list_append PySem.F.type_list_append (a_cons (e_name 5) a_nil)) (s_one (s_lop [5] 2 l_app PySem.F.slot_list_append PySem.F.type_list_append (a_cons (e_tup (a_cons (e_name 5) (a_cons (e_plus e_int (e_mod (e_name 4) (e_pow e_int e_int))) a_nil))) a_nil)))) s_nil)))) (s_one (s_retv 2)))))
abbrev s_law_order : Stmt := topS 10
abbrev N_law_order : List Str := ["_law_script", "_law_many", "_law_found", "_law_a", "_law_at"]
theorem sc_law_order : FnScope N_law_order ["_law_script", "_law_many"] (defScope s_law_order) := ⟨rfl, rfl, rfl, by decide +kernel, rfl, by decide +kernel, by decide +kernel⟩
theorem ok_law_order {P : Program} {w : World} {K : PySem.W.Frag} {mg : Str → Option Value} {base : Heap} {f : Addr} {fd : FuncData} (F : Fun K "_law_order" "_law_order" s_law_order f fd) (hB : Blts mg) (G_law_cell_at : FnD P w K mg base 1 "_law_cell_at" 2 R_law_cell_at) : FnOk P w K mg base CX0 2 f fd ["_law_script", "_law_many"] (spD K 2 R_law_order) := by
  refine def_ok (k := 1) F sc_law_order fun cdv A outer s H E hr => ?_
  have hu := hu_room hr
  have nd := sc_law_order.nd
  exact (s_cons (s_set [] 2 (e_lst a_nil) nd) (s_cons (s_for [] rfl (i_range1 hB.range (a_cons (e_name 1) a_nil) len1) (g_name 3 nd) (s_cons (s_set [] 4 (e_mod (e_div (e_call G_law_cell_at (hr.mono (by decide)) (a_cons (e_name 0) (a_cons (e_plus e_int (e_name 3)) a_nil)) (hl := len2)) e_int) (e_plus (e_name 3) e_int)) nd) (s_one (s_fz [3] (s_set [] 2 (e_plus (e_plus (e_sl (e_name 2) o_none (o_some (e_name 4))) (e_lst (a_cons (e_name 3) a_nil))) (e_sl (e_name 2) (o_some (e_name 4)) o_none)) nd))))) (s_one (s_retv 2))))
abbrev s_law_out_of : Stmt := topS 11
abbrev N_law_out_of : List Str := ["_law_some", "_law_pairs", "_law_pair"]
theorem sc_law_out_of : FnScope N_law_out_of ["_law_some", "_law_pairs"] (defScope s_law_out_of) := ⟨rfl, rfl, rfl, by decide +kernel, rfl, by decide +kernel, by decide +kernel⟩
theorem ok_law_out_of {P : Program} {w : World} {K : PySem.W.Frag} {mg : Str → Option Value} {base : Heap} {f : Addr} {fd : FuncData} (F : Fun K "_law_out_of" "_law_out_of" s_law_out_of f fd) (hB : Blts mg)  : FnOk P w K mg base CX0 1 f fd ["_law_some", "_law_pairs"] (spD K 2 R_law_out_of) := by
  refine def_ok (k := 0) F sc_law_out_of fun cdv A outer s H E hr => ?_
  have hu := hu_room hr
  have nd := sc_law_out_of.nd
  exact (s_one (s_ret (e_len hB.len (a_cons (e_lc [("_law_pair", 2)] rfl nd (i_lst (e_name 1)) (blkOk_by (N := N_law_out_of) (sc := defScope s_law_out_of) (by decide +kernel)) (fun _ _ _ _ _ => (g_name 2 nd)) (fun _ _ _ _ _ => (ts_one (t_cmp (x_eq hu) (e_plus (e_mt m_count PySem.F.plainAttrs_list PySem.F.slot_list_count PySem.F.type_list_count (e_name 0) (a_cons (x_ix hu (e_name 2) e_int) a_nil)) (e_mt m_count PySem.F.plainAttrs_list PySem.F.slot_list_count PySem.F.type_list_count (e_name 0) (a_cons (x_ix hu (e_name 2) e_int) a_nil))) e_int))) (fun _ _ _ _ _ => (e_name 2))) a_nil))))
abbrev s_law : Stmt := topS 12
abbrev N_law : List Str := ["_law_script", "_law_head", "_law_many", "_law_points", "_law_sets_here", "_law_order_here", "_law_pairs", "_law_prices", "_law_paid", "_law_once", "_law_good", "_law_fewer", "_law_a", "_law_k", "_law_some", "_law_price", "_law_b", "_law_pair"]
theorem sc_law : FnScope N_law ["_law_script"] (defScope s_law) := ⟨rfl, rfl, rfl, by decide +kernel, rfl, by decide +kernel, by decide +kernel⟩
theorem ok_law {P : Program} {w : World} {K : PySem.W.Frag} {mg : Str → Option Value} {base : Heap} {f : Addr} {fd : FuncData} (F : Fun K "law" "law" s_law f fd) (hB : Blts mg) (G_law_cell_at : FnD P w K mg base 1 "_law_cell_at" 2 R_law_cell_at) (G_law_heavy : FnD P w K mg base 1 "_law_heavy" 1 R_law_heavy) (G_law_sets : FnD P w K mg base 2 "_law_sets" 2 R_law_sets) (G_law_order : FnD P w K mg base 2 "_law_order" 2 R_law_order) (G_cut_price : FnD P w K mg base 1 "cut_price" 3 R_cut_price) (G_law_out_of : FnD P w K mg base 1 "_law_out_of" 2 R_law_out_of) (G_cut_sum : FnD P w K mg base 1 "cut_sum" 1 R_cut_sum) (G_inner_price : FnD P w K mg base 1 "inner_price" 3 R_inner_price) (G_inner_sum : FnD P w K mg base 1 "inner_sum" 1 R_inner_sum) : FnOk P w K mg base CX0 3 f fd ["_law_script"] (spD K 1 R_law) := by
  refine def_ok (k := 2) F sc_law fun cdv A outer s H E hr => ?_
  have hu := hu_room hr
  have nd := sc_law.nd
  exact (s_cons (s_set [] 1 (e_mod (e_call G_law_cell_at (hr.mono (by decide)) (a_cons (e_name 0) (a_cons e_int a_nil)) (hl := len2)) e_int) nd) (s_cons (s_set [] 2 (e_mod (e_name 1) e_int) nd) (s_cons (s_setLc 3 [("_law_a", 12)] rfl nd (i_range1 hB.range (a_cons (e_name 2) a_nil) len1) (blkOk_by (N := N_law) (sc := defScope s_law) (by decide +kernel)) (fun _ _ _ _ _ => (g_name 12 nd)) (fun _ _ _ _ _ => ts_nil) (fun _ _ _ _ _ => (e_call G_law_heavy (hr.mono (by decide)) (a_cons (e_call G_law_cell_at (hr.mono (by decide)) (a_cons (e_name 0) (a_cons (e_plus e_int (e_name 12)) a_nil)) (hl := len2)) a_nil) (hl := len1))) (sw_true rfl rfl rfl (by decide +kernel))) (s_cons (s_set [] 4 (e_call G_law_sets (hr.mono (by decide)) (a_cons (e_name 0) (a_cons (e_name 2) a_nil)) (hl := len2)) nd) (s_cons (s_set [] 5 (e_call G_law_order (hr.mono (by decide)) (a_cons (e_name 0) (a_cons (e_name 2) a_nil)) (hl := len2)) nd) (s_cons (s_fz [5] (s_set [] 6 (e_lc [("_law_k", 13)] rfl nd (i_range1 hB.range (a_cons (e_div (e_name 2) e_int) a_nil) len1) (blkOk_by (N := N_law) (sc := defScope s_law) (by decide +kernel)) (fun _ _ _ _ _ => (g_name 13 nd)) (fun _ _ _ _ _ => ts_nil) (fun _ _ _ _ _ => (e_tup (a_cons (x_ix hu (e_name 5) (e_mul e_int (e_name 13))) (a_cons (x_ix hu (e_name 5) (e_plus (e_mul e_int (e_name 13)) e_int)) a_nil))))) nd)) (s_cons (s_if (t_cmp (x_eq hu) (e_mod (e_name 2) e_int) e_int) (s_cons (s_fz [4] (s_set [] 7 (e_tup (a_cons e_int (a_cons (e_ty (k_list) hB.list PyProof.Rows.boot_list (a_cons (e_name 3) a_nil)) (a_cons (e_lc [("_law_some", 14), ("_law_price", 15)] rfl nd (i_lst (e_name 4)) (blkOk_by (N := N_law) (sc := defScope s_law) (by decide +kernel)) (fun _ _ _ _ _ => (g_tup rfl (gs_cons (g_name 14 nd) (gs_cons (g_name 15 nd) gs_nil)))) (fun _ _ _ _ _ => ts_nil) (fun _ _ _ _ _ => (e_tup (a_cons (e_ty (k_list) hB.list PyProof.Rows.boot_list (a_cons (e_name 14) a_nil)) (a_cons (e_name 15) a_nil))))) a_nil)))) nd)) (s_cons (s_fz [6] (s_set [] 8 (e_bi (k_sum rfl) hB.sum PyProof.Rows.boot_sum (a_cons (e_lc [("_law_a", 12), ("_law_b", 16)] rfl nd (i_lst (e_name 6)) (blkOk_by (N := N_law) (sc := defScope s_law) (by decide +kernel)) (fun _ _ _ _ _ => (g_tup rfl (gs_cons (g_name 12 nd) (gs_cons (g_name 16 nd) gs_nil)))) (fun _ _ _ _ _ => ts_nil) (fun _ _ _ _ _ => (e_call G_cut_price (hr.mono (by decide)) (a_cons (e_name 7) (a_cons (e_name 12) (a_cons (e_name 16) a_nil))) (hl := len3)))) a_nil)) nd)) (s_cons (s_fz [4] (s_set [] 9 (e_bi (k_all rfl) hB.all PyProof.Rows.boot_all (a_cons (e_lc [("_law_some", 14), ("_law_price", 15)] rfl nd (i_lst (e_name 4)) (blkOk_by (N := N_law) (sc := defScope s_law) (by decide +kernel)) (fun _ _ _ _ _ => (g_tup rfl (gs_cons (g_name 14 nd) (gs_cons (g_name 15 nd) gs_nil)))) (fun _ _ _ _ _ => ts_nil) (fun _ _ _ _ _ => (e_cmp (x_eq hu) (e_call G_law_out_of (hr.mono (by decide)) (a_cons (e_name 14) (a_cons (e_name 6) a_nil)) (hl := len2)) e_int))) a_nil)) nd)) (s_one (s_if (t_bool (t_or (t_cmp (x_lt hu) (e_name 8) (e_call G_cut_sum (hr.mono (by decide)) (a_cons (e_name 7) a_nil) (hl := len1))) (t_or1 (t_cmp (x_ne hu) (e_cmp (x_eq hu) (e_name 8) (e_call G_cut_sum (hr.mono (by decide)) (a_cons (e_name 7) a_nil) (hl := len1))) (e_name 9))))) (s_one (s_ret e_bl)) s_nil))))) s_nil) (s_cons (s_fz [3, 4] (s_set [] 10 (e_tup (a_cons e_int (a_cons (e_lc [("_law_price", 15)] rfl nd (i_lst (e_name 3)) (blkOk_by (N := N_law) (sc := defScope s_law) (by decide +kernel)) (fun _ _ _ _ _ => (g_name 15 nd)) (fun _ _ _ _ _ => ts_nil) (fun _ _ _ _ _ => (e_bi (k_abs) hB.abs PyProof.Rows.boot_abs (a_cons (e_name 15) a_nil)))) (a_cons (e_lc [("_law_some", 14), ("_law_price", 15)] rfl nd (i_lst (e_name 4)) (blkOk_by (N := N_law) (sc := defScope s_law) (by decide +kernel)) (fun _ _ _ _ _ => (g_tup rfl (gs_cons (g_name 14 nd) (gs_cons (g_name 15 nd) gs_nil)))) (fun _ _ _ _ _ => ts_nil) (fun _ _ _ _ _ => (e_tup (a_cons (e_ty (k_list) hB.list PyProof.Rows.boot_list (a_cons (e_name 14) a_nil)) (a_cons (e_name 15) a_nil))))) a_nil)))) nd)) (s_cons (s_fz [6] (s_setLc 11 [("_law_k", 13), ("_law_pair", 17)] rfl nd (i_enum hB.enumerate (a_cons (e_name 6) a_nil)) (blkOk_by (N := N_law) (sc := defScope s_law) (by decide +kernel)) (fun _ _ _ _ _ => (g_tup rfl (gs_cons (g_name 13 nd) (gs_cons (g_name 17 nd) gs_nil)))) (fun _ _ _ _ _ => (ts_one (t_cmp (x_eq hu) (e_band (e_shr (e_div (e_name 1) e_int) (e_name 13)) e_int) e_int))) (fun _ _ _ _ _ => (e_name 17)) (sw_true rfl rfl rfl (by decide +kernel)))) (s_one (s_fz [11] (s_ret (e_cmp (x_le hu) (e_bi (k_sum rfl) hB.sum PyProof.Rows.boot_sum (a_cons (e_lc [("_law_a", 12), ("_law_b", 16)] rfl nd (i_lst (e_name 11)) (blkOk_by (N := N_law) (sc := defScope s_law) (by decide +kernel)) (fun _ _ _ _ _ => (g_tup rfl (gs_cons (g_name 12 nd) (gs_cons (g_name 16 nd) gs_nil)))) (fun _ _ _ _ _ => ts_nil) (fun _ _ _ _ _ => (e_call G_inner_price (hr.mono (by decide)) (a_cons (e_name 10) (a_cons (e_name 12) (a_cons (e_name 16) a_nil))) (hl := len3)))) a_nil)) (e_call G_inner_sum (hr.mono (by decide)) (a_cons (e_name 10) a_nil) (hl := len1)))))))))))))))
end Pr

set_option linter.all false
set_option maxRecDepth 100000
set_option maxHeartbeats 1000000
namespace Pr
open PySem PySem.Spec L2 Ev
theorem at_p0 (x y : D) : L2.atI [x, y] 0 = some x := rfl
theorem at_p1 (x y : D) : L2.atI [x, y] 1 = some y := rfl
theorem at_t0 (x y z : D) : L2.atI [x, y, z] 0 = some x := rfl
theorem at_t1 (x y z : D) : L2.atI [x, y, z] 1 = some y := rfl
theorem at_t2 (x y z : D) : L2.atI [x, y, z] 2 = some z := rfl
local macro_rules | `(tactic| walk_at "ev") => `(tactic| simp -implicitDefEqProofs [Ev.run, entry, sSeq, sNil, sIf, sSet, frzs, frz, Ev.tCmp, tVal, Ev.tOr, Ev.tAnd, Ev.tNot, eName, eLen, aCons, aNil, lenOf, imm, immAll, rA, gLt, gLe, gGe, gGt, gI, gEq, gNe, gIn, gNin, gInL, gInD, gInT, gT, sRet, sRetV, eIx, gIx, eC, eBi, bMin2, bMax2, bAbs, bList, bSum, bInt, itemsOf, seqOf, eTup, eLst, mkTup, mkLst, res, Ev.part, whole, shp, shps, eAdd, eSub, eMul, eDiv, eMod, eOp, ePlus, eCat, eNeg, eCmp, eAnd, eOr, eNot, eCall, mkR, eIsi, tyN, tgSet, tgsSet, sExpr, sLop, oApp, oIns, intOf, keepLv, eMt, mIndex, mCount, rcv, eSl, oSome, oNone, cutD, iLst, kit_ii, kit_ib, kit_ll, kit_tt, at_p0, at_p1, at_t0, at_t1, at_t2, sAug, eShr, eAnd2, ePow, eIf])
def cellAt (ns : List Int) (k : Int) : Int := if k < ns.length then ns.getD k.toNat 0 else 0
theorem R_cell (ns : List Int) (k : Int) (hk : 0 ≤ k) : R_law_cell_at [.fl (dInts ns), .int k] = some (.int (cellAt ns k), .full) := by
  unfold R_law_cell_at B_law_cell_at cellAt
  by_cases h : k < ns.length
  · walk_at "ev"
    obtain ⟨j, rfl⟩ : ∃ j : Nat, k = j := ⟨k.toNat, by omega⟩
    simp [h, atI_ints ns j (by omega), imm, rA, Ev.part]
    rw [List.getElem?_eq_getElem (by omega)]
    rfl
  · walk_at "ev"
    simp [h]
abbrev S5 := List Int × Int
def dSet (s : S5) : D := .tup [.lst (dInts s.1), .int s.2]
def dPr (u : Int) (ps : List Int) (ss : List S5) : D := .tup [.int u, .lst (dInts ps), .lst (ss.map dSet)]
def oneOf (a b : Int) (s : S5) : Bool := decide (a ∈ s.1) != decide (b ∈ s.1)
def bothOf (a b : Int) (s : S5) : Bool := decide (a ∈ s.1) && decide (b ∈ s.1)
def sel (p : S5 → Bool) (ss : List S5) : Int := ((ss.filter p).map (·.2)).sum
theorem sel_app (p : S5 → Bool) (ss : List S5) (s : S5) : sel p (ss ++ [s]) = sel p ss + (if p s = true then s.2 else 0) := by
  unfold sel
  rw [List.filter_append, List.map_append, List.sum_append]
  by_cases h : p s = true <;> simp [h]
def rhoC (u : Int) (ps : List Int) (ss : List S5) (a b t : Int) (x4 x5 : Option Sv) : Ev.Env := [some ⟨dPr u ps ss, .shr, true⟩, some ⟨.int a, .shr, true⟩, some ⟨.int b, .shr, true⟩, some ⟨.int t, .full, false⟩, x4, x5]
theorem S1_price (u : Int) (ps : List Int) (ss : List S5) (a b : Nat) (ha : a < ps.length) (hb : b < ps.length) :
    sSet [] 3 (ePlus (eIx (eIx (eName 0) (eC (.int 1))) (eName 1)) (eIx (eIx (eName 0) (eC (.int 1))) (eName 2))) (entry 6 [dPr u ps ss, .int a, .int b]) = some (.nx (rhoC u ps ss a b (ps[a] + ps[b]) none none)) := by
  unfold rhoC dPr
  have e1 := atI_ints ps a ha
  have e2 := atI_ints ps b hb
  walk_at "ev"
  simp [e1, e2]
  walk_at "ev"
theorem I_price (u : Int) (ps : List Int) (ss : List S5) (a b t : Int) (x4 x5 : Option Sv) : iLst (eIx (eName 0) (eC (.int 2))) (frzs [] (rhoC u ps ss a b t x4 x5)) = some (ss.map fun s => (dSet s, true)) := by
  unfold rhoC dPr
  walk_at "ev"
theorem T_price (u : Int) (ps : List Int) (ss : List S5) (a b t : Int) (x4 x5 : Option Sv) (s : S5) : tgSet (.tp [(.nm 4), (.nm 5)]) (dSet s) true (rhoC u ps ss a b t x4 x5) = some (rhoC u ps ss a b t (some ⟨.lst (dInts s.1), .shr, true⟩) (some ⟨.int s.2, .full, true⟩)) := by
  unfold rhoC dSet
  walk_at "ev"
theorem FB_cut (u : Int) (ps : List Int) (ss : List S5) (a b t : Int) (s : S5) : FB_cut_price_1 (rhoC u ps ss a b t (some ⟨.lst (dInts s.1), .shr, true⟩) (some ⟨.int s.2, .full, true⟩)) = some (.nx (rhoC u ps ss a b (t + if oneOf a b s = true then s.2 else 0) (some ⟨.lst (dInts s.1), .shr, true⟩) (some ⟨.int s.2, .full, true⟩))) := by
  unfold FB_cut_price_1 rhoC oneOf
  walk_at "ev"
  by_cases h1 : a ∈ s.1 <;> by_cases h2 : b ∈ s.1 <;> simp [h1, h2, deq, pd, PyData.eqv]
theorem FB_inner (u : Int) (ps : List Int) (ss : List S5) (a b t : Int) (s : S5) : FB_inner_price_1 (rhoC u ps ss a b t (some ⟨.lst (dInts s.1), .shr, true⟩) (some ⟨.int s.2, .full, true⟩)) = some (.nx (rhoC u ps ss a b (t + if bothOf a b s = true then s.2 else 0) (some ⟨.lst (dInts s.1), .shr, true⟩) (some ⟨.int s.2, .full, true⟩))) := by
  unfold FB_inner_price_1 rhoC bothOf
  walk_at "ev"
  by_cases h1 : a ∈ s.1 <;> by_cases h2 : b ∈ s.1 <;> simp [h1, h2]
theorem F_price (fb : EvS) (p : S5 → Bool) (u : Int) (ps : List Int) (ss : List S5) (a b t : Int) (hfb : ∀ t s, fb (rhoC u ps ss a b t (some ⟨.lst (dInts s.1), .shr, true⟩) (some ⟨.int s.2, .full, true⟩)) = some (.nx (rhoC u ps ss a b (t + if p s = true then s.2 else 0) (some ⟨.lst (dInts s.1), .shr, true⟩) (some ⟨.int s.2, .full, true⟩)))) :
    ∃ x4 x5, sFor [] (iLst (eIx (eName 0) (eC (.int 2)))) (.tp [(.nm 4), (.nm 5)]) fb (rhoC u ps ss a b t none none) = some (.nx (rhoC u ps ss a b (t + sel p ss) x4 x5)) := by
  rw [sFor_eq (I_price u ps ss a b t none none)]
  obtain ⟨ρ', h2, x4, x5, rfl⟩ := forL_ind (t := .tp [(.nm 4), (.nm 5)]) (b := fb) (f := fun s => (dSet s, true)) (xs := ss) (ρ0 := rhoC u ps ss a b t none none) (fun pre ρ => ∃ x4 x5, ρ = rhoC u ps ss a b (t + sel p pre) x4 x5) ⟨none, none, by simp [sel]⟩
    (fun pre x post ρ e ⟨x4, x5, hρ⟩ => by
      subst hρ
      refine ⟨_, _, T_price u ps ss a b _ x4 x5 x, .inl (hfb _ _), some ⟨.lst (dInts x.1), .shr, true⟩, some ⟨.int x.2, .full, true⟩, ?_⟩
      rw [sel_app, Int.add_assoc])
  exact ⟨x4, x5, h2⟩
theorem retC (u : Int) (ps : List Int) (ss : List S5) (a b t : Int) (x4 x5 : Option Sv) : sRetV 3 (rhoC u ps ss a b t x4 x5) = some (.rt (.int t) .full) := by
  unfold rhoC
  walk_at "ev"
theorem R_cut (u : Int) (ps : List Int) (ss : List S5) (a b : Nat) (ha : a < ps.length) (hb : b < ps.length) : R_cut_price [dPr u ps ss, .int a, .int b] = some (.int (ps[a] + ps[b] + sel (oneOf a b) ss), .full) := by
  obtain ⟨x4, x5, h⟩ := F_price FB_cut_price_1 (oneOf a b) u ps ss a b (ps[a] + ps[b]) fun t s => FB_cut u ps ss a b t s
  unfold R_cut_price B_cut_price F_cut_price_1
  exact run_rt ((sSeq_nx (S1_price u ps ss a b ha hb)).trans ((sSeq_nx h).trans (retC ..)))
theorem R_inner (u : Int) (ps : List Int) (ss : List S5) (a b : Nat) (ha : a < ps.length) (hb : b < ps.length) : R_inner_price [dPr u ps ss, .int a, .int b] = some (.int (ps[a] + ps[b] + sel (bothOf a b) ss), .full) := by
  obtain ⟨x4, x5, h⟩ := F_price FB_inner_price_1 (bothOf a b) u ps ss a b (ps[a] + ps[b]) fun t s => FB_inner u ps ss a b t s
  unfold R_inner_price B_inner_price F_inner_price_1
  exact run_rt ((sSeq_nx (S1_price u ps ss a b ha hb)).trans ((sSeq_nx h).trans (retC ..)))
theorem C_sum (ce : EvE) (g : S5 → Int) (u : Int) (ps : List Int) (ss : List S5) (hl : ss.length ≤ 1000) (h : ∀ s ∈ ss, ce [some ⟨dPr u ps ss, .shr, true⟩, some ⟨.lst (dInts s.1), .shr, true⟩, some ⟨.int s.2, .full, true⟩] = some (rA (.int (g s)))) :
    eLc (iLst (eIx (eName 0) (eC (.int 2)))) [1, 2] (.tp [(.nm 1), (.nm 2)]) tYes ce [some ⟨dPr u ps ss, .shr, true⟩, none, none] = some ⟨.lst (dInts (ss.map g)), .full, false, false⟩ := by
  have hi : iLst (eIx (eName 0) (eC (.int 2))) [some ⟨dPr u ps ss, .shr, true⟩, none, none] = some (ss.map fun s => (dSet s, true)) := by
    unfold dPr
    walk_at "ev"
  unfold eLc
  rw [hi]
  have h2 := lcL_map (t := .tp [(.nm 1), (.nm 2)]) (c := tYes) (e := ce) (f := fun s => (dSet s, true)) (ρ := wipeE [1, 2] [some ⟨dPr u ps ss, .shr, true⟩, none, none]) (fun _ => true) (fun s => rA (.int (g s))) ss (fun s hs => by
    refine ⟨[some ⟨dPr u ps ss, .shr, true⟩, some ⟨.lst (dInts s.1), .shr, true⟩, some ⟨.int s.2, .full, true⟩], ?_, rfl, fun _ => ⟨h s hs, rfl⟩⟩
    unfold dSet
    simp [tgSet, tgsSet, wipeE, imm])
  simp only [Option.bind_some]
  rw [h2, List.filter_eq_self.mpr (fun _ _ => rfl)]
  simp only [Option.bind_some]
  rw [mkBig_full (fun s => D.int (g s)) ss (by omega)]
  unfold dInts
  rw [List.map_map]
  rfl
theorem R_cutsum (u : Int) (ps : List Int) (ss : List S5) (hl : ss.length ≤ 1000) : R_cut_sum [dPr u ps ss] = some (.int (ps.sum + (ss.map (·.2)).sum), .full) := by
  have h := C_sum CE_cut_sum_1 (·.2) u ps ss hl (fun s hs => by
    unfold CE_cut_sum_1
    walk_at "ev")
  have e0 : eName 0 [some ⟨dPr u ps ss, .shr, true⟩, none, none] = some ⟨dPr u ps ss, .shr, true, false⟩ := rfl
  unfold R_cut_sum B_cut_sum
  refine run_rt ?_
  have e1 : entry 3 [dPr u ps ss] = [some ⟨dPr u ps ss, .shr, true⟩, none, none] := rfl
  rw [e1]
  unfold C_cut_sum_1
  simp only [sRet, ePlus, eAdd, eOp, eBi, aCons, aNil, h, Option.bind_some, List.map_cons, List.map_nil, eIx, e0, eC]
  unfold dPr
  walk_at "ev"
theorem R_innersum (u : Int) (ps : List Int) (ss : List S5) (hl : ss.length ≤ 1000) (hL : ∀ s ∈ ss, s.1.length ≤ 1000) : R_inner_sum [dPr u ps ss] = some (.int (ps.sum + (ss.map fun s => s.2 * ((s.1.length : Int) / 2)).sum), .full) := by
  have h := C_sum CE_inner_sum_1 (fun s => s.2 * ((s.1.length : Int) / 2)) u ps ss hl (fun s hs => by
    unfold CE_inner_sum_1
    have := hL s hs
    walk_at "ev"
    omega)
  have e0 : eName 0 [some ⟨dPr u ps ss, .shr, true⟩, none, none] = some ⟨dPr u ps ss, .shr, true, false⟩ := rfl
  unfold R_inner_sum B_inner_sum
  refine run_rt ?_
  have e1 : entry 3 [dPr u ps ss] = [some ⟨dPr u ps ss, .shr, true⟩, none, none] := rfl
  rw [e1]
  unfold C_inner_sum_1
  simp only [sRet, ePlus, eAdd, eOp, eBi, aCons, aNil, h, Option.bind_some, List.map_cons, List.map_nil, eIx, e0, eC]
  unfold dPr
  walk_at "ev"
theorem cnt (a : Int) (l : List Int) (h : l.Nodup) : l.count a = if a ∈ l then 1 else 0 := by
  by_cases m : a ∈ l
  · rw [if_pos m, h.count, if_pos m]
  · rw [if_neg m, List.count_eq_zero.mpr m]
def Good (m : Nat) (ss : List S5) : Prop := ss.length ≤ 100 ∧ ∀ s ∈ ss, s.1.Nodup ∧ s.1.length ≤ 1000 ∧ s.1.length % 2 = 1 ∧ (∀ x ∈ s.1, 0 ≤ x ∧ x < (m : Int)) ∧ 0 < s.2
theorem plusI {f g : EvE} {ρ : Ev.Env} {i j : Int} (h1 : f ρ = some (rA (.int i))) (h2 : g ρ = some (rA (.int j))) : ePlus f g ρ = some (rA (.int (i + j))) := by
  unfold ePlus eAdd eOp
  rw [h1, h2]
  rfl
theorem setA {f : EvE} {ρ : Ev.Env} {i : Nat} {r : Rv} (h : f ρ = some r) (hv : r.vw = false) (hi : i < ρ.length) : sSet [] i f ρ = some (.nx (ρ.set i (some ⟨r.d, r.l, r.al⟩))) := by
  simp -implicitDefEqProofs [sSet, frzs, h, hv, hi]
theorem sFor_nil {it : EvI} {t : Tg} {b : EvS} {ρ : Ev.Env} {items : List (D × Bool)} (h : it ρ = some items) : sFor [] it t b ρ = forL t b items ρ := sFor_eq h
theorem setN {ρ : Ev.Env} {i : Nat} {k : Int} (hi : i < ρ.length) : tgSet (.nm i) (.int k) false ρ = some (ρ.set i (some ⟨.int k, .full, false⟩)) := by
  unfold tgSet
  rw [if_pos hi]
  rfl
theorem tup3 {a b c : EvE} {ρ : Ev.Env} {ra rb rc : Rv} (h1 : a ρ = some ra) (h2 : b ρ = some rb) (h3 : c ρ = some rc) : eTup (aCons a (aCons b (aCons c aNil))) ρ = mkTup [ra, rb, rc] := by
  simp -implicitDefEqProofs [eTup, aCons, aNil, h1, h2, h3]
theorem nR (d : D) (l : Lv) (a : Bool) (h : imm d = false) (ρ : Ev.Env) (i : Nat) (e : ρ[i]? = some (some ⟨d, l, a⟩)) : eName i ρ = some ⟨d, .shr, a, decide (l ≠ .shr)⟩ := by
  unfold eName
  rw [e]
  simp [h]
theorem comp {α : Type} {it : EvI} {vs : List Nat} {t : Tg} {c : EvT} {e : EvE} {ρ : Ev.Env} (f : α → D × Bool) (p : α → Bool) (g : α → D) (xs : List α) (hl : xs.length ≤ 1000000) (hi : it ρ = some (xs.map f))
    (h : ∀ x ∈ xs, ∃ ρ1, tgSet t (f x).1 (f x).2 (wipeE vs ρ) = some ρ1 ∧ c ρ1 = some (p x) ∧ (p x = true → e ρ1 = some (rA (g x)))) : eLc it vs t c e ρ = some ⟨.lst ((xs.filter p).map g), .full, false, false⟩ := by
  have h2 := lcL_map (t := t) (c := c) (e := e) (f := f) (ρ := wipeE vs ρ) p (fun x => rA (g x)) xs (fun x hx => by
    obtain ⟨ρ1, h1, h2, h3⟩ := h x hx
    exact ⟨ρ1, h1, h2, fun z => ⟨h3 z, rfl⟩⟩)
  have h5 := mkBig_full g (xs.filter p) (Nat.le_trans (List.length_filter_le _ _) hl)
  unfold eLc
  rw [hi]
  simp only [Option.bind_some]
  rw [h2]
  simp only [Option.bind_some]
  rw [h5]
theorem compY {α : Type} {it : EvI} {vs : List Nat} {t : Tg} {e : EvE} {ρ : Ev.Env} (f : α → D × Bool) (g : α → D) (xs : List α) (hl : xs.length ≤ 1000000) (hi : it ρ = some (xs.map f))
    (h : ∀ x ∈ xs, ∃ ρ1, tgSet t (f x).1 (f x).2 (wipeE vs ρ) = some ρ1 ∧ e ρ1 = some (rA (g x))) : eLc it vs t tYes e ρ = some ⟨.lst (xs.map g), .full, false, false⟩ := by
  have := comp (c := tYes) f (fun _ => true) g xs hl hi (fun x hx => by
    obtain ⟨ρ1, h1, h2⟩ := h x hx
    exact ⟨ρ1, h1, rfl, fun _ => h2⟩)
  rw [List.filter_eq_self.mpr (fun _ _ => rfl)] at this
  exact this
end Pr

set_option linter.all false
set_option maxRecDepth 100000
set_option maxHeartbeats 1000000
namespace Pr
open PySem PySem.Spec L2 Ev
local macro_rules | `(tactic| walk_at "ev") => `(tactic| simp -implicitDefEqProofs [Ev.run, entry, sSeq, sNil, sIf, sSet, sFz, frzs, frz, Ev.tCmp, tVal, Ev.tOr, Ev.tAnd, Ev.tNot, eName, eLen, aCons, aNil, lenOf, imm, immAll, rA, gLt, gLe, gGe, gGt, gI, gEq, gNe, gIn, gNin, gInL, gInD, gInT, gT, sRet, sRetV, eIx, gIx, eC, eBi, bMin2, bMax2, bAbs, bList, bSum, bInt, itemsOf, seqOf, eTup, eLst, mkTup, mkLst, res, Ev.part, whole, shp, shps, eAdd, eSub, eMul, eDiv, eMod, eOp, ePlus, eCat, eNeg, eCmp, eAnd, eOr, eNot, eCall, mkR, eIsi, tyN, tgSet, tgsSet, sExpr, sLop, oApp, oIns, intOf, keepLv, eMt, mIndex, mCount, rcv, eSl, oSome, oNone, cutD, iLst, kit_ii, kit_ib, kit_ll, kit_tt, at_p0, at_p1, at_t0, at_t1, at_t2, sAug, eShr, eAnd2, ePow, eIf])
def heavy (c : Int) : Int := if c % 2 = 1 then c / 2 % 41 - 20 else c / 2 % (2 * 10 ^ 60 - 1) - 10 ^ 60 + 1
theorem R_heavy (c : Int) : R_law_heavy [.int c] = some (.int (heavy c), .full) := by
  unfold R_law_heavy B_law_heavy heavy
  by_cases h : c % 2 = 1
  · walk_at "ev"
    simp [h]
    all_goals walk_at "ev"
  · walk_at "ev"
    simp [h]
    all_goals walk_at "ev"
theorem cut_d (xs : List Int) (lo hi : Option Int) : cutL (dInts xs) lo hi = dInts (cutL xs lo hi) := by
  unfold cutL dInts
  rw [List.length_map, List.map_take, List.map_drop]
theorem cut_last (xs : List Int) : cutL xs none (some (-1)) = xs.take (xs.length - 1) := by
  have h : HT.sIx xs.length xs.length (some (-1)) = xs.length - 1 := by
    unfold HT.sIx
    simp only []
    rw [if_pos (by omega)]
    omega
  unfold cutL
  rw [h, HT.sIx_none]
  simp
def envS (c : Int) (m : Nat) (x2 x3 : Option Sv) : Ev.Env := [some ⟨.int c, .shr, true⟩, some ⟨.int m, .shr, true⟩, x2, x3]
def pSet (c : Int) (m : Nat) (x2 : Option Sv) (k : Nat) : Bool := (CT_law_set_1 (envS c m x2 (some ⟨.int k, .full, false⟩))).getD false
theorem C_set (c : Int) (m : Nat) (hm : m ≤ 1000) (x2 x3 : Option Sv) : ∃ p : Nat → Bool, C_law_set_1 (envS c m x2 x3) = some ⟨.lst (dInts (((List.range m).filter p).map fun (k : Nat) => (k : Int))), .full, false, false⟩ := by
  have hi : iRange (aCons (eName 1) aNil) (envS c m x2 x3) = some (iRng 0 m) := iRange_1 (r := rA (.int m)) rfl rfl (by omega)
  have hc : ∀ k : Nat, k < 1000 → CT_law_set_1 (envS c m x2 (some ⟨.int k, .full, false⟩)) = some (pSet c m x2 k) := fun k hk => by
    have : ∃ q, CT_law_set_1 (envS c m x2 (some ⟨.int k, .full, false⟩)) = some q := by
      unfold CT_law_set_1 envS
      walk_at "ev"
    obtain ⟨q, e⟩ := this
    unfold pSet
    rw [e]
    rfl
  refine ⟨pSet c m x2, ?_⟩
  unfold C_law_set_1 eLc
  rw [hi]
  have h2 := lcL_map (t := .nm 3) (c := CT_law_set_1) (e := CE_law_set_1) (f := fun (k : Nat) => (D.int (0 + (k : Int)), false)) (ρ := wipeE [3] (envS c m x2 x3)) (pSet c m x2) (fun (k : Nat) => rA (.int (k : Int))) (List.range m) (fun k hk => by
    have hk := List.mem_range.mp hk
    refine ⟨envS c m x2 (some ⟨.int k, .full, false⟩), ?_, hc k (by omega), fun _ => ⟨?_, rfl⟩⟩
    · unfold envS
      simp [tgSet, wipeE, imm]
    · unfold CE_law_set_1 envS
      walk_at "ev")
  have h5 := mkBig_full (fun (k : Nat) => D.int (k : Int)) ((List.range m).filter (pSet c m x2)) (Nat.le_trans (List.length_filter_le _ _) (by simp; omega))
  simp only [Option.bind_some]
  have h6 : lcL (.nm 3) CT_law_set_1 CE_law_set_1 (wipeE [3] (envS c m x2 x3)) (iRng 0 m) = _ := h2
  rw [h6]
  simp only [Option.bind_some]
  rw [h5]
  unfold dInts
  rw [List.map_map]
  rfl
theorem castNd {l : List Nat} (h : l.Nodup) : (l.map fun (k : Nat) => (k : Int)).Nodup := List.Pairwise.map (fun (k : Nat) => (k : Int)) (fun a b e => by omega) h
theorem R_set (c : Int) (m : Nat) (hm : m ≤ 24) : ∃ l, R_law_set [.int c, .int m] = some (.lst (dInts l), .full) ∧ l.Nodup ∧ l.length ≤ 1000 ∧ (l.length % 2 = 1 ∨ l = []) ∧ ∀ x ∈ l, 0 ≤ x ∧ x < (m : Int) := by
  obtain ⟨p, hC⟩ := C_set c m (by omega) none none
  generalize hl : (((List.range m).filter p).map fun (k : Nat) => (k : Int)) = l at hC
  have nd : l.Nodup := by rw [← hl]; exact castNd (List.nodup_range.sublist List.filter_sublist)
  have ln : l.length ≤ 24 := by
    rw [← hl, List.length_map]
    refine Nat.le_trans (List.length_filter_le _ _) ?_
    rw [List.length_range]
    exact hm
  have hb : ∀ x ∈ l, 0 ≤ x ∧ x < (m : Int) := by
    intro x hx
    rw [← hl] at hx
    obtain ⟨k, hk, rfl⟩ := List.mem_map.mp hx
    have := List.mem_range.mp (List.mem_filter.mp hk).1
    omega
  have s1 : sSet [] 2 C_law_set_1 (entry 4 [.int c, .int m]) = some (.nx (envS c m (some ⟨.lst (dInts l), .full, false⟩) none)) := setA (ρ := envS c m none none) hC rfl (by unfold envS; simp)
  unfold R_law_set B_law_set
  by_cases h : l.length % 2 = 0
  · refine ⟨l.take (l.length - 1), ?_, nd.sublist (List.take_sublist _ _), by simp; omega, ?_, fun x hx => hb x (List.mem_of_mem_take hx)⟩
    · refine run_rt ((sSeq_nx s1).trans (sSeq_rt ?_))
      have e1 : tCmp gEq (eMod (eLen (aCons (eName 2) aNil)) (eC (.int 2))) (eC (.int 0)) (envS c m (some ⟨.lst (dInts l), .full, false⟩) none) = some true := by
        unfold envS
        walk_at "ev"
        omega
      have e2 : eSl (eName 2) oNone (oSome (eNeg (eC (.int 1)))) (envS c m (some ⟨.lst (dInts l), .full, false⟩) none) = some ⟨.lst (dInts (l.take (l.length - 1))), .full, false, false⟩ := by
        have n2 : eName 2 (envS c m (some ⟨.lst (dInts l), .full, false⟩) none) = some ⟨.lst (dInts l), .shr, false, true⟩ := rfl
        have n1 : oSome (eNeg (eC (.int 1))) (envS c m (some ⟨.lst (dInts l), .full, false⟩) none) = some (some (-1)) := by
          unfold envS
          walk_at "ev"
        simp only [eSl, n2, n1, oNone, Option.bind_some, cutD, cut_d, cut_last, Option.map_some]
        simp [res, imm, whole]
      unfold sIf
      rw [e1]
      simp only [Option.bind_some, if_true, sRet, e2]
      rfl
    · rw [List.length_take]
      by_cases h0 : l.length = 0
      · right
        rw [List.length_eq_zero_iff.mp h0]
        rfl
      · left
        omega
  · refine ⟨l, ?_, nd, by omega, by omega, hb⟩
    refine run_rt ((sSeq_nx s1).trans ?_)
    unfold envS
    walk_at "ev"
    have : ((l.length : Int) % 2 = 0) = False := by
      simp only [eq_iff_iff, iff_false]
      omega
    simp [this]
/-! the sets -/
def dL (l : List Int) : D := .lst (dInts l)
theorem shps_dL : ∀ seen : List (List Int), shps 7 (seen.map dL) = true
  | [] => rfl
  | l :: r => by
    rw [List.map_cons, shps, shps_dL r]
    simp [dL, shp]
def rhoS (sc : D) (m : Nat) (fnd : List S5) (seen : List (List Int)) (l2 l3 : Lv) (x4 x5 : Option Sv) : Ev.Env := [some ⟨sc, .shr, true⟩, some ⟨.int m, .shr, true⟩, some ⟨.lst (fnd.map dSet), l2, false⟩, some ⟨.lst (seen.map dL), l3, false⟩, x4, x5]
theorem FB_sets (sc : D) (m : Nat) (hm : m ≤ 24) (fnd : List S5) (seen : List (List Int)) (l2 l3 : Lv) (h2 : l2 ≠ .shr) (h3 : l3 ≠ .shr) (c : Int) (a4 : Bool) (x5 : Option Sv) (g : ∀ s ∈ fnd, s.1.Nodup ∧ s.1.length ≤ 1000 ∧ s.1.length % 2 = 1 ∧ (∀ x ∈ s.1, 0 ≤ x ∧ x < (m : Int)) ∧ 0 < s.2) (hf : fnd.length ≤ 1000) (hs : seen.length ≤ 1000) :
    ∃ fnd' seen' l2' l3' x5', FB_law_sets_1 (rhoS sc m fnd seen l2 l3 (some ⟨.int c, .full, a4⟩) x5) = some (.nx (rhoS sc m fnd' seen' l2' l3' (some ⟨.int c, .full, a4⟩) x5')) ∧ l2' ≠ .shr ∧ l3' ≠ .shr ∧ (∀ s ∈ fnd', s.1.Nodup ∧ s.1.length ≤ 1000 ∧ s.1.length % 2 = 1 ∧ (∀ x ∈ s.1, 0 ≤ x ∧ x < (m : Int)) ∧ 0 < s.2) ∧ fnd'.length ≤ fnd.length + 1 ∧ seen'.length ≤ seen.length + 1 := by
  obtain ⟨l, hl, nd, ln, od, hb⟩ := R_set (c / 3) m hm
  have q1 : eCall R_law_set (aCons (eDiv (eName 4) (eC (.int 3))) (aCons (eName 1) aNil)) (rhoS sc m fnd seen l2 l3 (some ⟨.int c, .full, a4⟩) x5) = some ⟨.lst (dInts l), .full, false, false⟩ := by
    unfold rhoS
    walk_at "ev"
    rw [hl]
    exact ⟨_, _, rfl, rfl⟩
  have s1 := setA q1 rfl (i := 5) (by unfold rhoS; simp)
  unfold FB_law_sets_1
  have q2 : ∃ k, (k = true → 2 < l.length) ∧ tAnd (tCmp gGt (eLen (aCons (eName 5) aNil)) (eC (.int 2))) (tCmp gNin (eName 5) (eName 3)) (rhoS sc m fnd seen l2 l3 (some ⟨.int c, .full, a4⟩) (some ⟨.lst (dInts l), .full, false⟩)) = some k := by
    by_cases h : 2 < l.length
    · have : ∃ k, tAnd (tCmp gGt (eLen (aCons (eName 5) aNil)) (eC (.int 2))) (tCmp gNin (eName 5) (eName 3)) (rhoS sc m fnd seen l2 l3 (some ⟨.int c, .full, a4⟩) (some ⟨.lst (dInts l), .full, false⟩)) = some k := by
        have := shps_dL seen
        unfold rhoS
        walk_at "ev"
        simp only [this]
        have h' : (2 : Int) < l.length := by omega
        simp [h']
        cases e : seen.any ((fun z => deq z (D.lst (dInts l))) ∘ dL) with
        | false => exact .inr (by simpa using e)
        | true => exact .inl (by simpa using e)
      obtain ⟨k, e⟩ := this
      exact ⟨k, fun _ => h, e⟩
    · unfold rhoS
      refine ⟨false, fun z => (by cases z), ?_⟩
      walk_at "ev"
      have : ¬ (2 : Int) < l.length := by omega
      simp [this]
  obtain ⟨k, hk, q2⟩ := q2
  cases k with
  | false =>
    refine ⟨fnd, seen, l2, l3, some ⟨.lst (dInts l), .full, false⟩, (sSeq_nx s1).trans ?_, h2, h3, g, by omega, by omega⟩
    show sIf _ _ _ (rhoS sc m fnd seen l2 l3 (some ⟨.int c, .full, a4⟩) (some ⟨.lst (dInts l), .full, false⟩)) = _
    unfold sIf
    rw [q2]
    rfl
  | true =>
    have hlen := hk rfl
    have s3 : sLop oApp [5] 3 (aCons (eName 5) aNil) (rhoS sc m fnd seen l2 l3 (some ⟨.int c, .full, a4⟩) (some ⟨.lst (dInts l), .full, false⟩)) = some (.nx (rhoS sc m fnd (seen ++ [l]) l2 .top (some ⟨.int c, .full, a4⟩) (some ⟨.lst (dInts l), .shr, false⟩))) := by
      unfold rhoS
      walk_at "ev"
      simp [h3, dL]
      omega
    have s4 : sLop oApp [5] 2 (aCons (eTup (aCons (eName 5) (aCons (ePlus (eC (.int 1)) (eMod (eName 4) (ePow (eC (.int 10)) (eC (.int 60))))) aNil))) aNil) (rhoS sc m fnd (seen ++ [l]) l2 .top (some ⟨.int c, .full, a4⟩) (some ⟨.lst (dInts l), .shr, false⟩)) = some (.nx (rhoS sc m (fnd ++ [(l, 1 + c % 10 ^ 60)]) (seen ++ [l]) .top .top (some ⟨.int c, .full, a4⟩) (some ⟨.lst (dInts l), .shr, false⟩))) := by
      unfold rhoS
      walk_at "ev"
      simp [h2, dSet]
      omega
    refine ⟨fnd ++ [(l, 1 + c % 10 ^ 60)], seen ++ [l], .top, .top, some ⟨.lst (dInts l), .shr, false⟩, (sSeq_nx s1).trans ?_, by simp, by simp, ?_, by simp, by simp⟩
    · show sIf _ _ _ (rhoS sc m fnd seen l2 l3 (some ⟨.int c, .full, a4⟩) (some ⟨.lst (dInts l), .full, false⟩)) = _
      unfold sIf
      rw [q2]
      exact (sSeq_nx s3).trans s4
    · intro s hs
      rcases List.mem_append.mp hs with h | h
      · exact g s h
      · rw [List.mem_singleton.mp h]
        refine ⟨nd, ln, ?_, hb, ?_⟩
        rotate_left
        · have := Int.emod_nonneg c (b := 10 ^ 60) (by decide)
          show 0 < 1 + c % 10 ^ 60
          omega
        rcases od with h | h
        · exact h
        · rw [h] at hlen
          simp at hlen
theorem F_sets (ns : List Int) (m : Nat) (hm : m ≤ 24) (hn : ns.length ≤ 63) : ∃ fnd seen l2 l3 x4 x5, F_law_sets_1 (rhoS (.fl (dInts ns)) m [] [] .full .full none none) = some (.nx (rhoS (.fl (dInts ns)) m fnd seen l2 l3 x4 x5)) ∧ l2 ≠ .shr ∧ Good m fnd ∧ fnd.length ≤ 63 := by
  have hi : ∃ al, iLst (eSl (eName 0) (oSome (eC (.int 14))) (oSome (eC (.int 63)))) (rhoS (.fl (dInts ns)) m [] [] .full .full none none) = some ((cutL ns (some 14) (some 63)).map fun c => (D.int c, al)) := by
    refine ⟨false, ?_⟩
    unfold rhoS
    walk_at "ev"
    rw [cut_d]
    simp
    unfold dInts
    rw [List.map_map]
    rfl
  obtain ⟨al, hi⟩ := hi
  have hc : (cutL ns (some 14) (some 63)).length ≤ 63 := by
    unfold cutL
    rw [List.length_take, List.length_drop]
    omega
  have h0 : F_law_sets_1 (rhoS (.fl (dInts ns)) m [] [] .full .full none none) = forL (.nm 4) FB_law_sets_1 ((cutL ns (some 14) (some 63)).map fun c => (D.int c, al)) (rhoS (.fl (dInts ns)) m [] [] .full .full none none) := by
    unfold F_law_sets_1
    exact sFor_nil hi
  rw [h0]
  generalize cutL ns (some 14) (some 63) = cs at hc
  obtain ⟨ρ', h2, fnd, seen, l2, l3, x4, x5, rfl, p2, p3, p4, p5, p6⟩ := forL_ind (t := .nm 4) (b := FB_law_sets_1) (f := fun c => (D.int c, al)) (xs := cs) (ρ0 := rhoS (.fl (dInts ns)) m [] [] .full .full none none)
    (fun pre ρ => ∃ fnd seen l2 l3 x4 x5, ρ = rhoS (.fl (dInts ns)) m fnd seen l2 l3 x4 x5 ∧ l2 ≠ .shr ∧ l3 ≠ .shr ∧ (∀ s ∈ fnd, s.1.Nodup ∧ s.1.length ≤ 1000 ∧ s.1.length % 2 = 1 ∧ (∀ x ∈ s.1, 0 ≤ x ∧ x < (m : Int)) ∧ 0 < s.2) ∧ fnd.length ≤ pre.length ∧ seen.length ≤ pre.length) ⟨[], [], .full, .full, none, none, rfl, by simp, by simp, fun s hs => (by cases hs), by simp, by simp⟩
    (fun pre x post ρ e ⟨fnd, seen, l2, l3, x4, x5, hρ, p2, p3, p4, p5, p6⟩ => by
      subst hρ
      have hp : pre.length + (post.length + 1) = cs.length := by rw [e]; simp
      obtain ⟨fnd', seen', l2', l3', x5', hb, q2, q3, q4, q5, q6⟩ := FB_sets (.fl (dInts ns)) m hm fnd seen l2 l3 p2 p3 x al x5 p4 (by omega) (by omega)
      refine ⟨rhoS (.fl (dInts ns)) m fnd seen l2 l3 (some ⟨.int x, .full, al⟩) x5, _, ?_, .inl hb, fnd', seen', l2', l3', some ⟨.int x, .full, al⟩, x5', rfl, q2, q3, q4, ?_, ?_⟩
      · unfold rhoS tgSet
        simp [imm]
      · rw [List.length_append, List.length_singleton]
        omega
      · rw [List.length_append, List.length_singleton]
        omega)
  exact ⟨fnd, seen, l2, l3, x4, x5, h2, p2, ⟨by omega, p4⟩, by omega⟩
theorem R_sets (ns : List Int) (m : Nat) (hm : m ≤ 24) (hn : ns.length ≤ 63) : ∃ ss l, R_law_sets [.fl (dInts ns), .int m] = some (.lst (ss.map dSet), l) ∧ l ≠ .shr ∧ Good m ss ∧ ss.length ≤ 63 := by
  obtain ⟨fnd, seen, l2, l3, x4, x5, h, p2, g, h63⟩ := F_sets ns m hm hn
  refine ⟨fnd, l2, ?_, p2, g, h63⟩
  have s1 : sSet [] 2 (eLst aNil) (entry 6 [.fl (dInts ns), .int m]) = some (.nx [some ⟨.fl (dInts ns), .shr, true⟩, some ⟨.int m, .shr, true⟩, some ⟨.lst [], .full, false⟩, none, none, none]) := by
    walk_at "ev"
  have s2 : sSet [] 3 (eLst aNil) [some ⟨.fl (dInts ns), .shr, true⟩, some ⟨.int m, .shr, true⟩, some ⟨.lst [], .full, false⟩, none, none, none] = some (.nx (rhoS (.fl (dInts ns)) m [] [] .full .full none none)) := by
    unfold rhoS
    walk_at "ev"
  have s4 : sRetV 2 (rhoS (.fl (dInts ns)) m fnd seen l2 l3 x4 x5) = some (.rt (.lst (fnd.map dSet)) l2) := by
    unfold rhoS
    walk_at "ev"
  unfold R_law_sets B_law_sets
  exact run_rt ((sSeq_nx s1).trans ((sSeq_nx s2).trans ((sSeq_nx h).trans s4)))
end Pr

set_option linter.all false
set_option maxRecDepth 100000
set_option maxHeartbeats 1000000
namespace Pr
open PySem PySem.Spec L2 Ev
abbrev Pairs := List (Int × Int)
def flat (ps : Pairs) : List Int := ps.flatMap fun p => [p.1, p.2]
theorem flat_cons (p : Int × Int) (ps : Pairs) : flat (p :: ps) = p.1 :: p.2 :: flat ps := by
  unfold flat
  rw [List.flatMap_cons]
  rfl
def prs (o : List Int) : Pairs := (List.range (o.length / 2)).map fun k => (o.getD (2 * k) 0, o.getD (2 * k + 1) 0)
theorem prs_cons (x y : Int) (r : List Int) : prs (x :: y :: r) = (x, y) :: prs r := by
  unfold prs
  rw [show (x :: y :: r).length / 2 = r.length / 2 + 1 by simp only [List.length_cons]; omega, List.range_succ_eq_map, List.map_cons, List.map_map]
  rfl
theorem flat_sub : ∀ (n : Nat) (r : List Int), r.length ≤ n → (flat (prs r)).Sublist r
  | 0, r, e => by
    cases r with
    | nil => exact .slnil
    | cons _ _ => simp at e
  | n + 1, r, e => by
    match r, e with
    | [], _ => exact .slnil
    | [x], _ =>
      have : prs [x] = [] := by unfold prs; simp
      rw [this]
      exact List.nil_sublist _
    | x :: y :: r, e =>
      rw [prs_cons, flat_cons]
      exact ((flat_sub n r (by simp at e; omega)).cons_cons y).cons_cons x
theorem flat_mono {a b : Pairs} (h : a.Sublist b) : (flat a).Sublist (flat b) := by
  induction h with
  | slnil => exact .slnil
  | cons p _ ih =>
    rw [flat_cons]
    exact (ih.cons p.2).cons p.1
  | cons_cons p _ ih =>
    rw [flat_cons, flat_cons]
    exact (ih.cons_cons p.2).cons_cons p.1
theorem flat_even (r : List Int) (h : r.length % 2 = 0) : flat (prs r) = r := by
  refine (flat_sub r.length r (Nat.le_refl _)).eq_of_length ?_
  have : ∀ ps : Pairs, (flat ps).length = 2 * ps.length := fun ps => by
    induction ps with
    | nil => rfl
    | cons p ps ih => rw [flat_cons, List.length_cons, List.length_cons, ih, List.length_cons]; omega
  rw [this]
  unfold prs
  rw [List.length_map, List.length_range]
  omega
def one1 (s : S5) (p : Int × Int) : Bool := oneOf p.1 p.2 s
def two1 (s : S5) (p : Int × Int) : Bool := bothOf p.1 p.2 s
theorem selE (q : S5 → Bool) (ss : List S5) : sel q ss = (ss.map fun s => if q s = true then s.2 else 0).sum := by
  induction ss with
  | nil => rfl
  | cons s ss ih =>
    unfold sel at ih ⊢
    rw [List.filter_cons, List.map_cons, List.sum_cons, ← ih]
    by_cases h : q s = true
    · rw [if_pos h, if_pos h]
      rfl
    · rw [if_neg h, if_neg h, Int.zero_add]
theorem sum_add {α : Type} (f g : α → Int) : ∀ l : List α, (l.map fun x => f x + g x).sum = (l.map f).sum + (l.map g).sum
  | [] => rfl
  | x :: l => by
    simp only [List.map_cons, List.sum_cons, sum_add f g l]
    omega
theorem swap (q : S5 → Int × Int → Bool) (ss : List S5) : ∀ ps : Pairs, (ps.map fun p => sel (fun s => q s p) ss).sum = (ss.map fun s => s.2 * (ps.countP (q s) : Int)).sum
  | [] => by
    simp
    induction ss with
    | nil => rfl
    | cons s ss ih => simpa using ih
  | p :: ps => by
    rw [List.map_cons, List.sum_cons, swap q ss ps, selE, ← sum_add]
    congr 1
    apply List.map_congr_left
    intro s _
    rw [List.countP_cons]
    by_cases h : q s p = true
    · rw [if_pos h, if_pos h]
      push_cast
      rw [Int.mul_add]
      omega
    · rw [if_neg h, if_neg h]
      simp
theorem sum_flat (f : Int → Int) : ∀ ps : Pairs, (ps.map fun p => f p.1 + f p.2).sum = ((flat ps).map f).sum
  | [] => rfl
  | p :: ps => by
    rw [flat_cons]
    simp only [List.map_cons, List.sum_cons, sum_flat f ps]
    omega
theorem cnt_flat (s : S5) : ∀ ps : Pairs, (flat ps).countP (fun x => decide (x ∈ s.1)) = ps.countP (one1 s) + 2 * ps.countP (two1 s)
  | [] => rfl
  | p :: ps => by
    have ih := cnt_flat s ps
    rw [flat_cons]
    simp only [List.countP_cons, ih]
    unfold one1 two1 oneOf bothOf
    by_cases h1 : p.1 ∈ s.1 <;> by_cases h2 : p.2 ∈ s.1 <;> simp [h1, h2] <;> omega
theorem cnt_all {o : List Int} {m : Nat} (hp : o.Perm ((List.range m).map fun (k : Nat) => (k : Int))) {l : List Int} (nd : l.Nodup) (hl : ∀ x ∈ l, 0 ≤ x ∧ x < (m : Int)) : o.countP (fun x => decide (x ∈ l)) = l.length := by
  have ndo : o.Nodup := hp.nodup_iff.mpr (castNd List.nodup_range)
  rw [List.countP_eq_length_filter]
  refine List.Perm.length_eq ((List.perm_ext_iff_of_nodup (ndo.sublist List.filter_sublist) nd).mpr fun x => ?_)
  rw [List.mem_filter]
  constructor
  · rintro ⟨_, h⟩
    exact of_decide_eq_true h
  · intro h
    have := hl x h
    exact ⟨hp.mem_iff.mpr (List.mem_map.mpr ⟨x.toNat, List.mem_range.mpr (by omega), by omega⟩), decide_eq_true h⟩
def pAt (ps : List Int) (x : Int) : Int := ps.getD x.toNat 0
theorem sum_perm {l l' : List Int} (h : l.Perm l') : l.sum = l'.sum := by
  induction h with
  | nil => rfl
  | cons x _ ih => rw [List.sum_cons, List.sum_cons, ih]
  | swap x y l => simp only [List.sum_cons]; omega
  | trans _ _ a b => exact a.trans b
theorem sum_all {o : List Int} {m : Nat} (hp : o.Perm ((List.range m).map fun (k : Nat) => (k : Int))) (ps : List Int) (hl : ps.length = m) : (o.map (pAt ps)).sum = ps.sum := by
  rw [sum_perm (hp.map (pAt ps)), List.map_map]
  congr 1
  apply List.ext_getElem
  · simp [hl]
  · intro i h1 h2
    simp [pAt]
    rw [List.getElem?_eq_getElem h2]
    rfl
theorem sum_sub {l l' : List Int} (h : l.Sublist l') (h0 : ∀ x ∈ l', 0 ≤ x) : l.sum ≤ l'.sum := by
  induction h with
  | slnil => exact Int.le_refl _
  | cons x _ ih =>
    have := ih fun y hy => h0 y (List.mem_cons_of_mem _ hy)
    have := h0 x List.mem_cons_self
    rw [List.sum_cons]
    omega
  | cons_cons x _ ih =>
    have := ih fun y hy => h0 y (List.mem_cons_of_mem _ hy)
    rw [List.sum_cons, List.sum_cons]
    omega
theorem sum_le {α : Type} (f g : α → Int) : ∀ l : List α, (∀ x ∈ l, f x ≤ g x) → (l.map f).sum ≤ (l.map g).sum
  | [], _ => Int.le_refl _
  | x :: l, h => by
    have := sum_le f g l fun y hy => h y (List.mem_cons_of_mem _ hy)
    have := h x List.mem_cons_self
    simp only [List.map_cons, List.sum_cons]
    omega
theorem sum_eq_iff {α : Type} (f g : α → Int) : ∀ l : List α, (∀ x ∈ l, f x ≤ g x) → ((l.map f).sum = (l.map g).sum ↔ ∀ x ∈ l, f x = g x)
  | [], _ => by simp
  | x :: l, h => by
    have ih := sum_eq_iff f g l fun y hy => h y (List.mem_cons_of_mem _ hy)
    have h1 := sum_le f g l fun y hy => h y (List.mem_cons_of_mem _ hy)
    have h2 := h x List.mem_cons_self
    simp only [List.map_cons, List.sum_cons]
    constructor
    · intro e y hy
      rcases List.mem_cons.mp hy with rfl | hy
      · omega
      · exact ih.mp (by omega) y hy
    · intro e
      rw [e x List.mem_cons_self, ih.mpr fun y hy => e y (List.mem_cons_of_mem _ hy)]
def cutP (ps : List Int) (ss : List S5) (p : Int × Int) : Int := pAt ps p.1 + pAt ps p.2 + sel (oneOf p.1 p.2) ss
def innP (ps : List Int) (ss : List S5) (p : Int × Int) : Int := pAt ps p.1 + pAt ps p.2 + sel (bothOf p.1 p.2) ss
/-- all points paired -/
theorem paid_eq {o : List Int} {m : Nat} (hp : o.Perm ((List.range m).map fun (k : Nat) => (k : Int))) (he : m % 2 = 0) (ps : List Int) (hl : ps.length = m) (ss : List S5) :
    ((prs o).map (cutP ps ss)).sum = ps.sum + (ss.map fun s => s.2 * ((prs o).countP (one1 s) : Int)).sum := by
  have ho : o.length % 2 = 0 := by rw [hp.length_eq]; simpa using he
  unfold cutP
  rw [sum_add, sum_flat, flat_even o ho, sum_all hp ps hl, swap (fun s p => oneOf p.1 p.2 s)]
  rfl
theorem once_pos {o : List Int} {m : Nat} (hp : o.Perm ((List.range m).map fun (k : Nat) => (k : Int))) (he : m % 2 = 0) {ss : List S5} (g : Good m ss) {s : S5} (hs : s ∈ ss) : 1 ≤ (prs o).countP (one1 s) := by
  have ho : o.length % 2 = 0 := by rw [hp.length_eq]; simpa using he
  obtain ⟨nd, _, od, bd, _⟩ := g.2 s hs
  have h1 := cnt_flat s (prs o)
  rw [flat_even o ho, cnt_all hp nd bd] at h1
  omega
theorem paid_law {o : List Int} {m : Nat} (hp : o.Perm ((List.range m).map fun (k : Nat) => (k : Int))) (he : m % 2 = 0) (ps : List Int) (hl : ps.length = m) {ss : List S5} (g : Good m ss) :
    ps.sum + (ss.map (·.2)).sum ≤ ((prs o).map (cutP ps ss)).sum ∧ (((prs o).map (cutP ps ss)).sum = ps.sum + (ss.map (·.2)).sum ↔ ∀ s ∈ ss, (prs o).countP (one1 s) = 1) := by
  rw [paid_eq hp he ps hl]
  have hle : ∀ s ∈ ss, s.2 ≤ s.2 * ((prs o).countP (one1 s) : Int) := fun s hs => by
    have h1 := once_pos hp he g hs
    have h2 := (g.2 s hs).2.2.2.2
    have := Int.mul_le_mul_of_nonneg_left (show (1 : Int) ≤ ((prs o).countP (one1 s) : Int) by omega) (show 0 ≤ s.2 by omega)
    rw [Int.mul_one] at this
    exact this
  have h1 := sum_le (fun s : S5 => s.2) (fun s => s.2 * ((prs o).countP (one1 s) : Int)) ss hle
  have h2 := sum_eq_iff (fun s : S5 => s.2) (fun s => s.2 * ((prs o).countP (one1 s) : Int)) ss hle
  refine ⟨by omega, ?_⟩
  constructor
  · intro e s hs
    have := h2.mp (by omega) s hs
    have hpos := (g.2 s hs).2.2.2.2
    have h3 : s.2 * ((prs o).countP (one1 s) : Int) = s.2 * 1 := by omega
    have := Int.eq_of_mul_eq_mul_left (by omega) h3
    omega
  · intro h
    have := h2.mpr fun s hs => by rw [h s hs]; simp
    omega
/-- some pairs -/
theorem inner_law {o : List Int} {m : Nat} (hp : o.Perm ((List.range m).map fun (k : Nat) => (k : Int))) (ps : List Int) (hl : ps.length = m) (h0 : ∀ x ∈ ps, 0 ≤ x) {ss : List S5} (g : Good m ss) {few : Pairs} (hf : few.Sublist (prs o)) :
    (few.map (innP ps ss)).sum ≤ ps.sum + (ss.map fun s => s.2 * ((s.1.length : Int) / 2)).sum := by
  have hsub : (flat few).Sublist o := (flat_mono hf).trans (flat_sub o.length o (Nat.le_refl _))
  unfold innP
  rw [sum_add, sum_flat, swap (fun s p => bothOf p.1 p.2 s)]
  have h1 : ((flat few).map (pAt ps)).sum ≤ ps.sum := by
    rw [← sum_all hp ps hl]
    refine sum_sub (hsub.map _) fun x hx => ?_
    obtain ⟨y, _, rfl⟩ := List.mem_map.mp hx
    unfold pAt
    rw [List.getD_eq_getElem?_getD]
    by_cases h : y.toNat < ps.length
    · rw [List.getElem?_eq_getElem h]
      exact h0 _ (List.getElem_mem _)
    · rw [List.getElem?_eq_none (by omega)]
      exact Int.le_refl _
  have h2 : (ss.map fun s => s.2 * (few.countP (fun p => bothOf p.1 p.2 s) : Int)).sum ≤ (ss.map fun s => s.2 * ((s.1.length : Int) / 2)).sum := by
    refine sum_le _ _ ss fun s hs => ?_
    obtain ⟨nd, _, od, bd, hpos⟩ := g.2 s hs
    have e1 := cnt_flat s few
    have e2 := cnt_all hp nd bd
    have e3 := hsub.countP_le (p := fun x => decide (x ∈ s.1))
    have e4 : few.countP (two1 s) = few.countP (fun p => bothOf p.1 p.2 s) := rfl
    exact Int.mul_le_mul_of_nonneg_left (by omega) (by omega)
  omega
end Pr

set_option linter.all false
set_option maxRecDepth 100000
set_option maxHeartbeats 1000000
namespace Pr
open PySem PySem.Spec L2 Ev
local macro_rules | `(tactic| walk_at "ev") => `(tactic| simp -implicitDefEqProofs [Ev.run, entry, sSeq, sNil, sIf, sSet, sFz, frzs, frz, Ev.tCmp, tVal, Ev.tOr, Ev.tAnd, Ev.tNot, eName, eLen, aCons, aNil, lenOf, imm, immAll, rA, gLt, gLe, gGe, gGt, gI, gEq, gNe, gIn, gNin, gInL, gInD, gInT, gT, sRet, sRetV, eIx, gIx, eC, eBi, bMin2, bMax2, bAbs, bList, bSum, bInt, itemsOf, seqOf, eTup, eLst, mkTup, mkLst, res, Ev.part, whole, shp, shps, eAdd, eSub, eMul, eDiv, eMod, eOp, ePlus, eCat, eNeg, eCmp, eAnd, eOr, eNot, eCall, mkR, eIsi, tyN, tgSet, tgsSet, sExpr, sLop, oApp, oIns, intOf, keepLv, eMt, mIndex, mCount, rcv, eSl, oSome, oNone, cutD, iLst, kit_ii, kit_ib, kit_ll, kit_tt, at_p0, at_p1, at_t0, at_t1, at_t2, sAug, eShr, eAnd2, ePow, eIf])
theorem cut_from (xs : List Int) (k : Nat) (h : k ≤ xs.length) : cutL xs (some (k : Int)) none = xs.drop k := by
  unfold cutL
  rw [HT.sIx_nat, HT.sIx_none, Nat.min_eq_left h]
  exact List.take_of_length_le (by simp)
theorem cut_to (xs : List Int) (k : Nat) (h : k ≤ xs.length) : cutL xs none (some (k : Int)) = xs.take k := by
  unfold cutL
  rw [HT.sIx_nat, HT.sIx_none, Nat.min_eq_left h]
  simp
theorem nRd (d : D) (l : Lv) (a : Bool) (h : imm d = false) (ρ : Ev.Env) (i : Nat) (e : ρ[i]? = some (some ⟨d, l, a⟩)) : eName i ρ = some ⟨d, .shr, a, decide (l ≠ .shr)⟩ := nR d l a h ρ i e
def rhoO (sc : D) (m : Int) (o : List Int) (x3 x4 : Option Sv) : Ev.Env := [some ⟨sc, .shr, true⟩, some ⟨.int m, .shr, true⟩, some ⟨.lst (dInts o), .full, false⟩, x3, x4]
theorem FB_order (ns : List Int) (m : Int) (o : List Int) (k : Nat) (hk : k < 1000) (ho : o.length = k) (x4 : Option Sv) : ∃ at', at' ≤ k ∧ ∃ x3 x4', FB_law_order_1 (rhoO (.fl (dInts ns)) m o (some ⟨.int k, .full, false⟩) x4) = some (.nx (rhoO (.fl (dInts ns)) m (o.take at' ++ [(k : Int)] ++ o.drop at') x3 x4')) := by
  have c := R_cell ns (2 + (k : Int)) (by omega)
  generalize hz : cellAt ns (2 + (k : Int)) / 7 % ((k : Int) + 1) = z
  have h1 : 0 ≤ z := by rw [← hz]; exact Int.emod_nonneg _ (by omega)
  have h2 : z < (k : Int) + 1 := by rw [← hz]; exact Int.emod_lt_of_pos _ (by omega)
  obtain ⟨a, rfl⟩ : ∃ a : Nat, z = a := ⟨z.toNat, by omega⟩
  refine ⟨a, by omega, some ⟨.int k, .shr, false⟩, some ⟨.int a, .full, false⟩, ?_⟩
  have q1 : eMod (eDiv (eCall R_law_cell_at (aCons (eName 0) (aCons (ePlus (eC (.int 2)) (eName 3)) aNil))) (eC (.int 7))) (ePlus (eName 3) (eC (.int 1))) (rhoO (.fl (dInts ns)) m o (some ⟨.int k, .full, false⟩) x4) = some (rA (.int a)) := by
    unfold rhoO
    walk_at "ev"
    simp [c, mkR, imm]
    walk_at "ev"
    rw [hz]
  have s1 := setA q1 rfl (i := 4) (by unfold rhoO; simp)
  have q2 : ePlus (ePlus (eSl (eName 2) oNone (oSome (eName 4))) (eLst (aCons (eName 3) aNil))) (eSl (eName 2) (oSome (eName 4)) oNone) (rhoO (.fl (dInts ns)) m o (some ⟨.int k, .shr, false⟩) (some ⟨.int a, .full, false⟩)) = some ⟨.lst (dInts (o.take a ++ [(k : Int)] ++ o.drop a)), .full, false, false⟩ := by
    generalize hρ : rhoO (.fl (dInts ns)) m o (some ⟨.int k, .shr, false⟩) (some ⟨.int a, .full, false⟩) = ρ
    have n2 := nR (.lst (dInts o)) .full false rfl ρ 2 (by rw [← hρ]; rfl)
    have n4 : eName 4 ρ = some (rA (.int a)) := by rw [← hρ]; rfl
    have n3 : eName 3 ρ = some (rA (.int k)) := by rw [← hρ]; rfl
    have e1 : eSl (eName 2) oNone (oSome (eName 4)) ρ = some ⟨.lst (dInts (o.take a)), .full, false, false⟩ := by
      simp -implicitDefEqProofs [eSl, n2, n4, oNone, oSome, cutD, cut_d, cut_to o a (by omega), res, imm, whole, intOf, rA]
    have e2 : eSl (eName 2) (oSome (eName 4)) oNone ρ = some ⟨.lst (dInts (o.drop a)), .full, false, false⟩ := by
      simp -implicitDefEqProofs [eSl, n2, n4, oNone, oSome, cutD, cut_d, cut_from o a (by omega), res, imm, whole, intOf, rA]
    have e3 : eLst (aCons (eName 3) aNil) ρ = some ⟨.lst (dInts [(k : Int)]), .full, false, false⟩ := by
      simp -implicitDefEqProofs [eLst, aCons, aNil, n3, mkLst, rA]
    have cat : ∀ (f g : EvE) (x y : List Int), f ρ = some ⟨.lst (dInts x), .full, false, false⟩ → g ρ = some ⟨.lst (dInts y), .full, false, false⟩ → x.length + y.length ≤ 1000000 → ePlus f g ρ = some ⟨.lst (dInts (x ++ y)), .full, false, false⟩ := fun f g x y h1 h2 h3 => by
      have e : dInts x ++ dInts y = dInts (x ++ y) := (dInts_app _ _).symm
      simp -implicitDefEqProofs [ePlus, eAdd, eOp, eCat, h1, h2, h3, e, res, imm, whole]
    refine cat _ _ _ _ (cat _ _ _ _ e1 e3 ?_) e2 ?_
    · simp
      omega
    · simp
      omega
  have s2 : sFz [3] (sSet [] 2 (ePlus (ePlus (eSl (eName 2) oNone (oSome (eName 4))) (eLst (aCons (eName 3) aNil))) (eSl (eName 2) (oSome (eName 4)) oNone))) (rhoO (.fl (dInts ns)) m o (some ⟨.int k, .full, false⟩) (some ⟨.int a, .full, false⟩)) = some (.nx (rhoO (.fl (dInts ns)) m (o.take a ++ [(k : Int)] ++ o.drop a) (some ⟨.int k, .shr, false⟩) (some ⟨.int a, .full, false⟩))) :=
    setA (ρ := rhoO (.fl (dInts ns)) m o (some ⟨.int k, .shr, false⟩) (some ⟨.int a, .full, false⟩)) q2 rfl (i := 2) (by unfold rhoO; simp)
  unfold FB_law_order_1
  exact (sSeq_nx s1).trans s2
def RangeP (o : List Int) (m : Nat) : Prop := o.Perm ((List.range m).map fun (k : Nat) => (k : Int))
theorem RangeP.len {o : List Int} {m : Nat} (h : RangeP o m) : o.length = m := by
  have := h.length_eq
  simpa using this
theorem RangeP.ins {o : List Int} {m : Nat} (h : RangeP o m) (a : Nat) : RangeP (o.take a ++ [(m : Int)] ++ o.drop a) (m + 1) := by
  unfold RangeP
  rw [List.range_succ, List.map_append]
  have p : (o.take a ++ [(m : Int)] ++ o.drop a).Perm ((m : Int) :: o) := by
    rw [List.append_assoc]
    refine List.perm_middle.trans ?_
    show ((m : Int) :: (o.take a ++ o.drop a)).Perm _
    rw [List.take_append_drop]
  exact (p.trans (h.cons _)).trans (List.perm_append_comm (l₁ := [(m : Int)]))
theorem R_order (ns : List Int) (m : Nat) (hm : m ≤ 24) : ∃ o, RangeP o m ∧ R_law_order [.fl (dInts ns), .int m] = some (.lst (dInts o), .full) := by
  have hi : iRange (aCons (eName 1) aNil) (rhoO (.fl (dInts ns)) m [] none none) = some (iRng 0 m) := iRange_1 (r := rA (.int m)) rfl rfl (by omega)
  have h0 : F_law_order_1 (rhoO (.fl (dInts ns)) m [] none none) = forL (.nm 3) FB_law_order_1 (iRng 0 m) (rhoO (.fl (dInts ns)) m [] none none) := by
    unfold F_law_order_1
    exact sFor_nil hi
  obtain ⟨ρ', h2, o, x3, x4, hρ, hp⟩ := forR0_ind (t := .nm 3) (b := FB_law_order_1) (n := m) (ρ0 := rhoO (.fl (dInts ns)) m [] none none) (fun k ρ => ∃ o x3 x4, ρ = rhoO (.fl (dInts ns)) m o x3 x4 ∧ RangeP o k) ⟨[], none, none, rfl, .refl _⟩
    (fun k ρ hk ⟨o, x3, x4, hρ, hp⟩ => by
      subst hρ
      obtain ⟨a, ha, y3, y4, hb⟩ := FB_order ns m o k (by omega) hp.len x4
      exact ⟨rhoO (.fl (dInts ns)) m o (some ⟨.int k, .full, false⟩) x4, _, setN (by unfold rhoO; simp), .inl hb, _, y3, y4, rfl, hp.ins a⟩)
  subst hρ
  refine ⟨o, hp, ?_⟩
  have s1 : sSet [] 2 (eLst aNil) (entry 5 [.fl (dInts ns), .int m]) = some (.nx (rhoO (.fl (dInts ns)) m [] none none)) := by
    unfold rhoO
    walk_at "ev"
  have s3 : sRetV 2 (rhoO (.fl (dInts ns)) m o x3 x4) = some (.rt (.lst (dInts o)) .full) := by
    unfold rhoO
    walk_at "ev"
  unfold R_law_order B_law_order
  exact run_rt ((sSeq_nx s1).trans ((sSeq_nx (h0.trans h2)).trans s3))
theorem R_outof (s : S5) (nd : s.1.Nodup) (ps : Pairs) (hl : ps.length ≤ 1000) : R_law_out_of [.lst (dInts s.1), .lst (ps.map dPair)] = some (.int (ps.countP (one1 s) : Nat), .full) := by
  have hC : C_law_out_of_1 (entry 3 [.lst (dInts s.1), .lst (ps.map dPair)]) = some ⟨.lst ((ps.filter (one1 s)).map dPair), .full, false, false⟩ := by
    unfold C_law_out_of_1
    refine comp (fun p => (dPair p, true)) (one1 s) dPair ps (by omega) ?_ fun p _ => ?_
    · walk_at "ev"
    · refine ⟨[some ⟨.lst (dInts s.1), .shr, true⟩, some ⟨.lst (ps.map dPair), .shr, true⟩, some ⟨dPair p, .full, true⟩], ?_, ?_, fun _ => ?_⟩
      · simp [tgSet, wipeE, entry]
      · unfold CT_law_out_of_1 one1 oneOf dPair
        walk_at "ev"
        rw [cnt p.1 s.1 nd, cnt p.2 s.1 nd]
        by_cases h1 : p.1 ∈ s.1 <;> by_cases h2 : p.2 ∈ s.1 <;> simp [h1, h2]
      · unfold CE_law_out_of_1
        walk_at "ev"
  unfold R_law_out_of B_law_out_of
  refine run_rt ?_
  have hlen : ((ps.filter (one1 s)).map dPair).length ≤ 1000000 := by
    rw [List.length_map]
    exact Nat.le_trans (List.length_filter_le _ _) (by omega)
  simp -implicitDefEqProofs [sRet, eLen, aCons, aNil, hC, lenOf, rA, List.countP_eq_length_filter]
end Pr

set_option linter.all false
set_option maxRecDepth 100000
set_option maxHeartbeats 1000000
namespace Pr
open PySem PySem.Spec L2 Ev
local macro_rules | `(tactic| walk_at "ev") => `(tactic| simp -implicitDefEqProofs [Ev.run, entry, sSeq, sNil, sIf, sSet, sFz, frzs, frz, Ev.tCmp, tVal, Ev.tOr, Ev.tAnd, Ev.tNot, eName, eLen, aCons, aNil, lenOf, imm, immAll, rA, gLt, gLe, gGe, gGt, gI, gEq, gNe, gIn, gNin, gInL, gInD, gInT, gT, sRet, sRetV, eIx, gIx, eC, eBi, bMin2, bMax2, bAbs, bList, bSum, bInt, itemsOf, seqOf, eTup, eLst, mkTup, mkLst, res, Ev.part, whole, shp, shps, eAdd, eSub, eMul, eDiv, eMod, eOp, ePlus, eCat, eNeg, eCmp, eAnd, eOr, eNot, eCall, mkR, eIsi, tyN, tgSet, tgsSet, sExpr, sLop, oApp, oIns, intOf, keepLv, eMt, mIndex, mCount, rcv, eSl, oSome, oNone, cutD, iLst, kit_ii, kit_ib, kit_ll, kit_tt, at_p0, at_p1, at_t0, at_t1, at_t2, sAug, eShr, eAnd2, ePow, eIf])
def rF (sc : D) (hd m : Int) (ps : List Int) (l3 : Lv) (ss : List S5) (l4 : Lv) (o : List Int) (pr : Pairs) (l6 : Lv) (x7 x8 x9 x10 x11 y12 y13 y14 y15 y16 y17 : Option Sv) : Ev.Env :=
  [some ⟨sc, .shr, true⟩, some ⟨.int hd, .full, false⟩, some ⟨.int m, .full, false⟩, some ⟨.lst (dInts ps), l3, false⟩, some ⟨.lst (ss.map dSet), l4, false⟩, some ⟨.lst (dInts o), .shr, false⟩, some ⟨.lst (pr.map dPair), l6, false⟩, x7, x8, x9, x10, x11, y12, y13, y14, y15, y16, y17]
theorem call1 {R : List D → Option Ret} {a : EvE} {ρ : Ev.Env} {ra : Rv} {z : Ret} (h1 : a ρ = some ra) (hR : R [ra.d] = some z) : eCall R (aCons a aNil) ρ = some (mkR z) := by
  simp -implicitDefEqProofs [eCall, aCons, aNil, h1, hR]
theorem call2 {R : List D → Option Ret} {a b : EvE} {ρ : Ev.Env} {ra rb : Rv} {z : Ret} (h1 : a ρ = some ra) (h2 : b ρ = some rb) (hR : R [ra.d, rb.d] = some z) : eCall R (aCons a (aCons b aNil)) ρ = some (mkR z) := by
  simp -implicitDefEqProofs [eCall, aCons, aNil, h1, h2, hR]
theorem call3 {R : List D → Option Ret} {a b c : EvE} {ρ : Ev.Env} {ra rb rc : Rv} {z : Ret} (h1 : a ρ = some ra) (h2 : b ρ = some rb) (h3 : c ρ = some rc) (hR : R [ra.d, rb.d, rc.d] = some z) : eCall R (aCons a (aCons b (aCons c aNil))) ρ = some (mkR z) := by
  simp -implicitDefEqProofs [eCall, aCons, aNil, h1, h2, h3, hR]
theorem C1_law (ns : List Int) (hd : Int) (m : Nat) (hm : m ≤ 24) : ∃ ps, ps.length = m ∧ C_law_1 [some ⟨.fl (dInts ns), .shr, true⟩, some ⟨.int hd, .full, false⟩, some ⟨.int m, .full, false⟩, none, none, none, none, none, none, none, none, none, none, none, none, none, none, none] = some ⟨.lst (dInts ps), .full, false, false⟩ := by
  refine ⟨(List.range m).map fun (k : Nat) => heavy (cellAt ns (2 + (k : Int))), by simp, ?_⟩
  have h := compY (it := iRange (aCons (eName 2) aNil)) (vs := [12]) (t := .nm 12) (e := CE_law_1) (ρ := [some ⟨.fl (dInts ns), .shr, true⟩, some ⟨.int hd, .full, false⟩, some ⟨.int m, .full, false⟩, none, none, none, none, none, none, none, none, none, none, none, none, none, none, none]) (fun (k : Nat) => (D.int (0 + (k : Int)), false)) (fun (k : Nat) => D.int (heavy (cellAt ns (2 + (k : Int))))) (List.range m) (by simp; omega) (iRange_1 (r := rA (.int m)) rfl rfl (by omega)) (fun k hk => by
    have hk := List.mem_range.mp hk
    refine ⟨[some ⟨.fl (dInts ns), .shr, true⟩, some ⟨.int hd, .full, false⟩, some ⟨.int m, .full, false⟩, none, none, none, none, none, none, none, none, none, some ⟨.int k, .full, false⟩, none, none, none, none, none], ?_, ?_⟩
    · simp [tgSet, wipeE, imm]
    · have h1 := R_cell ns (2 + (k : Int)) (by omega)
      have h3 := R_heavy (cellAt ns (2 + (k : Int)))
      unfold CE_law_1
      walk_at "ev"
      simp [h1, h3, mkR, imm, rA])
  unfold C_law_1
  rw [h]
  unfold dInts
  rw [List.map_map]
  rfl
section
variable (sc : D) (hd : Int) (m : Nat) (ps : List Int) (l3 : Lv) (ss : List S5) (l4 : Lv) (o : List Int) (pr : Pairs) (l6 : Lv) (x7 x8 x9 x10 x11 : Option Sv)
theorem C3_law (hss : ss.length ≤ 1000) : C_law_3 (rF sc hd m ps l3 ss .shr o pr l6 x7 x8 x9 x10 x11 none none none none none none) = some ⟨.lst (ss.map dSet), .full, false, false⟩ := by
  unfold C_law_3
  refine compY (fun s => (dSet s, false)) dSet ss (by omega) ?_ fun s _ => ?_
  · unfold rF
    walk_at "ev"
    try rfl
  · refine ⟨rF sc hd m ps l3 ss .shr o pr l6 x7 x8 x9 x10 x11 none none (some ⟨.lst (dInts s.1), .shr, false⟩) (some ⟨.int s.2, .full, false⟩) none none, ?_, ?_⟩
    · unfold dSet rF
      simp [tgSet, tgsSet, wipeE, imm]
    · unfold CE_law_3 rF
      walk_at "ev"
      rfl
theorem C4_law (hpr : pr.length ≤ 1000) (hb : ∀ p ∈ pr, 0 ≤ p.1 ∧ p.1 < ps.length ∧ 0 ≤ p.2 ∧ p.2 < ps.length) : C_law_4 (rF sc hd m ps l3 ss l4 o pr .shr (some ⟨dPr 1 ps ss, .full, false⟩) x8 x9 x10 x11 none none none none none none) = some ⟨.lst (dInts (pr.map (cutP ps ss))), .full, false, false⟩ := by
  have h := compY (it := iLst (eName 6)) (vs := [12, 16]) (t := .tp [(.nm 12), (.nm 16)]) (e := CE_law_4) (ρ := rF sc hd m ps l3 ss l4 o pr .shr (some ⟨dPr 1 ps ss, .full, false⟩) x8 x9 x10 x11 none none none none none none) (fun p => (dPair p, false)) (fun p => .int (cutP ps ss p)) pr (by omega) (by
    unfold rF
    walk_at "ev"
    try rfl) (fun p hp => by
    refine ⟨rF sc hd m ps l3 ss l4 o pr .shr (some ⟨dPr 1 ps ss, .full, false⟩) x8 x9 x10 x11 (some ⟨.int p.1, .full, false⟩) none none none (some ⟨.int p.2, .full, false⟩) none, ?_, ?_⟩
    · unfold dPair rF
      simp [tgSet, tgsSet, wipeE, imm]
    · obtain ⟨b1, b2, b3, b4⟩ := hb p hp
      obtain ⟨x, y⟩ := p
      obtain ⟨a, rfl⟩ : ∃ a : Nat, x = a := ⟨x.toNat, by dsimp only at b1; omega⟩
      obtain ⟨b, rfl⟩ : ∃ b : Nat, y = b := ⟨y.toNat, by dsimp only at b3; omega⟩
      dsimp only at b1 b2 b3 b4
      have hR := R_cut 1 ps ss a b (by omega) (by omega)
      have e : ps[a]'(by omega) + ps[b]'(by omega) + sel (oneOf a b) ss = cutP ps ss (a, b) := by
        unfold cutP pAt
        simp only [Int.toNat_natCast, List.getD_eq_getElem?_getD]
        rw [List.getElem?_eq_getElem (by omega), List.getElem?_eq_getElem (by omega)]
        rfl
      rw [e] at hR
      unfold CE_law_4
      generalize hρ : rF sc hd m ps l3 ss l4 o pr .shr (some ⟨dPr 1 ps ss, .full, false⟩) x8 x9 x10 x11 (some ⟨.int a, .full, false⟩) none none none (some ⟨.int b, .full, false⟩) none = ρ
      have n7 := nR (dPr 1 ps ss) .full false rfl ρ 7 (by rw [← hρ]; rfl)
      have n12 : eName 12 ρ = some (rA (.int a)) := by rw [← hρ]; rfl
      have n16 : eName 16 ρ = some (rA (.int b)) := by rw [← hρ]; rfl
      rw [call3 n7 n12 n16 hR]
      rfl)
  unfold C_law_4
  rw [h]
  unfold dInts
  rw [List.map_map]
  rfl
theorem C8_law (qs : List Int) (few : Pairs) (hpr : few.length ≤ 1000) (hb : ∀ p ∈ few, 0 ≤ p.1 ∧ p.1 < qs.length ∧ 0 ≤ p.2 ∧ p.2 < qs.length) : C_law_8 (rF sc hd m ps l3 ss l4 o pr l6 x7 x8 x9 (some ⟨dPr 1 qs ss, .full, false⟩) (some ⟨.lst (few.map dPair), .shr, false⟩) none none none none none none) = some ⟨.lst (dInts (few.map (innP qs ss))), .full, false, false⟩ := by
  have h := compY (it := iLst (eName 11)) (vs := [12, 16]) (t := .tp [(.nm 12), (.nm 16)]) (e := CE_law_8) (ρ := rF sc hd m ps l3 ss l4 o pr l6 x7 x8 x9 (some ⟨dPr 1 qs ss, .full, false⟩) (some ⟨.lst (few.map dPair), .shr, false⟩) none none none none none none) (fun p => (dPair p, false)) (fun p => .int (innP qs ss p)) few (by omega) (by
    unfold rF
    walk_at "ev"
    try rfl) (fun p hp => by
    refine ⟨rF sc hd m ps l3 ss l4 o pr l6 x7 x8 x9 (some ⟨dPr 1 qs ss, .full, false⟩) (some ⟨.lst (few.map dPair), .shr, false⟩) (some ⟨.int p.1, .full, false⟩) none none none (some ⟨.int p.2, .full, false⟩) none, ?_, ?_⟩
    · unfold dPair rF
      simp [tgSet, tgsSet, wipeE, imm]
    · obtain ⟨b1, b2, b3, b4⟩ := hb p hp
      obtain ⟨x, y⟩ := p
      obtain ⟨a, rfl⟩ : ∃ a : Nat, x = a := ⟨x.toNat, by dsimp only at b1; omega⟩
      obtain ⟨b, rfl⟩ : ∃ b : Nat, y = b := ⟨y.toNat, by dsimp only at b3; omega⟩
      dsimp only at b1 b2 b3 b4
      have hR := R_inner 1 qs ss a b (by omega) (by omega)
      have e : qs[a]'(by omega) + qs[b]'(by omega) + sel (bothOf a b) ss = innP qs ss (a, b) := by
        unfold innP pAt
        simp only [Int.toNat_natCast, List.getD_eq_getElem?_getD]
        rw [List.getElem?_eq_getElem (by omega), List.getElem?_eq_getElem (by omega)]
        rfl
      rw [e] at hR
      unfold CE_law_8
      generalize hρ : rF sc hd m ps l3 ss l4 o pr l6 x7 x8 x9 (some ⟨dPr 1 qs ss, .full, false⟩) (some ⟨.lst (few.map dPair), .shr, false⟩) (some ⟨.int a, .full, false⟩) none none none (some ⟨.int b, .full, false⟩) none = ρ
      have n7 := nR (dPr 1 qs ss) .full false rfl ρ 10 (by rw [← hρ]; rfl)
      have n12 : eName 12 ρ = some (rA (.int a)) := by rw [← hρ]; rfl
      have n16 : eName 16 ρ = some (rA (.int b)) := by rw [← hρ]; rfl
      rw [call3 n7 n12 n16 hR]
      rfl)
  unfold C_law_8
  rw [h]
  unfold dInts
  rw [List.map_map]
  rfl
theorem C5_law (hss : ss.length ≤ 1000) (hpr : pr.length ≤ 1000) (hnd : ∀ s ∈ ss, s.1.Nodup) : C_law_5 (rF sc hd m ps l3 ss .shr o pr l6 x7 x8 x9 x10 x11 none none none none none none) = some ⟨.lst (ss.map fun s => .bl (decide (pr.countP (one1 s) = 1))), .full, false, false⟩ := by
  unfold C_law_5
  refine compY (fun s => (dSet s, false)) (fun s => .bl (decide (pr.countP (one1 s) = 1))) ss (by omega) ?_ fun s hs => ?_
  · unfold rF
    walk_at "ev"
    try rfl
  · refine ⟨rF sc hd m ps l3 ss .shr o pr l6 x7 x8 x9 x10 x11 none none (some ⟨.lst (dInts s.1), .shr, false⟩) (some ⟨.int s.2, .full, false⟩) none none, ?_, ?_⟩
    · unfold dSet rF
      simp [tgSet, tgsSet, wipeE, imm]
    · have hR := R_outof s (hnd s hs) pr hpr
      unfold CE_law_5
      generalize hρ : rF sc hd m ps l3 ss .shr o pr l6 x7 x8 x9 x10 x11 none none (some ⟨.lst (dInts s.1), .shr, false⟩) (some ⟨.int s.2, .full, false⟩) none none = ρ
      have n14 := nR (.lst (dInts s.1)) .shr false rfl ρ 14 (by rw [← hρ]; rfl)
      have n6 := nR (.lst (pr.map dPair)) l6 false rfl ρ 6 (by rw [← hρ]; rfl)
      have hc := call2 n14 n6 hR
      unfold eCmp
      rw [hc]
      simp only [Option.bind_some, eC, mkR, imm, if_true, rA]
      walk_at "ev"
      omega
def absI (i : Int) : Int := if i < 0 then -i else i
theorem C6_law (hps : ps.length ≤ 1000) : C_law_6 (rF sc hd m ps .shr ss l4 o pr l6 x7 x8 x9 x10 x11 none none none none none none) = some ⟨.lst (dInts (ps.map absI)), .full, false, false⟩ := by
  have h := compY (it := iLst (eName 3)) (vs := [15]) (t := .nm 15) (e := CE_law_6) (ρ := rF sc hd m ps .shr ss l4 o pr l6 x7 x8 x9 x10 x11 none none none none none none) (fun (z : Int) => (D.int z, false)) (fun (z : Int) => .int (absI z)) ps (by omega) (by
    unfold rF
    walk_at "ev"
    unfold dInts
    rw [List.map_map]
    rfl) (fun z hz => by
    refine ⟨rF sc hd m ps .shr ss l4 o pr l6 x7 x8 x9 x10 x11 none none none (some ⟨.int z, .full, false⟩) none none, ?_, ?_⟩
    · unfold rF
      simp [tgSet, wipeE, imm]
    · unfold CE_law_6 rF absI
      walk_at "ev")
  unfold C_law_6
  rw [h]
  unfold dInts
  rw [List.map_map]
  rfl
end
end Pr

set_option linter.all false
set_option maxRecDepth 100000
set_option maxHeartbeats 1000000
namespace Pr
open PySem PySem.Spec L2 Ev
local macro_rules | `(tactic| walk_at "ev") => `(tactic| simp -implicitDefEqProofs [Ev.run, entry, sSeq, sNil, sIf, sSet, sFz, frzs, frz, Ev.tCmp, tVal, Ev.tOr, Ev.tAnd, Ev.tNot, eName, eLen, aCons, aNil, lenOf, imm, immAll, rA, gLt, gLe, gGe, gGt, gI, gEq, gNe, gIn, gNin, gInL, gInD, gInT, gT, sRet, sRetV, eIx, gIx, eC, eBi, bMin2, bMax2, bAbs, bList, bSum, bInt, itemsOf, seqOf, eTup, eLst, mkTup, mkLst, res, Ev.part, whole, shp, shps, eAdd, eSub, eMul, eDiv, eMod, eOp, ePlus, eCat, eNeg, eCmp, eAnd, eOr, eNot, eCall, mkR, eIsi, tyN, tgSet, tgsSet, sExpr, sLop, oApp, oIns, intOf, keepLv, eMt, mIndex, mCount, rcv, eSl, oSome, oNone, cutD, iLst, kit_ii, kit_ib, kit_ll, kit_tt, at_p0, at_p1, at_t0, at_t1, at_t2, sAug, eShr, eAnd2, ePow, eIf])
def rG (sc : D) (hd m : Int) (ps : List Int) (ss : List S5) (l4 : Lv) (o : List Int) (l5 : Lv) (x6 x13 : Option Sv) : Ev.Env :=
  [some ⟨sc, .shr, true⟩, some ⟨.int hd, .full, false⟩, some ⟨.int m, .full, false⟩, some ⟨.lst (dInts ps), .full, false⟩, some ⟨.lst (ss.map dSet), l4, false⟩, some ⟨.lst (dInts o), l5, false⟩, x6, none, none, none, none, none, none, x13, none, none, none, none]
theorem C2_law (sc : D) (hd : Int) (m : Nat) (hm : m ≤ 24) (ps : List Int) (ss : List S5) (l4 : Lv) (o : List Int) (ho : o.length = m) : C_law_2 (rG sc hd m ps ss l4 o .shr none none) = some ⟨.lst ((prs o).map dPair), .full, false, false⟩ := by
  have h := compY (it := iRange (aCons (eDiv (eName 2) (eC (.int 2))) aNil)) (vs := [13]) (t := .nm 13) (e := CE_law_2) (ρ := rG sc hd m ps ss l4 o .shr none none) (fun (k : Nat) => (D.int (0 + (k : Int)), false)) (fun (k : Nat) => dPair (o.getD (2 * k) 0, o.getD (2 * k + 1) 0)) (List.range (m / 2)) (by simp; omega) (iRange_1 (r := rA (.int (m / 2 : Nat))) (by
      unfold rG
      walk_at "ev") rfl (by omega)) (fun k hk => by
    have hk := List.mem_range.mp hk
    refine ⟨rG sc hd m ps ss l4 o .shr none (some ⟨.int k, .full, false⟩), ?_, ?_⟩
    · unfold rG
      simp [tgSet, wipeE, imm]
    · have h3 := atI_ints o (2 * k) (by omega)
      have h4 := atI_ints o (2 * k + 1) (by omega)
      have e4 : (2 : Int) * (k : Int) + 1 = ((2 * k + 1 : Nat) : Int) := by omega
      have e3 : (2 : Int) * (k : Int) = ((2 * k : Nat) : Int) := by omega
      unfold CE_law_2 rG dPair
      walk_at "ev"
      rw [e4, e3, h3, h4]
      simp only [Option.map_some, Option.bind_some]
      walk_at "ev"
      rw [List.getElem?_eq_getElem (by omega), List.getElem?_eq_getElem (by omega)]
      simp)
  unfold C_law_2
  rw [h]
  unfold prs
  rw [List.map_map, ho]
  rfl
theorem numb (al : Bool) : ∀ (ps : Pairs) (k : Nat), numbered al k (ps.map dPair) = (ps.zipIdx k).map fun z => (.tup [.int ((z.2 : Nat) : Int), dPair z.1], al)
  | [], _ => rfl
  | p :: ps, k => by
    rw [List.map_cons, List.zipIdx_cons, List.map_cons, ← numb al ps (k + 1)]
    rfl
def rE (sc : D) (hd : Nat) (m : Int) (ps : List Int) (ss : List S5) (o : List Int) (pr : Pairs) (x7 x8 x9 x10 y13 y17 : Option Sv) : Ev.Env := rF sc hd m ps .shr ss .shr o pr .shr x7 x8 x9 x10 none none y13 none none none y17
theorem C7_law (sc : D) (hd : Nat) (m : Int) (ps : List Int) (ss : List S5) (o : List Int) (pr : Pairs) (x7 x8 x9 x10 : Option Sv) (hpr : pr.length ≤ 1000) : ∃ few : Pairs, few.Sublist pr ∧ C_law_7 (rE sc hd m ps ss o pr x7 x8 x9 x10 none none) = some ⟨.lst (few.map dPair), .full, false, false⟩ := by
  let q : (Int × Int) × Nat → Bool := fun z => (CT_law_1 (rE sc hd m ps ss o pr x7 x8 x9 x10 (some ⟨.int (z.2 : Nat), .full, false⟩) (some ⟨dPair z.1, .full, false⟩))).getD false
  have hq : ∀ z, CT_law_1 (rE sc hd m ps ss o pr x7 x8 x9 x10 (some ⟨.int (z.2 : Nat), .full, false⟩) (some ⟨dPair z.1, .full, false⟩)) = some (q z) := fun z => by
    have : ∃ k, CT_law_1 (rE sc hd m ps ss o pr x7 x8 x9 x10 (some ⟨.int (z.2 : Nat), .full, false⟩) (some ⟨dPair z.1, .full, false⟩)) = some k := by
      unfold CT_law_1 rE rF
      walk_at "ev"
    obtain ⟨k, e⟩ := this
    show _ = some (Option.getD _ false)
    rw [e]
    rfl
  have h := comp (it := iEnumV (aCons (eName 6) aNil)) (vs := [13, 17]) (t := .tp [(.nm 13), (.nm 17)]) (c := CT_law_1) (e := CE_law_7) (ρ := rE sc hd m ps ss o pr x7 x8 x9 x10 none none) (fun (z : (Int × Int) × Nat) => (D.tup [.int ((z.2 : Nat) : Int), dPair z.1], false)) q (fun z => dPair z.1) (pr.zipIdx 0) (by rw [List.length_zipIdx]; omega) (by
    have n6 := nR (.lst (pr.map dPair)) .shr false rfl (rE sc hd m ps ss o pr x7 x8 x9 x10 none none) 6 rfl
    rw [← numb]
    simp -implicitDefEqProofs [iEnumV, aCons, aNil, n6, seqOf]) (fun z hz => by
    refine ⟨rE sc hd m ps ss o pr x7 x8 x9 x10 (some ⟨.int (z.2 : Nat), .full, false⟩) (some ⟨dPair z.1, .full, false⟩), ?_, hq z, fun _ => ?_⟩
    · unfold rE rF
      simp [tgSet, tgsSet, wipeE, imm, dPair, immAll]
    · unfold CE_law_7 rE rF
      walk_at "ev")
  refine ⟨((pr.zipIdx 0).filter q).map (·.1), ?_, ?_⟩
  · have h1 : ((pr.zipIdx 0).filter q).Sublist (pr.zipIdx 0) := List.filter_sublist
    have h2 := h1.map (·.1)
    rw [List.zipIdx_map_fst] at h2
    exact h2
  · unfold C_law_7
    rw [h, List.map_map]
    rfl
theorem allB (xs : List Bool) : bAll [.lst (xs.map D.bl)] = some (.bl (xs.all id), .full) := by
  have : blsOf (xs.map D.bl) = some xs := by
    induction xs with
    | nil => rfl
    | cons x xs ih =>
      rw [List.map_cons, blsOf, ih]
      rfl
  show (blsOf (xs.map D.bl)).map _ = _
  rw [this]
  rfl
theorem bi1 {g : List D → Option Ret} {f : EvE} {ρ : Ev.Env} {r : Rv} {z : Ret} (h : f ρ = some r) (hg : g [r.d] = some z) : eBi g (aCons f aNil) ρ = some (res (r.al || false) (r.vw || false) z) := by
  simp -implicitDefEqProofs [eBi, aCons, aNil, h, hg]
theorem bSum_ints (ns : List Int) : bSum [.lst (dInts ns)] = some (.int ns.sum, .full) := by
  unfold bSum
  simp [seqOf]
theorem prs_bound {o : List Int} {m : Nat} (hp : RangeP o m) {n : Nat} (hps : n = m) : ∀ p ∈ prs o, 0 ≤ p.1 ∧ p.1 < n ∧ 0 ≤ p.2 ∧ p.2 < n := by
  have hlo := hp.len
  intro p hpm
  obtain ⟨k, hk, rfl⟩ := List.mem_map.mp hpm
  have hk := List.mem_range.mp hk
  have hx : ∀ x ∈ o, 0 ≤ x ∧ x < (m : Int) := fun x hx => by
    obtain ⟨j, hj, rfl⟩ := List.mem_map.mp (hp.mem_iff.mp hx)
    have := List.mem_range.mp hj
    omega
  have e1 : o.getD (2 * k) 0 = o[2 * k]'(by omega) := by rw [List.getD_eq_getElem?_getD, List.getElem?_eq_getElem (by omega)]; rfl
  have e2 : o.getD (2 * k + 1) 0 = o[2 * k + 1]'(by omega) := by rw [List.getD_eq_getElem?_getD, List.getElem?_eq_getElem (by omega)]; rfl
  have h1 := hx _ (List.getElem_mem (l := o) (n := 2 * k) (by omega))
  have h2 := hx _ (List.getElem_mem (l := o) (n := 2 * k + 1) (by omega))
  dsimp only
  rw [e1, e2]
  omega
theorem if_even (sc : D) (hd : Int) (m : Nat) (hm : m ≤ 24) (he : m % 2 = 0) (ps : List Int) (hps : ps.length = m) (ss : List S5) (g : Good m ss) (l4 : Lv) (o : List Int) (hp : RangeP o m) :
    ∃ x7 x8 x9, sSeq (sFz [4] (sSet [] 7 (eTup (aCons (eC (.int 1)) (aCons (eBi bList (aCons (eName 3) aNil)) (aCons C_law_3 aNil)))))) (sSeq (sFz [6] (sSet [] 8 (eBi bSum (aCons C_law_4 aNil)))) (sSeq (sFz [4] (sSet [] 9 (eBi bAll (aCons C_law_5 aNil)))) (sIf (Ev.tOr (Ev.tCmp gLt (eName 8) (eCall R_cut_sum (aCons (eName 7) aNil))) (Ev.tCmp gNe (eCmp gEq (eName 8) (eCall R_cut_sum (aCons (eName 7) aNil))) (eName 9))) (sRet (eC (.bl false))) sNil))) (rF sc hd m ps .full ss l4 o (prs o) .full none none none none none none none none none none none) = some (.nx (rF sc hd m ps .full ss .shr o (prs o) .shr x7 x8 x9 none none none none none none none none)) := by
  have hss := g.1
  have hlo := hp.len
  have hpr : (prs o).length ≤ 1000 := by unfold prs; simp; omega
  have hb := prs_bound hp hps
  have a7 : sFz [4] (sSet [] 7 (eTup (aCons (eC (.int 1)) (aCons (eBi bList (aCons (eName 3) aNil)) (aCons C_law_3 aNil))))) (rF sc hd m ps .full ss l4 o (prs o) .full none none none none none none none none none none none) = some (.nx (rF sc hd m ps .full ss .shr o (prs o) .full (some ⟨dPr 1 ps ss, .full, false⟩) none none none none none none none none none none)) := by
    show sSet [] 7 _ (rF sc hd m ps .full ss .shr o (prs o) .full none none none none none none none none none none none) = _
    have h3 := C3_law sc hd m ps .full ss o (prs o) .full none none none none none (by omega)
    have n1 : eC (.int 1) (rF sc hd m ps .full ss .shr o (prs o) .full none none none none none none none none none none none) = some (rA (.int 1)) := rfl
    have n3 := nR (.lst (dInts ps)) .full false rfl (rF sc hd m ps .full ss .shr o (prs o) .full none none none none none none none none none none none) 3 rfl
    have nl : eBi bList (aCons (eName 3) aNil) (rF sc hd m ps .full ss .shr o (prs o) .full none none none none none none none none none none none) = some ⟨.lst (dInts ps), .full, false, false⟩ := by
      rw [bi1 n3 (z := (.lst (dInts ps), .top)) rfl]
      simp [res, imm, whole]
    refine setA (r := ⟨dPr 1 ps ss, .full, false, false⟩) ?_ rfl (by unfold rF; simp)
    rw [tup3 n1 nl h3]
    simp [mkTup, rA, dPr]
  have a8 : sFz [6] (sSet [] 8 (eBi bSum (aCons C_law_4 aNil))) (rF sc hd m ps .full ss .shr o (prs o) .full (some ⟨dPr 1 ps ss, .full, false⟩) none none none none none none none none none none) = some (.nx (rF sc hd m ps .full ss .shr o (prs o) .shr (some ⟨dPr 1 ps ss, .full, false⟩) (some ⟨.int ((prs o).map (cutP ps ss)).sum, .full, false⟩) none none none none none none none none none)) := by
    show sSet [] 8 _ (rF sc hd m ps .full ss .shr o (prs o) .shr (some ⟨dPr 1 ps ss, .full, false⟩) none none none none none none none none none none) = _
    have h4 := C4_law sc hd m ps .full ss .shr o (prs o) none none none none hpr hb
    exact setA (bi1 h4 (bSum_ints _)) rfl (by unfold rF; simp)
  have a9 : sFz [4] (sSet [] 9 (eBi bAll (aCons C_law_5 aNil))) (rF sc hd m ps .full ss .shr o (prs o) .shr (some ⟨dPr 1 ps ss, .full, false⟩) (some ⟨.int ((prs o).map (cutP ps ss)).sum, .full, false⟩) none none none none none none none none none) = some (.nx (rF sc hd m ps .full ss .shr o (prs o) .shr (some ⟨dPr 1 ps ss, .full, false⟩) (some ⟨.int ((prs o).map (cutP ps ss)).sum, .full, false⟩) (some ⟨.bl ((ss.map fun s => decide ((prs o).countP (one1 s) = 1)).all id), .full, false⟩) none none none none none none none none)) := by
    show sSet [] 9 _ (rF sc hd m ps .full ss .shr o (prs o) .shr (some ⟨dPr 1 ps ss, .full, false⟩) (some ⟨.int ((prs o).map (cutP ps ss)).sum, .full, false⟩) none none none none none none none none none) = _
    have h5 := C5_law sc hd m ps .full ss o (prs o) .shr (some ⟨dPr 1 ps ss, .full, false⟩) (some ⟨.int ((prs o).map (cutP ps ss)).sum, .full, false⟩) none none none (by omega) hpr (fun s hs => (g.2 s hs).1)
    have e : (ss.map fun s => D.bl (decide ((prs o).countP (one1 s) = 1))) = (ss.map fun s => decide ((prs o).countP (one1 s) = 1)).map D.bl := by rw [List.map_map]; rfl
    rw [e] at h5
    exact setA (bi1 h5 (allB _)) rfl (by unfold rF; simp)
  refine ⟨some ⟨dPr 1 ps ss, .full, false⟩, some ⟨.int ((prs o).map (cutP ps ss)).sum, .full, false⟩, some ⟨.bl ((ss.map fun s => decide ((prs o).countP (one1 s) = 1)).all id), .full, false⟩, (sSeq_nx a7).trans ((sSeq_nx a8).trans ((sSeq_nx a9).trans ?_))⟩
  obtain ⟨hle, hiff⟩ := paid_law hp he ps hps g
  have hcs := R_cutsum 1 ps ss (by omega)
  have hall : ((ss.map fun s => decide ((prs o).countP (one1 s) = 1)).all id = true) ↔ ∀ s ∈ ss, (prs o).countP (one1 s) = 1 := by simp
  generalize (ss.map fun s => decide ((prs o).countP (one1 s) = 1)).all id = once at hall
  generalize ((prs o).map (cutP ps ss)).sum = paid at hle hiff
  generalize ps.sum + (ss.map (·.2)).sum = cs at hle hiff hcs
  generalize hρ : rF sc hd m ps .full ss .shr o (prs o) .shr (some ⟨dPr 1 ps ss, .full, false⟩) (some ⟨.int paid, .full, false⟩) (some ⟨.bl once, .full, false⟩) none none none none none none none none = ρ
  have n7 := nR (dPr 1 ps ss) .full false rfl ρ 7 (by rw [← hρ]; rfl)
  have n8 : eName 8 ρ = some (rA (.int paid)) := by rw [← hρ]; rfl
  have n9 : eName 9 ρ = some (rA (.bl once)) := by rw [← hρ]; rfl
  have hc := call1 n7 hcs
  have hm1 : mkR (D.int cs, Lv.full) = rA (.int cs) := rfl
  rw [hm1] at hc
  have ht : Ev.tOr (Ev.tCmp gLt (eName 8) (eCall R_cut_sum (aCons (eName 7) aNil))) (Ev.tCmp gNe (eCmp gEq (eName 8) (eCall R_cut_sum (aCons (eName 7) aNil))) (eName 9)) ρ = some false := by
    unfold Ev.tOr Ev.tCmp eCmp
    simp only [n8, n9, hc, Option.bind_some]
    have h1 : (decide (paid < cs)) = false := by simp; omega
    have h2 : decide (paid = cs) = once := by
      rw [Bool.eq_iff_iff, decide_eq_true_iff, hiff, hall]
    walk_at "ev"
    simp [h1, h2, deq, pd, PyData.eqv]
    exact hle
  unfold sIf
  rw [ht]
  rfl
theorem absI_nn (i : Int) : 0 ≤ absI i := by
  unfold absI
  split <;> omega
theorem main : ∀ ns : List Int, ns.length ≤ 63 → ∃ l, R_law [.fl (ns.map .int)] = some (.bl true, l) := by
  intro ns hn
  generalize hhd : cellAt ns 0 % 1000003 = hd
  have h0 : 0 ≤ hd := by rw [← hhd]; exact Int.emod_nonneg _ (by omega)
  obtain ⟨hn', rfl⟩ : ∃ n : Nat, hd = n := ⟨hd.toNat, by omega⟩
  have hm : hn' % 13 ≤ 24 := by omega
  generalize hmm : hn' % 13 = m at hm
  have c0 := R_cell ns 0 (by omega)
  obtain ⟨ps, hps, hC1⟩ := C1_law ns hn' m hm
  obtain ⟨ss, l4, hS, hl4, g, h63⟩ := R_sets ns m hm hn
  obtain ⟨o, hp, hO⟩ := R_order ns m hm
  have s1 : sSet [] 1 (eMod (eCall R_law_cell_at (aCons (eName 0) (aCons (eC (.int 0)) aNil))) (eC (.int 1000003))) (entry 18 [.fl (dInts ns)]) = some (.nx [some ⟨.fl (dInts ns), .shr, true⟩, some ⟨.int hn', .full, false⟩, none, none, none, none, none, none, none, none, none, none, none, none, none, none, none, none]) := by
    walk_at "ev"
    rw [c0]
    walk_at "ev"
    exact hhd
  have s2 : sSet [] 2 (eMod (eName 1) (eC (.int 13))) [some ⟨.fl (dInts ns), .shr, true⟩, some ⟨.int hn', .full, false⟩, none, none, none, none, none, none, none, none, none, none, none, none, none, none, none, none] = some (.nx [some ⟨.fl (dInts ns), .shr, true⟩, some ⟨.int hn', .full, false⟩, some ⟨.int m, .full, false⟩, none, none, none, none, none, none, none, none, none, none, none, none, none, none, none]) := by
    walk_at "ev"
    omega
  have s3 := setA hC1 rfl (i := 3) (by simp)
  have q4 : eCall R_law_sets (aCons (eName 0) (aCons (eName 2) aNil)) [some ⟨.fl (dInts ns), .shr, true⟩, some ⟨.int hn', .full, false⟩, some ⟨.int m, .full, false⟩, some ⟨.lst (dInts ps), .full, false⟩, none, none, none, none, none, none, none, none, none, none, none, none, none, none] = some ⟨.lst (ss.map dSet), l4, false, false⟩ := by
    walk_at "ev"
    rw [hS]
    exact ⟨_, _, rfl, rfl⟩
  have s4 := setA q4 rfl (i := 4) (by simp)
  have q5 : eCall R_law_order (aCons (eName 0) (aCons (eName 2) aNil)) [some ⟨.fl (dInts ns), .shr, true⟩, some ⟨.int hn', .full, false⟩, some ⟨.int m, .full, false⟩, some ⟨.lst (dInts ps), .full, false⟩, some ⟨.lst (ss.map dSet), l4, false⟩, none, none, none, none, none, none, none, none, none, none, none, none, none] = some ⟨.lst (dInts o), .full, false, false⟩ := by
    walk_at "ev"
    rw [hO]
    exact ⟨_, _, rfl, rfl⟩
  have s5 : sSet [] 5 (eCall R_law_order (aCons (eName 0) (aCons (eName 2) aNil))) [some ⟨.fl (dInts ns), .shr, true⟩, some ⟨.int hn', .full, false⟩, some ⟨.int m, .full, false⟩, some ⟨.lst (dInts ps), .full, false⟩, some ⟨.lst (ss.map dSet), l4, false⟩, none, none, none, none, none, none, none, none, none, none, none, none, none] = some (.nx (rG (.fl (dInts ns)) hn' m ps ss l4 o .full none none)) := setA q5 rfl (i := 5) (by simp)
  have s6 : sFz [5] (sSet [] 6 C_law_2) (rG (.fl (dInts ns)) hn' m ps ss l4 o .full none none) = some (.nx (rF (.fl (dInts ns)) hn' m ps .full ss l4 o (prs o) .full none none none none none none none none none none none)) :=
    setA (ρ := rG (.fl (dInts ns)) hn' m ps ss l4 o .shr none none) (C2_law (.fl (dInts ns)) hn' m hm ps ss l4 o hp.len) rfl (i := 6) (by unfold rG; simp)
  have hss := g.1
  have hpr : (prs o).length ≤ 1000 := by have := hp.len; unfold prs; simp; omega
  have s7 : ∃ l4' l6 x7 x8 x9, sIf (Ev.tCmp gEq (eMod (eName 2) (eC (.int 2))) (eC (.int 0))) (sSeq (sFz [4] (sSet [] 7 (eTup (aCons (eC (.int 1)) (aCons (eBi bList (aCons (eName 3) aNil)) (aCons C_law_3 aNil)))))) (sSeq (sFz [6] (sSet [] 8 (eBi bSum (aCons C_law_4 aNil)))) (sSeq (sFz [4] (sSet [] 9 (eBi bAll (aCons C_law_5 aNil)))) (sIf (Ev.tOr (Ev.tCmp gLt (eName 8) (eCall R_cut_sum (aCons (eName 7) aNil))) (Ev.tCmp gNe (eCmp gEq (eName 8) (eCall R_cut_sum (aCons (eName 7) aNil))) (eName 9))) (sRet (eC (.bl false))) sNil)))) sNil (rF (.fl (dInts ns)) hn' m ps .full ss l4 o (prs o) .full none none none none none none none none none none none) = some (.nx (rF (.fl (dInts ns)) hn' m ps .full ss l4' o (prs o) l6 x7 x8 x9 none none none none none none none none)) := by
    by_cases he : m % 2 = 0
    · obtain ⟨x7, x8, x9, h⟩ := if_even (.fl (dInts ns)) hn' m hm he ps hps ss g l4 o hp
      refine ⟨.shr, .shr, x7, x8, x9, ?_⟩
      have ht : Ev.tCmp gEq (eMod (eName 2) (eC (.int 2))) (eC (.int 0)) (rF (.fl (dInts ns)) hn' m ps .full ss l4 o (prs o) .full none none none none none none none none none none none) = some true := by
        unfold rF
        walk_at "ev"
        omega
      unfold sIf
      rw [ht]
      exact h
    · refine ⟨l4, .full, none, none, none, ?_⟩
      have ht : Ev.tCmp gEq (eMod (eName 2) (eC (.int 2))) (eC (.int 0)) (rF (.fl (dInts ns)) hn' m ps .full ss l4 o (prs o) .full none none none none none none none none none none none) = some false := by
        unfold rF
        walk_at "ev"
        omega
      unfold sIf
      rw [ht]
      rfl
  obtain ⟨l4', l6, x7, x8, x9, s7⟩ := s7
  have s8 : sFz [3, 4] (sSet [] 10 (eTup (aCons (eC (.int 1)) (aCons C_law_6 (aCons C_law_3 aNil))))) (rF (.fl (dInts ns)) hn' m ps .full ss l4' o (prs o) l6 x7 x8 x9 none none none none none none none none) = some (.nx (rF (.fl (dInts ns)) hn' m ps .shr ss .shr o (prs o) l6 x7 x8 x9 (some ⟨dPr 1 (ps.map absI) ss, .full, false⟩) none none none none none none none)) := by
    show sSet [] 10 _ (rF (.fl (dInts ns)) hn' m ps .shr ss .shr o (prs o) l6 x7 x8 x9 none none none none none none none none) = _
    have h3 := C3_law (.fl (dInts ns)) hn' m ps .shr ss o (prs o) l6 x7 x8 x9 none none (by omega)
    have h6 := C6_law (.fl (dInts ns)) hn' m ps ss .shr o (prs o) l6 x7 x8 x9 none none (by omega)
    have n1 : eC (.int 1) (rF (.fl (dInts ns)) hn' m ps .shr ss .shr o (prs o) l6 x7 x8 x9 none none none none none none none none) = some (rA (.int 1)) := rfl
    refine setA (r := ⟨dPr 1 (ps.map absI) ss, .full, false, false⟩) ?_ rfl (by unfold rF; simp)
    rw [tup3 n1 h6 h3]
    simp [mkTup, rA, dPr]
  obtain ⟨few, hf, h7⟩ := C7_law (.fl (dInts ns)) hn' m ps ss o (prs o) x7 x8 x9 (some ⟨dPr 1 (ps.map absI) ss, .full, false⟩) hpr
  have s9 : sFz [6] (sSet [] 11 C_law_7) (rF (.fl (dInts ns)) hn' m ps .shr ss .shr o (prs o) l6 x7 x8 x9 (some ⟨dPr 1 (ps.map absI) ss, .full, false⟩) none none none none none none none) = some (.nx (rF (.fl (dInts ns)) hn' m ps .shr ss .shr o (prs o) .shr x7 x8 x9 (some ⟨dPr 1 (ps.map absI) ss, .full, false⟩) (some ⟨.lst (few.map dPair), .full, false⟩) none none none none none none)) :=
    setA (ρ := rE (.fl (dInts ns)) hn' m ps ss o (prs o) x7 x8 x9 (some ⟨dPr 1 (ps.map absI) ss, .full, false⟩) none none) h7 rfl (i := 11) (by unfold rE rF; simp)
  have hb := prs_bound hp (n := (ps.map absI).length) (by rw [List.length_map]; exact hps)
  have h8 := C8_law (.fl (dInts ns)) hn' m ps .shr ss .shr o (prs o) .shr x7 x8 x9 (ps.map absI) few (Nat.le_trans hf.length_le hpr) (fun p h => hb p (hf.mem h))
  have hin := inner_law hp (ps.map absI) (by rw [List.length_map]; exact hps) (fun x hx => by
    obtain ⟨y, _, rfl⟩ := List.mem_map.mp hx
    exact absI_nn y) g hf
  have hri := R_innersum 1 (ps.map absI) ss (by omega) (fun s hs => (g.2 s hs).2.1)
  have s10 : sFz [11] (sRet (eCmp gLe (eBi bSum (aCons C_law_8 aNil)) (eCall R_inner_sum (aCons (eName 10) aNil)))) (rF (.fl (dInts ns)) hn' m ps .shr ss .shr o (prs o) .shr x7 x8 x9 (some ⟨dPr 1 (ps.map absI) ss, .full, false⟩) (some ⟨.lst (few.map dPair), .full, false⟩) none none none none none none) = some (.rt (.bl true) .full) := by
    show sRet _ (rF (.fl (dInts ns)) hn' m ps .shr ss .shr o (prs o) .shr x7 x8 x9 (some ⟨dPr 1 (ps.map absI) ss, .full, false⟩) (some ⟨.lst (few.map dPair), .shr, false⟩) none none none none none none) = _
    generalize (few.map (innP (ps.map absI) ss)) = fl at h8 hin
    generalize hρ : rF (.fl (dInts ns)) hn' m ps .shr ss .shr o (prs o) .shr x7 x8 x9 (some ⟨dPr 1 (ps.map absI) ss, .full, false⟩) (some ⟨.lst (few.map dPair), .shr, false⟩) none none none none none none = ρ at h8
    have n10 := nR (dPr 1 (ps.map absI) ss) .full false rfl ρ 10 (by rw [← hρ]; rfl)
    have e1 := bi1 h8 (bSum_ints fl)
    have e2 := call1 n10 hri
    unfold sRet eCmp
    rw [e1, e2]
    generalize (ps.map absI).sum + (ss.map fun s => s.2 * ((s.1.length : Int) / 2)).sum = top at hin
    simp only [Option.bind_some]
    walk_at "ev"
    exact hin
  refine ⟨.full, ?_⟩
  rw [map_int]
  unfold R_law B_law
  exact run_rt ((sSeq_nx s1).trans ((sSeq_nx s2).trans ((sSeq_nx s3).trans ((sSeq_nx s4).trans ((sSeq_nx s5).trans ((sSeq_nx s6).trans ((sSeq_nx s7).trans ((sSeq_nx s8).trans ((sSeq_nx s9).trans s10)))))))))
end Pr

set_option Elab.async false
set_option linter.all false
set_option maxRecDepth 100000
set_option maxHeartbeats 4000000
namespace Pr
open PySem PySem.Spec L2 Ev
open PyProof.Rows hiding St
def spLaw (K : PySem.W.Frag) : Sp := fun vs H Q _ => ∃ (a : Addr) (ns : List Int), vs = [.ref a] ∧ KSeq K H a (ns.map V.int) ∧ ns.length ≤ 63 ∧ ∀ H', Q (.bl true) H'
theorem law_sp {K : PySem.W.Frag} (main : ∀ ns : List Int, ns.length ≤ 63 → ∃ l, R_law [.fl (ns.map .int)] = some (.bl true, l)) : ∀ vs H Q E, spLaw K vs H Q E → spD K 1 R_law vs H Q E := fun vs H Q E ⟨a, ns, e, hs, hl, q⟩ => by
  subst e
  obtain ⟨l, hr⟩ := main ns hl
  refine ⟨rfl, [.fl (ns.map .int)], _, Rps.cons (F := []) (G := []) (.fl hs (rps_ints ns)) .nil, hr, fun v H' F _ _ _ rp => ?_⟩
  have rp : Rp K _ H' l v (.bl true) F := rp
  obtain ⟨rfl, _⟩ := rp.bl_inv
  exact q H'
theorem all_mk (main : ∀ ns : List Int, ns.length ≤ 63 → ∃ l, R_law [.fl (ns.map .int)] = some (.bl true, l)) {l : PySem.W.OpenLaw} {w : World} {K : PySem.W.Frag} {h : Heap} {mg : Str → Option Value} {fa f0 f1 f2 f3 f4 f5 f6 f7 f8 f9 f10 : Addr} (X : K.In h) (G : h.Ns mainGlobals mg) (hfa : mg "law" = some (.ref fa))
    {od0 an0 od1 an1 od2 an2 od3 an3 od4 an4 od5 an5 od6 an6 od7 an7 od8 an8 od9 an9 od10 an10 : Option Addr} {sl0 sl1 sl2 sl3 sl4 sl5 sl6 sl7 sl8 sl9 sl10 : Array (Option Value)} {oc0 kV0 dc0 pm0 cd0 ct0 oc1 kV1 dc1 pm1 cd1 ct1 oc2 kV2 dc2 pm2 cd2 ct2 oc3 kV3 dc3 pm3 cd3 ct3 oc4 kV4 dc4 pm4 cd4 ct4 oc5 kV5 dc5 pm5 cd5 ct5 oc6 kV6 dc6 pm6 cd6 ct6 oc7 kV7 dc7 pm7 cd7 ct7 oc8 kV8 dc8 pm8 cd8 ct8 oc9 kV9 dc9 pm9 cd9 ct9 oc10 kV10 dc10 pm10 cd10 ct10 : Value}
    (a0 : PySem.W.nsIn K mainGlobals "cut_price" = some (some (.ref f0))) (l0 : K.lookup f0 = some ⟨oc0, od0, .func (PySem.W.fnOf "cut_price" "cut_price" (defArgs s_cut_price) (defBody s_cut_price) (defScope s_cut_price) .none kV0 dc0 pm0 an0 cd0 ct0), sl0⟩) (c0 : PySem.W.codeIn K cd0 "cut_price" = true) (k0 : PySem.W.keepIn K (.ref f0) = true)
    (a1 : PySem.W.nsIn K mainGlobals "inner_price" = some (some (.ref f1))) (l1 : K.lookup f1 = some ⟨oc1, od1, .func (PySem.W.fnOf "inner_price" "inner_price" (defArgs s_inner_price) (defBody s_inner_price) (defScope s_inner_price) .none kV1 dc1 pm1 an1 cd1 ct1), sl1⟩) (c1 : PySem.W.codeIn K cd1 "inner_price" = true) (k1 : PySem.W.keepIn K (.ref f1) = true)
    (a2 : PySem.W.nsIn K mainGlobals "cut_sum" = some (some (.ref f2))) (l2 : K.lookup f2 = some ⟨oc2, od2, .func (PySem.W.fnOf "cut_sum" "cut_sum" (defArgs s_cut_sum) (defBody s_cut_sum) (defScope s_cut_sum) .none kV2 dc2 pm2 an2 cd2 ct2), sl2⟩) (c2 : PySem.W.codeIn K cd2 "cut_sum" = true) (k2 : PySem.W.keepIn K (.ref f2) = true)
    (a3 : PySem.W.nsIn K mainGlobals "inner_sum" = some (some (.ref f3))) (l3 : K.lookup f3 = some ⟨oc3, od3, .func (PySem.W.fnOf "inner_sum" "inner_sum" (defArgs s_inner_sum) (defBody s_inner_sum) (defScope s_inner_sum) .none kV3 dc3 pm3 an3 cd3 ct3), sl3⟩) (c3 : PySem.W.codeIn K cd3 "inner_sum" = true) (k3 : PySem.W.keepIn K (.ref f3) = true)
    (a4 : PySem.W.nsIn K mainGlobals "_law_cell_at" = some (some (.ref f4))) (l4 : K.lookup f4 = some ⟨oc4, od4, .func (PySem.W.fnOf "_law_cell_at" "_law_cell_at" (defArgs s_law_cell_at) (defBody s_law_cell_at) (defScope s_law_cell_at) .none kV4 dc4 pm4 an4 cd4 ct4), sl4⟩) (c4 : PySem.W.codeIn K cd4 "_law_cell_at" = true) (k4 : PySem.W.keepIn K (.ref f4) = true)
    (a5 : PySem.W.nsIn K mainGlobals "_law_heavy" = some (some (.ref f5))) (l5 : K.lookup f5 = some ⟨oc5, od5, .func (PySem.W.fnOf "_law_heavy" "_law_heavy" (defArgs s_law_heavy) (defBody s_law_heavy) (defScope s_law_heavy) .none kV5 dc5 pm5 an5 cd5 ct5), sl5⟩) (c5 : PySem.W.codeIn K cd5 "_law_heavy" = true) (k5 : PySem.W.keepIn K (.ref f5) = true)
    (a6 : PySem.W.nsIn K mainGlobals "_law_set" = some (some (.ref f6))) (l6 : K.lookup f6 = some ⟨oc6, od6, .func (PySem.W.fnOf "_law_set" "_law_set" (defArgs s_law_set) (defBody s_law_set) (defScope s_law_set) .none kV6 dc6 pm6 an6 cd6 ct6), sl6⟩) (c6 : PySem.W.codeIn K cd6 "_law_set" = true) (k6 : PySem.W.keepIn K (.ref f6) = true)
    (a7 : PySem.W.nsIn K mainGlobals "_law_sets" = some (some (.ref f7))) (l7 : K.lookup f7 = some ⟨oc7, od7, .func (PySem.W.fnOf "_law_sets" "_law_sets" (defArgs s_law_sets) (defBody s_law_sets) (defScope s_law_sets) .none kV7 dc7 pm7 an7 cd7 ct7), sl7⟩) (c7 : PySem.W.codeIn K cd7 "_law_sets" = true) (k7 : PySem.W.keepIn K (.ref f7) = true)
    (a8 : PySem.W.nsIn K mainGlobals "_law_order" = some (some (.ref f8))) (l8 : K.lookup f8 = some ⟨oc8, od8, .func (PySem.W.fnOf "_law_order" "_law_order" (defArgs s_law_order) (defBody s_law_order) (defScope s_law_order) .none kV8 dc8 pm8 an8 cd8 ct8), sl8⟩) (c8 : PySem.W.codeIn K cd8 "_law_order" = true) (k8 : PySem.W.keepIn K (.ref f8) = true)
    (a9 : PySem.W.nsIn K mainGlobals "_law_out_of" = some (some (.ref f9))) (l9 : K.lookup f9 = some ⟨oc9, od9, .func (PySem.W.fnOf "_law_out_of" "_law_out_of" (defArgs s_law_out_of) (defBody s_law_out_of) (defScope s_law_out_of) .none kV9 dc9 pm9 an9 cd9 ct9), sl9⟩) (c9 : PySem.W.codeIn K cd9 "_law_out_of" = true) (k9 : PySem.W.keepIn K (.ref f9) = true)
    (a10 : PySem.W.nsIn K mainGlobals "law" = some (some (.ref f10))) (l10 : K.lookup f10 = some ⟨oc10, od10, .func (PySem.W.fnOf "law" "law" (defArgs s_law) (defBody s_law) (defScope s_law) .none kV10 dc10 pm10 an10 cd10 ct10), sl10⟩) (c10 : PySem.W.codeIn K cd10 "law" = true) (k10 : PySem.W.keepIn K (.ref f10) = true)
    (z_len : PySem.W.nsIn K mainGlobals "len" = some none) (z_min : PySem.W.nsIn K mainGlobals "min" = some none) (z_max : PySem.W.nsIn K mainGlobals "max" = some none) (z_sum : PySem.W.nsIn K mainGlobals "sum" = some none) (z_sorted : PySem.W.nsIn K mainGlobals "sorted" = some none) (z_list : PySem.W.nsIn K mainGlobals "list" = some none) (z_range : PySem.W.nsIn K mainGlobals "range" = some none) (z_zip : PySem.W.nsIn K mainGlobals "zip" = some none) (z_enumerate : PySem.W.nsIn K mainGlobals "enumerate" = some none) (z_abs : PySem.W.nsIn K mainGlobals "abs" = some none) (z_int : PySem.W.nsIn K mainGlobals "int" = some none) (z_isinstance : PySem.W.nsIn K mainGlobals "isinstance" = some none) (z_bool : PySem.W.nsIn K mainGlobals "bool" = some none) (z_tuple : PySem.W.nsIn K mainGlobals "tuple" = some none) (z_str : PySem.W.nsIn K mainGlobals "str" = some none) (z_set : PySem.W.nsIn K mainGlobals "set" = some none) (z_all : PySem.W.nsIn K mainGlobals "all" = some none) (z_any : PySem.W.nsIn K mainGlobals "any" = some none) (z_reversed : PySem.W.nsIn K mainGlobals "reversed" = some none) (z_dict : PySem.W.nsIn K mainGlobals "dict" = some none) :
    ∃ fd : FuncData, (∀ (s : Shared) (v : Value), BindsTo s fd ⟨[v], []⟩ [("_law_script", v)]) ∧ ∀ base : Heap, K.In base → base.Ns mainGlobals mg → FnOk l.prog w K mg base CX0 3 fa fd ["_law_script"] (spLaw K) := by
  have e := hfa.symm.trans (PySem.W.mg_of X G a10)
  cases e
  have hB : Blts mg := ⟨PySem.W.mg_none_of X G z_len, PySem.W.mg_none_of X G z_min, PySem.W.mg_none_of X G z_max, PySem.W.mg_none_of X G z_sum, PySem.W.mg_none_of X G z_sorted, PySem.W.mg_none_of X G z_list, PySem.W.mg_none_of X G z_range, PySem.W.mg_none_of X G z_zip, PySem.W.mg_none_of X G z_enumerate, PySem.W.mg_none_of X G z_abs, PySem.W.mg_none_of X G z_int, PySem.W.mg_none_of X G z_isinstance, PySem.W.mg_none_of X G z_bool, PySem.W.mg_none_of X G z_tuple, PySem.W.mg_none_of X G z_str, PySem.W.mg_none_of X G z_set, PySem.W.mg_none_of X G z_all, PySem.W.mg_none_of X G z_any, PySem.W.mg_none_of X G z_reversed, PySem.W.mg_none_of X G z_dict⟩
  have F0 := fun_mk (st := s_cut_price) l0 c0 k0
  have b0 := F0.binds (ps := ["prices", "a", "b"]) fun _ _ _ _ _ _ us hl => match us, hl with | [_, _, _], _ => rfl
  have F1 := fun_mk (st := s_inner_price) l1 c1 k1
  have b1 := F1.binds (ps := ["prices", "a", "b"]) fun _ _ _ _ _ _ us hl => match us, hl with | [_, _, _], _ => rfl
  have F2 := fun_mk (st := s_cut_sum) l2 c2 k2
  have b2 := F2.binds (ps := ["prices"]) fun _ _ _ _ _ _ us hl => match us, hl with | [_], _ => rfl
  have F3 := fun_mk (st := s_inner_sum) l3 c3 k3
  have b3 := F3.binds (ps := ["prices"]) fun _ _ _ _ _ _ us hl => match us, hl with | [_], _ => rfl
  have F4 := fun_mk (st := s_law_cell_at) l4 c4 k4
  have b4 := F4.binds (ps := ["_law_script", "_law_k"]) fun _ _ _ _ _ _ us hl => match us, hl with | [_, _], _ => rfl
  have F5 := fun_mk (st := s_law_heavy) l5 c5 k5
  have b5 := F5.binds (ps := ["_law_cell"]) fun _ _ _ _ _ _ us hl => match us, hl with | [_], _ => rfl
  have F6 := fun_mk (st := s_law_set) l6 c6 k6
  have b6 := F6.binds (ps := ["_law_cell", "_law_many"]) fun _ _ _ _ _ _ us hl => match us, hl with | [_, _], _ => rfl
  have F7 := fun_mk (st := s_law_sets) l7 c7 k7
  have b7 := F7.binds (ps := ["_law_script", "_law_many"]) fun _ _ _ _ _ _ us hl => match us, hl with | [_, _], _ => rfl
  have F8 := fun_mk (st := s_law_order) l8 c8 k8
  have b8 := F8.binds (ps := ["_law_script", "_law_many"]) fun _ _ _ _ _ _ us hl => match us, hl with | [_, _], _ => rfl
  have F9 := fun_mk (st := s_law_out_of) l9 c9 k9
  have b9 := F9.binds (ps := ["_law_some", "_law_pairs"]) fun _ _ _ _ _ _ us hl => match us, hl with | [_, _], _ => rfl
  have F10 := fun_mk (st := s_law) l10 c10 k10
  refine ⟨PySem.W.fnOf "law" "law" (defArgs s_law) (defBody s_law) (defScope s_law) .none kV10 dc10 pm10 an10 cd10 ct10, fun s v => .of_eq rfl, fun base _ _ => ?_⟩
  have G_cut_price : FnD l.prog w K mg base 1 "cut_price" 3 R_cut_price := fnD_of (ok_cut_price F0 hB ) (PySem.W.mg_of X G a0) k0 b0
  have G_inner_price : FnD l.prog w K mg base 1 "inner_price" 3 R_inner_price := fnD_of (ok_inner_price F1 hB ) (PySem.W.mg_of X G a1) k1 b1
  have G_cut_sum : FnD l.prog w K mg base 1 "cut_sum" 1 R_cut_sum := fnD_of (ok_cut_sum F2 hB ) (PySem.W.mg_of X G a2) k2 b2
  have G_inner_sum : FnD l.prog w K mg base 1 "inner_sum" 1 R_inner_sum := fnD_of (ok_inner_sum F3 hB ) (PySem.W.mg_of X G a3) k3 b3
  have G_law_cell_at : FnD l.prog w K mg base 1 "_law_cell_at" 2 R_law_cell_at := fnD_of (ok_law_cell_at F4 hB ) (PySem.W.mg_of X G a4) k4 b4
  have G_law_heavy : FnD l.prog w K mg base 1 "_law_heavy" 1 R_law_heavy := fnD_of (ok_law_heavy F5 hB ) (PySem.W.mg_of X G a5) k5 b5
  have G_law_set : FnD l.prog w K mg base 1 "_law_set" 2 R_law_set := fnD_of (ok_law_set F6 hB ) (PySem.W.mg_of X G a6) k6 b6
  have G_law_sets : FnD l.prog w K mg base 2 "_law_sets" 2 R_law_sets := fnD_of (ok_law_sets F7 hB G_law_set) (PySem.W.mg_of X G a7) k7 b7
  have G_law_order : FnD l.prog w K mg base 2 "_law_order" 2 R_law_order := fnD_of (ok_law_order F8 hB G_law_cell_at) (PySem.W.mg_of X G a8) k8 b8
  have G_law_out_of : FnD l.prog w K mg base 1 "_law_out_of" 2 R_law_out_of := fnD_of (ok_law_out_of F9 hB ) (PySem.W.mg_of X G a9) k9 b9
  exact (ok_law F10 hB G_law_cell_at G_law_heavy G_law_sets G_law_order G_cut_price G_law_out_of G_cut_sum G_inner_price G_inner_sum).imp (law_sp main)
end Pr
open PySem PySem.W PyProof.Rows
set_option maxRecDepth 100000 in
set_option maxHeartbeats 0 in
theorem PySem.Challenge.cw_pairsheath_k52_no_choice_beats_prices_holds : PySem.Challenge.rw_pairsheath_k52_no_choice_beats_prices.Holds := by
  w_on; o_law; k_head; (case hw => w_witness2)
  k_fill
  refine L2.walk_of (l := PySem.Challenge.rw_pairsheath_k52_no_choice_beats_prices) (n := 63) (k := 3) (x := "_law_script") (CX := fun _ => L2.CX0) (sp := fun w => Pr.spLaw _) rfl (by decide) rfl ⟨rfl, by decide, by decide⟩ (fun w h Y => PySem.W.kIn_of Y) ?F (fun _ H a ns hl hO hS => ⟨a, ns, rfl, Ev.KSeq.of hS (fun xs e => by rcases hO a with q | ⟨o, ys, q⟩ <;> (rw [q] at e; cases e)), hl, fun _ => rfl⟩) (fun _ _ _ _ _ h => h)
  case F =>
    intro w mg fa h KX G hmg
    refine' Pr.all_mk Pr.main KX G hmg ?a0 ?l0 ?c0 ?k0 ?a1 ?l1 ?c1 ?k1 ?a2 ?l2 ?c2 ?k2 ?a3 ?l3 ?c3 ?k3 ?a4 ?l4 ?c4 ?k4 ?a5 ?l5 ?c5 ?k5 ?a6 ?l6 ?c6 ?k6 ?a7 ?l7 ?c7 ?k7 ?a8 ?l8 ?c8 ?k8 ?a9 ?l9 ?c9 ?k9 ?a10 ?l10 ?c10 ?k10 ?z_len ?z_min ?z_max ?z_sum ?z_sorted ?z_list ?z_range ?z_zip ?z_enumerate ?z_abs ?z_int ?z_isinstance ?z_bool ?z_tuple ?z_str ?z_set ?z_all ?z_any ?z_reversed ?z_dict
    (case a0 => k_is)
    (case l0 => k_is)
    (case c0 => k_is)
    (case k0 => k_is)
    (case a1 => k_is)
    (case l1 => k_is)
    (case c1 => k_is)
    (case k1 => k_is)
    (case a2 => k_is)
    (case l2 => k_is)
    (case c2 => k_is)
    (case k2 => k_is)
    (case a3 => k_is)
    (case l3 => k_is)
    (case c3 => k_is)
    (case k3 => k_is)
    (case a4 => k_is)
    (case l4 => k_is)
    (case c4 => k_is)
    (case k4 => k_is)
    (case a5 => k_is)
    (case l5 => k_is)
    (case c5 => k_is)
    (case k5 => k_is)
    (case a6 => k_is)
    (case l6 => k_is)
    (case c6 => k_is)
    (case k6 => k_is)
    (case a7 => k_is)
    (case l7 => k_is)
    (case c7 => k_is)
    (case k7 => k_is)
    (case a8 => k_is)
    (case l8 => k_is)
    (case c8 => k_is)
    (case k8 => k_is)
    (case a9 => k_is)
    (case l9 => k_is)
    (case c9 => k_is)
    (case k9 => k_is)
    (case a10 => k_is)
    (case l10 => k_is)
    (case c10 => k_is)
    (case k10 => k_is)
    (case z_len => k_is)
    (case z_min => k_is)
    (case z_max => k_is)
    (case z_sum => k_is)
    (case z_sorted => k_is)
    (case z_list => k_is)
    (case z_range => k_is)
    (case z_zip => k_is)
    (case z_enumerate => k_is)
    (case z_abs => k_is)
    (case z_int => k_is)
    (case z_isinstance => k_is)
    (case z_bool => k_is)
    (case z_tuple => k_is)
    (case z_str => k_is)
    (case z_set => k_is)
    (case z_all => k_is)
    (case z_any => k_is)
    (case z_reversed => k_is)
    (case z_dict => k_is)
