import PyProof.Rows.All
import Wide.All
import OpenK.AllK
import Wide.FinOn
import HandS.ForMost
import HandS.Deep
import HandS.Wide
import HandS.TupLe
import HandS.SortOrd
import HandS.SortRule
import HandS.SortInts
import HandS.IsInst
import HandS.Style
import HandS.More
import HandS.SetFor
import HandS.DictTup
import PyProof.Rows.SetFrom
import HandS.Rev
import HandS.Conv
import PyProof.DictMoreH
import HandS.SetKeys
import PySem.Challenge.RW_pairsheath_k25_between_two_choices
set_option Elab.async false
set_option linter.all false
set_option maxRecDepth 100000

namespace Ev
open PySem PySem.Spec L2
open PyProof.Rows hiding St


inductive D where
  | non | bl (b : Bool) | int (i : Int) | str (x : Str)
  | tup (xs : List D) | lst (xs : List D) | fl (xs : List D)
  | dk (kvs : List (Key × D)) | dt (kvs : List (List Key × D))
  | ins (C : Addr) (fs : List (Str × D)) | obj (C dx : Addr) (fs : List (Str × D))
  
  | any


inductive Lv where
  | shr | top | full
  deriving DecidableEq
def ch : Lv → Lv
  | .full => .full
  | _ => .shr

mutual

def imm : D → Bool
  | .non => true | .bl _ => true | .int _ => true | .str _ => true
  | .tup xs => immAll xs | .fl xs => immAll xs
  | _ => false
def immAll : List D → Bool
  | [] => true
  | d :: ds => imm d && immAll ds
end


inductive Node : D → HO → List V → List D → Prop
  | lst {vs : List V} {ds : List D} : Node (.lst ds) (.lst vs) vs ds
  | dk {kv : List (Key × V)} {kd : List (Key × D)} : kv.map (·.1) = kd.map (·.1) → Node (.dk kd) (.dK kv) (kv.map (·.2)) (kd.map (·.2))
  | dt {kv : List (List Key × V)} {kd : List (List Key × D)} : kv.map (·.1) = kd.map (·.1) → Node (.dt kd) (.dT kv) (kv.map (·.2)) (kd.map (·.2))
  | ins {C dx : Addr} {fv : List (Str × V)} {fd : List (Str × D)} : fv.map (·.1) = fd.map (·.1) → Node (.ins C fd) (.ins C dx fv) (fv.map (·.2)) (fd.map (·.2))
  | obj {C dx : Addr} {fv : List (Str × V)} {fd : List (Str × D)} : fv.map (·.1) = fd.map (·.1) → Node (.obj C dx fd) (.ins C dx fv) (fv.map (·.2)) (fd.map (·.2))


def KSeq (K : PySem.W.Frag) (H : Hp) (a : Addr) (xs : List V) : Prop :=
  (∃ o, H a = some (.frz o (.lst xs))) ∨ ∃ (o : Obj) (its : Array Value) (n : Nat), K.lookup a = some o ∧ o.cls = .type "list" ∧ o.dict = none ∧ o.data = .seq its n ∧ its.size ≤ sizeLine ∧ Vals xs its.toList

def RdN (H : Hp) (a : Addr) (o : HO) : Prop := H a = some o ∨ (∃ od, H a = some (.frz od o)) ∧ ((∃ kv, o = .dK kv) ∨ ∃ kv, o = .dT kv)
theorem RdN.rd {H : Hp} {a : Addr} {o : HO} (h : RdN H a o) : Rd H a o := h.imp id And.left
theorem RdN.ne {H : Hp} {a : Addr} {o : HO} (h : RdN H a o) : H a ≠ none := fun e => by
  rcases h with h | ⟨⟨od, h⟩, _⟩ <;> (rw [e] at h; cases h)
theorem RdN.lst {H : Hp} {a : Addr} {vs : List V} (h : RdN H a (.lst vs)) : H a = some (.lst vs) := by
  rcases h with h | ⟨_, ⟨_, h⟩ | ⟨_, h⟩⟩
  · exact h
  · cases h
  · cases h
theorem RdN.ins {H : Hp} {a C dx : Addr} {fv : List (Str × V)} (h : RdN H a (.ins C dx fv)) : H a = some (.ins C dx fv) := by
  rcases h with h | ⟨_, ⟨_, h⟩ | ⟨_, h⟩⟩
  · exact h
  · cases h
  · cases h
theorem RdN.imp {H H' : Hp} {a : Addr} {o : HO} (h : RdN H a o) (k : ∀ o', H a = some o' → H' a = some o') : RdN H' a o := by
  rcases h with h | ⟨⟨od, h⟩, q⟩
  · exact .inl (k _ h)
  · exact .inr ⟨⟨od, k _ h⟩, q⟩
mutual

inductive Rp (K : PySem.W.Frag) (S : Addr → Prop) (H : Hp) : Lv → V → D → List Addr → Prop
  | any {l : Lv} {v : V} : Rp K S H l v .any []
  | non {l : Lv} : Rp K S H l .non .non []
  | bl {l : Lv} {b : Bool} : Rp K S H l (.bl b) (.bl b) []
  | int {l : Lv} {i : Int} : Rp K S H l (.int i) (.int i) []
  | str {l : Lv} {x : Str} : Rp K S H l (.str x) (.str x) []
  | tup {l : Lv} {a : Addr} {vs : List V} {ds : List D} {F : List Addr} : H a = some (.tup vs) → Rps K S H l vs ds F → Rp K S H l (.ref a) (.tup ds) F
  | fl {l : Lv} {a : Addr} {vs : List V} {ds : List D} : KSeq K H a vs → Rps K S H .shr vs ds [] → Rp K S H l (.ref a) (.fl ds) []
  | nd0 {a : Addr} {o : HO} {d : D} {vs : List V} {ds : List D} : Node d o vs ds → RdN H a o → S a → Rps K S H .shr vs ds [] → Rp K S H .shr (.ref a) d []
  | nd1 {l : Lv} {a : Addr} {o : HO} {d : D} {vs : List V} {ds : List D} {F : List Addr} : l ≠ .shr → Node d o vs ds → H a = some o → Rps K S H (ch l) vs ds F → Rp K S H l (.ref a) d (a :: F)
inductive Rps (K : PySem.W.Frag) (S : Addr → Prop) (H : Hp) : Lv → List V → List D → List Addr → Prop
  | nil {l : Lv} : Rps K S H l [] [] []
  | cons {l : Lv} {v : V} {d : D} {vs : List V} {ds : List D} {F G : List Addr} : Rp K S H l v d F → Rps K S H l vs ds G → Rps K S H l (v :: vs) (d :: ds) (F ++ G)
end

section
variable {K : PySem.W.Frag} {S S' : Addr → Prop} {H H' : Hp} {l : Lv} {v : V} {d : D} {F : List Addr}
mutual
theorem Rp.shr0 : ∀ {v : V} {d : D} {F : List Addr}, Rp K S H .shr v d F → F = []
  | _, _, _, .any => rfl
  | _, _, _, .non => rfl
  | _, _, _, .bl => rfl
  | _, _, _, .int => rfl
  | _, _, _, .str => rfl
  | _, _, _, .tup _ h => Rps.shr0 h
  | _, _, _, .fl _ _ => rfl
  | _, _, _, .nd0 _ _ _ _ => rfl
  | _, _, _, .nd1 h _ _ _ => absurd rfl h
theorem Rps.shr0 : ∀ {vs : List V} {ds : List D} {F : List Addr}, Rps K S H .shr vs ds F → F = []
  | _, _, _, .nil => rfl
  | _, _, _, .cons h1 h2 => by rw [Rp.shr0 h1, Rps.shr0 h2]; rfl
end


def Keeps (S : Addr → Prop) (F : List Addr) (H H' : Hp) : Prop :=
  ∀ b o, H b = some o → (S b ∨ b ∈ F ∨ (∃ xs, o = .tup xs) ∨ ∃ o' u, o = .frz o' u) → H' b = some o
theorem Keeps.sub {F G : List Addr} (k : Keeps S G H H') (h : ∀ a ∈ F, a ∈ G) : Keeps S F H H' := fun b o e q =>
  k b o e (q.imp id fun q => q.imp (h b) id)
theorem Keeps.same (h : Same H H') : Keeps S F H H' := fun b o e _ => h b o e
theorem rd_keep {a : Addr} {u : HO} (r : Rd H a u) (s : S a) (k : Keeps S F H H') : Rd H' a u := by
  rcases r with e | ⟨o, e⟩
  · exact .inl (k a _ e (.inl s))
  · exact .inr ⟨o, k a _ e (.inl s)⟩
theorem sqt_keep {a : Addr} {vs : List V} (r : SqT K H a vs) (k : Keeps S F H H') : SqT K H' a vs := by
  rcases r with (e | ⟨o, e⟩) | r
  · exact .inl (.inl (k a _ e (.inr (.inr (.inl ⟨_, rfl⟩)))))
  · exact .inl (.inr ⟨o, k a _ e (.inr (.inr (.inr ⟨_, _, rfl⟩)))⟩)
  · exact .inr r
theorem kseq_keep {a : Addr} {vs : List V} (r : KSeq K H a vs) (k : Keeps S F H H') : KSeq K H' a vs := by
  rcases r with ⟨o, e⟩ | r
  · exact .inl ⟨o, k a _ e (.inr (.inr (.inr ⟨_, _, rfl⟩)))⟩
  · exact .inr r
theorem KSeq.sq {a : Addr} {vs : List V} (r : KSeq K H a vs) : SqL K H a vs := by
  rcases r with r | r
  · exact .inl (.inr r)
  · exact .inr r
theorem KSeq.of {a : Addr} {vs : List V} (r : SqL K H a vs) (h : ∀ xs, H a ≠ some (.lst xs)) : KSeq K H a vs := by
  rcases r with (r | r) | r
  · exact absurd r (h _)
  · exact .inl r
  · exact .inr r
mutual
theorem Rp.keep : ∀ {l : Lv} {v : V} {d : D} {F : List Addr}, Rp K S H l v d F → Keeps S F H H' → Rp K S H' l v d F
  | _, _, _, _, .any, _ => .any
  | _, _, _, _, .non, _ => .non
  | _, _, _, _, .bl, _ => .bl
  | _, _, _, _, .int, _ => .int
  | _, _, _, _, .str, _ => .str
  | _, _, _, _, .tup h1 h2, k => .tup (k _ _ h1 (.inr (.inr (.inl ⟨_, rfl⟩)))) (Rps.keep h2 k)
  | _, _, _, _, .fl h1 h3, k => .fl (kseq_keep h1 k) (Rps.keep h3 (k.sub fun _ z => nomatch z))
  | _, _, _, _, .nd0 h0 h1 h2 h3, k => .nd0 h0 (h1.imp fun _ e => k _ _ e (.inl h2)) h2 (Rps.keep h3 k)
  | _, _, _, _, .nd1 h0 h1 h2 h3, k => .nd1 h0 h1 (k _ _ h2 (.inr (.inl List.mem_cons_self))) (Rps.keep h3 (k.sub fun _ z => List.mem_cons_of_mem _ z))
theorem Rps.keep : ∀ {l : Lv} {vs : List V} {ds : List D} {F : List Addr}, Rps K S H l vs ds F → Keeps S F H H' → Rps K S H' l vs ds F
  | _, _, _, _, .nil, _ => .nil
  | _, _, _, _, .cons h1 h2, k => .cons (Rp.keep h1 (k.sub fun _ z => List.mem_append_left _ z)) (Rps.keep h2 (k.sub fun _ z => List.mem_append_right _ z))
end
mutual
theorem Rp.mono (h : ∀ a, S a → S' a) : ∀ {l : Lv} {v : V} {d : D} {F : List Addr}, Rp K S H l v d F → Rp K S' H l v d F
  | _, _, _, _, .any => .any
  | _, _, _, _, .non => .non
  | _, _, _, _, .bl => .bl
  | _, _, _, _, .int => .int
  | _, _, _, _, .str => .str
  | _, _, _, _, .tup h1 h2 => .tup h1 (Rps.mono h h2)
  | _, _, _, _, .fl h1 h3 => .fl h1 (Rps.mono h h3)
  | _, _, _, _, .nd0 h0 h1 h2 h3 => .nd0 h0 h1 (h _ h2) (Rps.mono h h3)
  | _, _, _, _, .nd1 h0 h1 h2 h3 => .nd1 h0 h1 h2 (Rps.mono h h3)
theorem Rps.mono (h : ∀ a, S a → S' a) : ∀ {l : Lv} {vs : List V} {ds : List D} {F : List Addr}, Rps K S H l vs ds F → Rps K S' H l vs ds F
  | _, _, _, _, .nil => .nil
  | _, _, _, _, .cons h1 h2 => .cons (Rp.mono h h1) (Rps.mono h h2)
end
mutual

theorem Rp.give (h : ∀ a, S a → S' a) : ∀ {l : Lv} {v : V} {d : D} {F : List Addr}, Rp K S H l v d F → (∀ a ∈ F, S' a) → Rp K S' H .shr v d []
  | _, _, _, _, .any, _ => .any
  | _, _, _, _, .non, _ => .non
  | _, _, _, _, .bl, _ => .bl
  | _, _, _, _, .int, _ => .int
  | _, _, _, _, .str, _ => .str
  | _, _, _, _, .tup h1 h2, k => .tup h1 (Rps.give h h2 k)
  | _, _, _, _, .fl h1 h3, k => .fl h1 (Rps.mono h h3)
  | _, _, _, _, .nd0 h0 h1 h2 h3, k => .nd0 h0 h1 (h _ h2) (Rps.mono h h3)
  | _, _, _, _, .nd1 h0 h1 h2 h3, k => .nd0 h1 (.inl h2) (k _ List.mem_cons_self) (Rps.give h h3 fun a z => k a (List.mem_cons_of_mem _ z))
theorem Rps.give (h : ∀ a, S a → S' a) : ∀ {l : Lv} {vs : List V} {ds : List D} {F : List Addr}, Rps K S H l vs ds F → (∀ a ∈ F, S' a) → Rps K S' H .shr vs ds []
  | _, _, _, _, .nil, _ => .nil
  | _, _, _, _, .cons h1 h2, k => Rps.cons (F := []) (G := []) (Rp.give h h1 fun a z => k a (List.mem_append_left _ z)) (Rps.give h h2 fun a z => k a (List.mem_append_right _ z))
end
mutual
theorem Rp.of_imm {l' : Lv} : ∀ {l : Lv} {v : V} {d : D} {F : List Addr}, Rp K S H l v d F → imm d = true → F = [] ∧ Rp K S' H l' v d []
  | _, _, _, _, .any, e => by simp [imm] at e
  | _, _, _, _, .non, _ => ⟨rfl, .non⟩
  | _, _, _, _, .bl, _ => ⟨rfl, .bl⟩
  | _, _, _, _, .int, _ => ⟨rfl, .int⟩
  | _, _, _, _, .str, _ => ⟨rfl, .str⟩
  | _, _, _, _, .tup h1 h2, e => let ⟨q, r⟩ := Rps.of_imm h2 (by simpa only [imm] using e); ⟨q, .tup h1 r⟩
  | _, _, _, _, .fl h1 h2, e => ⟨rfl, .fl h1 (Rps.of_imm h2 (by simpa only [imm] using e)).2⟩
  | _, _, _, _, .nd0 h _ _ _, e => by cases h <;> (simp only [imm] at e; cases e)
  | _, _, _, _, .nd1 _ h _ _, e => by cases h <;> (simp only [imm] at e; cases e)
theorem Rps.of_imm {l' : Lv} : ∀ {l : Lv} {vs : List V} {ds : List D} {F : List Addr}, Rps K S H l vs ds F → immAll ds = true → F = [] ∧ Rps K S' H l' vs ds []
  | _, _, _, _, .nil, _ => ⟨rfl, .nil⟩
  | _, _, _, _, .cons h1 h2, e => by
    simp only [immAll, Bool.and_eq_true] at e
    obtain ⟨q1, r1⟩ := Rp.of_imm (l' := l') h1 e.1
    obtain ⟨q2, r2⟩ := Rps.of_imm (l' := l') h2 e.2
    exact ⟨by rw [q1, q2]; rfl, Rps.cons (F := []) (G := []) r1 r2⟩
end
theorem Rp.same (h : Rp K S H l v d F) (s : Same H H') : Rp K S H' l v d F := h.keep (.same s)
theorem Rps.same {vs : List V} {ds : List D} (h : Rps K S H l vs ds F) (s : Same H H') : Rps K S H' l vs ds F := h.keep (.same s)
theorem Rps.len : ∀ {vs : List V} {ds : List D} {F : List Addr}, Rps K S H l vs ds F → vs.length = ds.length
  | _, _, _, .nil => rfl
  | _, _, _, .cons _ h => by rw [List.length_cons, List.length_cons, Rps.len h]

theorem Rp.int_inv {i : Int} (h : Rp K S H l v (.int i) F) : v = .int i ∧ F = [] := by
  cases h with
  | int => exact ⟨rfl, rfl⟩
  | nd0 h => cases h
  | nd1 _ h => cases h
theorem Rp.bl_inv {b : Bool} (h : Rp K S H l v (.bl b) F) : v = .bl b ∧ F = [] := by
  cases h with
  | bl => exact ⟨rfl, rfl⟩
  | nd0 h => cases h
  | nd1 _ h => cases h
theorem Rp.str_inv {x : Str} (h : Rp K S H l v (.str x) F) : v = .str x ∧ F = [] := by
  cases h with
  | str => exact ⟨rfl, rfl⟩
  | nd0 h => cases h
  | nd1 _ h => cases h
theorem Rp.non_inv (h : Rp K S H l v .non F) : v = .non ∧ F = [] := by
  cases h with
  | non => exact ⟨rfl, rfl⟩
  | nd0 h => cases h
  | nd1 _ h => cases h
theorem Rp.tup_inv {ds : List D} (h : Rp K S H l v (.tup ds) F) : ∃ a vs, v = .ref a ∧ H a = some (.tup vs) ∧ Rps K S H l vs ds F := by
  cases h with
  | tup h1 h2 => exact ⟨_, _, rfl, h1, h2⟩
  | nd0 h => cases h
  | nd1 _ h => cases h

theorem Rp.lst_inv {ds : List D} (h : Rp K S H l v (.lst ds) F) : ∃ a vs G, v = .ref a ∧ H a = some (.lst vs) ∧ Rps K S H (ch l) vs ds G ∧ (∀ b ∈ G, b ∈ F) ∧ (F.Nodup → G.Nodup) := by
  cases h with
  | nd0 h h1 h2 h3 => cases h; exact ⟨_, _, _, rfl, h1.lst, h3, fun _ z => z, id⟩
  | nd1 h0 h h1 h2 => cases h; exact ⟨_, _, _, rfl, h1, h2, fun _ z => List.mem_cons_of_mem _ z, fun n => (List.nodup_cons.mp n).2⟩
theorem Rp.fl_inv {ds : List D} (h : Rp K S H l v (.fl ds) F) : ∃ a vs, v = .ref a ∧ KSeq K H a vs ∧ Rps K S H .shr vs ds [] ∧ F = [] := by
  cases h with
  | fl h1 h2 => exact ⟨_, _, rfl, h1, h2, rfl⟩
  | nd0 h => cases h
  | nd1 _ h => cases h

theorem rd_trk {a : Addr} {u : HO} (r : Rd H a u) : H a ≠ none := by
  rcases r with e | ⟨o, e⟩ <;> (rw [e]; exact fun z => nomatch z)
mutual
theorem Rp.trk : ∀ {l : Lv} {v : V} {d : D} {F : List Addr}, Rp K S H l v d F → Rp K (fun a => S a ∧ H a ≠ none) H l v d F
  | _, _, _, _, .any => .any
  | _, _, _, _, .non => .non
  | _, _, _, _, .bl => .bl
  | _, _, _, _, .int => .int
  | _, _, _, _, .str => .str
  | _, _, _, _, .tup h1 h2 => .tup h1 (Rps.trk h2)
  | _, _, _, _, .fl h1 h3 => .fl h1 (Rps.trk h3)
  | _, _, _, _, .nd0 h0 h1 h2 h3 => .nd0 h0 h1 ⟨h2, h1.ne⟩ (Rps.trk h3)
  | _, _, _, _, .nd1 h0 h1 h2 h3 => .nd1 h0 h1 h2 (Rps.trk h3)
theorem Rps.trk : ∀ {l : Lv} {vs : List V} {ds : List D} {F : List Addr}, Rps K S H l vs ds F → Rps K (fun a => S a ∧ H a ≠ none) H l vs ds F
  | _, _, _, _, .nil => .nil
  | _, _, _, _, .cons h1 h2 => .cons (Rp.trk h1) (Rps.trk h2)
end
mutual
theorem Rp.own_trk : ∀ {l : Lv} {v : V} {d : D} {F : List Addr}, Rp K S H l v d F → ∀ a ∈ F, H a ≠ none
  | _, _, _, _, .any => fun _ z => nomatch z
  | _, _, _, _, .non => fun _ z => nomatch z
  | _, _, _, _, .bl => fun _ z => nomatch z
  | _, _, _, _, .int => fun _ z => nomatch z
  | _, _, _, _, .str => fun _ z => nomatch z
  | _, _, _, _, .tup h1 h2 => Rps.own_trk h2
  | _, _, _, _, .fl h1 h3 => fun _ z => nomatch z
  | _, _, _, _, .nd0 h0 h1 h2 h3 => fun _ z => nomatch z
  | _, _, _, _, .nd1 h0 h1 h2 h3 => fun a z => (List.mem_cons.mp z).elim (fun e => by rw [e, h2]; exact fun z => nomatch z) (Rps.own_trk h3 a)
theorem Rps.own_trk : ∀ {l : Lv} {vs : List V} {ds : List D} {F : List Addr}, Rps K S H l vs ds F → ∀ a ∈ F, H a ≠ none
  | _, _, _, _, .nil => fun _ z => nomatch z
  | _, _, _, _, .cons h1 h2 => fun a z => (List.mem_append.mp z).elim (Rp.own_trk h1 a) (Rps.own_trk h2 a)
end
theorem Rps.get : ∀ {vs : List V} {ds : List D} {F : List Addr} {i : Nat} {d : D}, Rps K S H l vs ds F → ds[i]? = some d → ∃ v G, vs[i]? = some v ∧ Rp K S H l v d G ∧ ∀ b ∈ G, b ∈ F
  | _, _, _, _, _, .nil, e => by simp at e
  | _, _, _, 0, _, .cons h1 _, e => by
    simp at e; subst e
    exact ⟨_, _, rfl, h1, fun _ z => List.mem_append_left _ z⟩
  | _, _, _, i + 1, d, .cons _ h2, e => by
    obtain ⟨v, G, e1, r, s⟩ := Rps.get (i := i) (d := d) h2 (by simpa using e)
    exact ⟨v, G, by simpa using e1, r, fun b z => List.mem_append_right _ (s b z)⟩
theorem Rps.app : ∀ {vs : List V} {ds : List D} {F : List Addr} {us : List V} {es : List D} {G : List Addr}, Rps K S H l vs ds F → Rps K S H l us es G → Rps K S H l (vs ++ us) (ds ++ es) (F ++ G)
  | _, _, _, _, _, _, .nil, q => q
  | _, _, _, _, _, _, .cons h1 h2, q => by
    rw [List.append_assoc]
    exact .cons h1 (Rps.app h2 q)
theorem Rps.take : ∀ {vs : List V} {ds : List D} (n : Nat), Rps K S H .shr vs ds [] → Rps K S H .shr (vs.take n) (ds.take n) []
  | _, _, 0, _ => .nil
  | _, _, n + 1, h => by
    generalize hF : ([] : List Addr) = F at h
    cases h with
    | nil => exact .nil
    | cons h1 h2 =>
      have e1 := h1.shr0
      have e2 := h2.shr0
      subst e1 e2
      exact Rps.cons (F := []) (G := []) h1 (Rps.take n h2)
theorem Rps.drop : ∀ {vs : List V} {ds : List D} (n : Nat), Rps K S H .shr vs ds [] → Rps K S H .shr (vs.drop n) (ds.drop n) []
  | _, _, 0, h => h
  | _, _, n + 1, h => by
    generalize hF : ([] : List Addr) = F at h
    cases h with
    | nil => exact .nil
    | cons h1 h2 =>
      have e1 := h1.shr0
      have e2 := h2.shr0
      subst e1 e2
      exact Rps.drop n h2
end

section
variable {K : PySem.W.Frag} {S S' : Addr → Prop} {H H' : Hp} {l : Lv} {v : V} {d : D} {F : List Addr}
theorem mut_ne {a : Addr} (m : Mut (H a)) : H a ≠ none := fun e => by rw [e] at m; exact m
theorem Node.mu {d : D} {o : HO} {vs : List V} {ds : List D} (h : Node d o vs ds) : Mut (some o) := by cases h <;> trivial
mutual
theorem Rp.own_mut : ∀ {l : Lv} {v : V} {d : D} {F : List Addr}, Rp K S H l v d F → ∀ a ∈ F, Mut (H a)
  | _, _, _, _, .any => fun _ z => nomatch z
  | _, _, _, _, .non => fun _ z => nomatch z
  | _, _, _, _, .bl => fun _ z => nomatch z
  | _, _, _, _, .int => fun _ z => nomatch z
  | _, _, _, _, .str => fun _ z => nomatch z
  | _, _, _, _, .tup h1 h2 => Rps.own_mut h2
  | _, _, _, _, .fl h1 h3 => fun _ z => nomatch z
  | _, _, _, _, .nd0 h0 h1 h2 h3 => fun _ z => nomatch z
  | _, _, _, _, .nd1 h0 h1 h2 h3 => fun a z => (List.mem_cons.mp z).elim (fun e => by rw [e, h2]; exact h1.mu) (Rps.own_mut h3 a)
theorem Rps.own_mut : ∀ {l : Lv} {vs : List V} {ds : List D} {F : List Addr}, Rps K S H l vs ds F → ∀ a ∈ F, Mut (H a)
  | _, _, _, _, .nil => fun _ z => nomatch z
  | _, _, _, _, .cons h1 h2 => fun a z => (List.mem_append.mp z).elim (Rp.own_mut h1 a) (Rps.own_mut h2 a)
end
theorem mut_same {a : Addr} (m : Mut (H a)) (s : Same H H') : Mut (H' a) := by
  cases e : H a with
  | none => rw [e] at m; exact m.elim
  | some o => rw [s a o e]; rw [e] at m; exact m
end


structure Sv where
  d : D
  l : Lv
  al : Bool
  pn : Option Nat

structure Rv where
  d : D
  l : Lv
  al : Bool
  vw : Bool
abbrev Env := List (Option Sv)

structure Nw where
  n : Addr → Prop
  s : Addr → Prop
  p : Nat → Addr
instance : CoeFun Nw fun _ => Addr → Prop := ⟨Nw.n⟩
def AlN (N : Nw) (al : Bool) (a : Addr) : Prop := (N a ∨ N.s a) ∧ (al = false → N a)
theorem AlN.new {N : Nw} {al : Bool} {a : Addr} (h : N a) : AlN N al a := ⟨.inl h, fun _ => h⟩
theorem AlN.up {N : Nw} {al al' : Bool} {a : Addr} (h : AlN N al a) (k : al = true → al' = true) : AlN N al' a := ⟨h.1, fun e => h.2 (by
  cases al with
  | false => rfl
  | true => rw [k rfl] at e; cases e)⟩

def SR (N : Nw) (L : List Addr) (al vw : Bool) : Addr → Prop := fun a => AlN N al a ∧ (vw = false → a ∉ L)

inductive Slots (K : PySem.W.Frag) (N : Nw) (L : List Addr) (H : Hp) : St → Env → List Addr → Prop
  | nil : Slots K N L H [] [] []
  | no {x : Option V} {σ : St} {ρ : Env} {F : List Addr} : Slots K N L H σ ρ F → Slots K N L H (x :: σ) (none :: ρ) F
  | so {v : V} {s : Sv} {σ : St} {ρ : Env} {F G : List Addr} : (∀ k, s.pn = some k → v = .ref (N.p k)) → Rp K (SR N L s.al false) H s.l v s.d F → Slots K N L H σ ρ G → Slots K N L H (some v :: σ) (some s :: ρ) (F ++ G)


structure Sim (K : PySem.W.Frag) (N : Nw) (H0 : Hp) (ρ : Env) (σ : St) (H : Hp) (L : List Addr) : Prop where
  kp : ∀ b o, H0 b = some o → ¬ N b → H b = some o
  nw : ∀ b, H b = none → N b
  nd : L.Nodup
  ln : ∀ a ∈ L, N a
  mu : ∀ a ∈ L, Mut (H a)
  sl : Slots K N L H σ ρ L
theorem Sim.th {K : PySem.W.Frag} {N : Nw} {H0 H : Hp} {ρ : Env} {σ : St} {L : List Addr} (s : Sim K N H0 ρ σ H L) : ∀ a ∈ L, H a ≠ none := fun a z => mut_ne (s.mu a z)
section
variable {K : PySem.W.Frag} {N : Nw} {H0 H H' : Hp} {ρ : Env} {σ : St} {L : List Addr}
theorem Slots.keep {L0 : List Addr} : ∀ {σ : St} {ρ : Env} {F : List Addr}, Slots K N L0 H σ ρ F → (∀ al, Keeps (SR N L0 al false) F H H') → Slots K N L0 H' σ ρ F
  | _, _, _, .nil, _ => .nil
  | _, _, _, .no h, k => .no (Slots.keep h k)
  | _, _, _, .so h0 h1 h2, k => .so h0 (h1.keep ((k _).sub fun _ z => List.mem_append_left _ z)) (Slots.keep h2 fun al => (k al).sub fun _ z => List.mem_append_right _ z)
theorem Slots.mono {L0 L1 : List Addr} (h : ∀ a, a ∉ L0 → a ∉ L1) : ∀ {σ : St} {ρ : Env} {F : List Addr}, Slots K N L0 H σ ρ F → Slots K N L1 H σ ρ F
  | _, _, _, .nil => .nil
  | _, _, _, .no s => .no (Slots.mono h s)
  | _, _, _, .so h0 h1 h2 => .so h0 (h1.mono fun a z => ⟨z.1, fun e => h a (z.2 e)⟩) (Slots.mono h h2)

theorem Slots.move {L0 L1 : List Addr} (h : ∀ a, a ∉ L0 → H a ≠ none → a ∉ L1) : ∀ {σ : St} {ρ : Env} {F : List Addr}, Slots K N L0 H σ ρ F → (∀ al, Keeps (SR N L0 al false) F H H') → Slots K N L1 H' σ ρ F
  | _, _, _, .nil, _ => .nil
  | _, _, _, .no s, k => .no (Slots.move h s k)
  | _, _, _, .so h0 h1 h2, k => .so h0 ((h1.trk.keep (F := _) (fun b o e q => k _ b o e (q.imp (fun z => z.1) (fun z => z.imp (List.mem_append_left _) id)))).mono fun a z => ⟨z.1.1, fun _ => h a (z.1.2 rfl) z.2⟩) (Slots.move h h2 fun al => (k al).sub fun _ z => List.mem_append_right _ z)
theorem Slots.len {L0 : List Addr} : ∀ {σ : St} {ρ : Env} {F : List Addr}, Slots K N L0 H σ ρ F → σ.length = ρ.length
  | _, _, _, .nil => rfl
  | _, _, _, .no h => by rw [List.length_cons, List.length_cons, Slots.len h]
  | _, _, _, .so _ _ h => by rw [List.length_cons, List.length_cons, Slots.len h]

theorem Sim.same (s : Sim K N H0 ρ σ H L) (h : Same H H') : Sim K N H0 ρ σ H' L where
  kp := fun b o e n => h b o (s.kp b o e n)
  nw := fun b e => s.nw b (h.free e)
  nd := s.nd
  ln := s.ln
  mu := fun a ha => mut_same (s.mu a ha) h
  sl := s.sl.keep fun _ => .same h
theorem Slots.get {L0 : List Addr} : ∀ {σ : St} {ρ : Env} {F : List Addr} {i : Nat} {s : Sv}, Slots K N L0 H σ ρ F → ρ[i]? = some (some s) → ∃ v G, σ[i]? = some (some v) ∧ Rp K (SR N L0 s.al false) H s.l v s.d G ∧ (∀ b ∈ G, b ∈ F) ∧ ∀ k, s.pn = some k → v = .ref (N.p k)
  | _, _, _, _, _, .nil, e => by simp at e
  | _, _, _, 0, _, .no _, e => by simp at e
  | _, _, _, i + 1, s, .no h, e => by
    obtain ⟨v, G, e1, r, q⟩ := Slots.get (i := i) (s := s) h (by simpa using e)
    exact ⟨v, G, by simpa using e1, r, q⟩
  | _, _, _, 0, _, .so h0 h _, e => by
    simp at e; subst e
    exact ⟨_, _, rfl, h, fun _ z => List.mem_append_left _ z, h0⟩
  | _, _, _, i + 1, s, .so _ _ h, e => by
    obtain ⟨v, G, e1, r, q, p⟩ := Slots.get (i := i) (s := s) h (by simpa using e)
    exact ⟨v, G, by simpa using e1, r, fun b z => List.mem_append_right _ (q b z), p⟩

theorem Slots.at_ {L0 : List Addr} : ∀ {σ : St} {ρ : Env} {F : List Addr} {i : Nat}, Slots K N L0 H σ ρ F → i < ρ.length →
    ∃ F1 G F2, F = F1 ++ (G ++ F2) ∧ (∀ s, ρ[i]? = some (some s) → ∃ v, σ[i]? = some (some v) ∧ (∀ k, s.pn = some k → v = .ref (N.p k)) ∧ Rp K (SR N L0 s.al false) H s.l v s.d G) ∧
      ∀ {L1 : List Addr} {H1 : Hp} {v : V} {s : Sv} {G' : List Addr}, (∀ al, Keeps (SR N L0 al false) (F1 ++ F2) H H1) → (∀ a, a ∉ L0 → H a ≠ none → a ∉ L1) → (∀ k, s.pn = some k → v = .ref (N.p k)) → Rp K (SR N L1 s.al false) H1 s.l v s.d G' → Slots K N L1 H1 (σ.set i (some v)) (ρ.set i (some s)) (F1 ++ (G' ++ F2))
  | _, _, _, _, .nil, h => absurd h (Nat.not_lt_zero _)
  | _, _, F, 0, .no h, _ => ⟨[], [], F, rfl, fun s e => by simp at e, fun {L1 H1 v s G'} k g p r => Slots.so (F := G') p r (h.move g k)⟩
  | _, _, _, 0, .so (F := F) (G := G) h0 h1 h, _ => ⟨[], F, G, rfl, fun s e => by simp at e; subst e; exact ⟨_, rfl, h0, h1⟩, fun {L1 H1 v s G'} k g p r => Slots.so (F := G') p r (h.move g k)⟩
  | _, _, _, i + 1, .no h, hl => by
    obtain ⟨F1, G, F2, e, q, p⟩ := Slots.at_ (i := i) h (by simpa using hl)
    exact ⟨F1, G, F2, e, fun s z => by simpa using q s (by simpa using z), fun {L1 H1 v s G'} k g pp r => .no (p k g pp r)⟩
  | _, _, _, i + 1, .so (F := F) h0 h1 h, hl => by
    obtain ⟨F1, G, F2, e, q, p⟩ := Slots.at_ (i := i) h (by simpa using hl)
    refine ⟨F ++ F1, G, F2, by rw [e, List.append_assoc], fun s z => by simpa using q s (by simpa using z), fun {L1 H1 v s G'} k g pp r => ?_⟩
    rw [List.append_assoc]
    refine .so h0 ?_ (p (fun al => (k al).sub fun a z => ?_) g pp r)
    · exact (h1.trk.keep (fun b o e q => k _ b o e (q.imp (fun z => z.1) (fun z => z.imp (fun y => by simp [y]) id)))).mono fun a z => ⟨z.1.1, fun _ => g a (z.1.2 rfl) z.2⟩
    · rcases List.mem_append.mp z with z | z <;> simp [z]

theorem Sim.set {i : Nat} {v : V} {r : Sv} {G : List Addr} (s : Sim K N H0 ρ σ H L) (pp : ∀ k, r.pn = some k → v = .ref (N.p k)) (sm : Same H H') (new : ∀ a ∈ G, H a = none) (nd : G.Nodup) (rp : Rp K (fun a => SR N L r.al false a ∧ a ∉ G) H' r.l v r.d G) (hi : i < ρ.length) :
    ∃ L', Sim K N H0 (ρ.set i (some r)) (σ.set i (some v)) H' L' ∧ ∀ a ∈ L', a ∈ L ∨ a ∈ G := by
  obtain ⟨F1, G0, F2, e, _, p⟩ := s.sl.at_ hi
  have hnd := s.nd
  rw [e] at hnd
  have sub : ∀ a, a ∈ F1 ++ (G ++ F2) → a ∈ L ∨ a ∈ G := fun a z => by
    rw [e]
    rcases List.mem_append.mp z with z | z
    · exact .inl (by simp [z])
    · rcases List.mem_append.mp z with z | z
      · exact .inr z
      · exact .inl (by simp [z])
  have q := p (L1 := F1 ++ (G ++ F2)) (H1 := H') (v := v) (s := r) (G' := G) (fun al => .same sm) (fun a z t m => (sub a m).elim z fun y => t (new a y)) pp (rp.mono fun a z => ⟨z.1.1, fun m y => (sub a y).elim (z.1.2 rfl) z.2⟩)
  refine ⟨F1 ++ (G ++ F2), ⟨fun b o e n => sm b o (s.kp b o e n), fun b z => s.nw b (sm.free z), ?_, fun a z => ?_, fun a z => ?_, q⟩, sub⟩
  · rw [List.nodup_append] at hnd ⊢
    obtain ⟨n1, n2, n3⟩ := hnd
    rw [List.nodup_append] at n2 ⊢
    have inL : ∀ a, a ∈ F1 ∨ a ∈ F2 → H a ≠ none := fun a z => s.th a (by rw [e]; rcases z with z | z <;> simp [z])
    refine ⟨n1, ⟨nd, n2.2.1, fun a ha b hb z => inL b (.inr hb) (z ▸ new a ha)⟩, fun a ha b hb z => ?_⟩
    rcases List.mem_append.mp hb with hb | hb
    · exact inL a (.inl ha) (z ▸ new b hb)
    · exact n3 a ha b (by simp [hb]) z
  · rcases sub a z with z | z
    · exact s.ln a z
    · exact s.nw a (new a z)
  · rcases sub a z with z | z
    · exact mut_same (s.mu a z) sm
    · exact rp.own_mut a z

def frz (i : Nat) (ρ : Env) : Env := match ρ[i]? with
  | some (some s) => ρ.set i (some ⟨s.d, .shr, s.al, none⟩)
  | _ => ρ
theorem Sim.frz (i : Nat) (s : Sim K N H0 ρ σ H L) : ∃ L', Sim K N H0 (frz i ρ) σ H L' ∧ ∀ a ∈ L', a ∈ L := by
  unfold Ev.frz
  split
  · rename_i sv e
    have hi : i < ρ.length := (List.getElem?_eq_some_iff.mp e).1
    obtain ⟨F1, G, F2, e1, q, p⟩ := s.sl.at_ hi
    obtain ⟨v, ev, _, rp⟩ := q sv e
    have hnd := s.nd
    rw [e1] at hnd
    have sub : ∀ a, a ∈ F1 ++ ([] ++ F2) → a ∈ L := fun a z => by
      rw [e1]
      rcases List.mem_append.mp z with z | z
      · simp [z]
      · simp at z; simp [z]
    rw [List.nodup_append] at hnd
    obtain ⟨n1, n2, n3⟩ := hnd
    rw [List.nodup_append] at n2
    have out : ∀ a ∈ G, a ∉ F1 ++ ([] ++ F2) := fun a ha z => by
      rcases List.mem_append.mp z with z | z
      · exact n3 a z a (by simp [ha]) rfl
      · simp at z
        exact n2.2.2 a ha a z rfl
    have rp' : Rp K (SR N (F1 ++ ([] ++ F2)) sv.al false) H .shr v sv.d [] := rp.give (fun a z => ⟨z.1, fun m y => z.2 rfl (sub a y)⟩) fun a ha => ⟨.new (s.ln a (by rw [e1]; simp [ha])), fun _ => out a ha⟩
    have z := p (L1 := F1 ++ ([] ++ F2)) (H1 := H) (v := v) (s := ⟨sv.d, .shr, sv.al, none⟩) (G' := []) (fun al => .same (Same.refl H)) (fun a z _ m => z (sub a m)) (fun _ z => nomatch z) rp'
    have eσ : σ.set i (some v) = σ := by
      obtain ⟨h1, h2⟩ := List.getElem?_eq_some_iff.mp ev
      rw [← h2, List.set_getElem_self]
    rw [eσ] at z
    refine ⟨F1 ++ ([] ++ F2), ⟨s.kp, s.nw, ?_, fun a z => s.ln a (sub a z), fun a z => s.mu a (sub a z), z⟩, sub⟩
    rw [List.nodup_append]
    refine ⟨n1, by simpa using n2.2.1, fun a ha b hb => ?_⟩
    simp at hb
    exact n3 a ha b (by simp [hb])
  · exact ⟨L, s, fun _ z => z⟩
def frzs : List Nat → Env → Env
  | [], ρ => ρ
  | i :: is, ρ => frzs is (frz i ρ)
theorem Sim.frzs : ∀ (is : List Nat) {ρ : Env} {L : List Addr}, Sim K N H0 ρ σ H L → ∃ L', Sim K N H0 (frzs is ρ) σ H L' ∧ ∀ a ∈ L', a ∈ L
  | [], _, L, s => ⟨L, s, fun _ z => z⟩
  | i :: is, _, _, s => let ⟨_, s', h⟩ := s.frz i; let ⟨L2, s2, h2⟩ := Sim.frzs is s'; ⟨L2, s2, fun a z => h a (h2 a z)⟩

structure SimH (K : PySem.W.Frag) (N : Nw) (H0 : Hp) (ρ : Env) (σ : St) (H : Hp) (L W : List Addr) : Prop where
  kp : ∀ b o, H0 b = some o → ¬ N b → H b = some o
  nw : ∀ b, H b = none → N b
  nd : W.Nodup
  ln : ∀ a ∈ W, N a
  mu : ∀ a ∈ W, Mut (H a)
  sl : Slots K N W H σ ρ L
  sub : ∀ a ∈ L, a ∈ W
  ndl : L.Nodup
theorem SimH.th {W : List Addr} (s : SimH K N H0 ρ σ H L W) : ∀ a ∈ W, H a ≠ none := fun a z => mut_ne (s.mu a z)
theorem Sim.h (s : Sim K N H0 ρ σ H L) : SimH K N H0 ρ σ H L L := ⟨s.kp, s.nw, s.nd, s.ln, s.mu, s.sl, fun _ z => z, s.nd⟩
theorem SimH.sim {W : List Addr} (s : SimH K N H0 ρ σ H L W) : Sim K N H0 ρ σ H L := ⟨s.kp, s.nw, s.ndl, fun a z => s.ln a (s.sub a z), fun a z => s.mu a (s.sub a z), s.sl.mono fun a z m => z (s.sub a m)⟩
theorem SimH.same {W : List Addr} (s : SimH K N H0 ρ σ H L W) (h : Same H H') : SimH K N H0 ρ σ H' L W where
  kp := fun b o e n => h b o (s.kp b o e n)
  nw := fun b e => s.nw b (h.free e)
  nd := s.nd
  ln := s.ln
  mu := fun a ha => mut_same (s.mu a ha) h
  sl := s.sl.keep fun _ => .same h
  sub := s.sub
  ndl := s.ndl
theorem SimH.hold {W F : List Addr} (s : SimH K N H0 ρ σ H L W) (h : Same H H') (new : ∀ a ∈ F, H a = none) (nd : F.Nodup) (th : ∀ a ∈ F, Mut (H' a)) : SimH K N H0 ρ σ H' L (W ++ F) where
  kp := fun b o e n => h b o (s.kp b o e n)
  nw := fun b e => s.nw b (h.free e)
  nd := by
    rw [List.nodup_append]
    exact ⟨s.nd, nd, fun a ha b hb e => s.th a ha (e ▸ new b hb)⟩
  ln := fun a z => (List.mem_append.mp z).elim (s.ln a) fun z => s.nw a (new a z)
  mu := fun a z => (List.mem_append.mp z).elim (fun z => mut_same (s.mu a z) h) fun z => th a z
  sl := s.sl.move (fun a z t m => (List.mem_append.mp m).elim z fun m => t (new a m)) fun _ => .same h
  sub := fun a z => List.mem_append_left _ (s.sub a z)
  ndl := s.ndl

theorem SimH.set0 {W : List Addr} {i : Nat} {v : V} {r : Sv} (s : SimH K N H0 ρ σ H L W) (pp : ∀ k, r.pn = some k → v = .ref (N.p k)) (rp : Rp K (SR N W r.al false) H r.l v r.d []) (hi : i < ρ.length) :
    ∃ L', SimH K N H0 (ρ.set i (some r)) (σ.set i (some v)) H L' W ∧ ∀ a ∈ L', a ∈ L := by
  obtain ⟨F1, G0, F2, e, _, p⟩ := s.sl.at_ hi
  have hnd := s.ndl
  rw [e] at hnd
  have sub : ∀ a, a ∈ F1 ++ ([] ++ F2) → a ∈ L := fun a z => by
    rw [e]
    rcases List.mem_append.mp z with z | z
    · simp [z]
    · simp at z; simp [z]
  refine ⟨F1 ++ ([] ++ F2), ⟨s.kp, s.nw, s.nd, s.ln, s.mu, p (fun al => .same (Same.refl H)) (fun a z _ => z) pp rp, fun a z => s.sub a (sub a z), ?_⟩, sub⟩
  rw [List.nodup_append] at hnd ⊢
  rw [List.nodup_append] at hnd
  exact ⟨hnd.1, by simpa using hnd.2.1.2.1, fun a ha b hb => hnd.2.2 a ha b (by simp at hb; simp [hb])⟩
theorem Slots.drop1 {L0 : List Addr} : ∀ {σ : St} {ρ : Env} {F : List Addr} (i : Nat), Slots K N L0 H σ ρ F → ∃ F', Slots K N L0 H (σ.set i none) (ρ.set i none) F' ∧ F'.Sublist F
  | _, _, _, i, .nil => ⟨[], by cases i <;> exact .nil, List.Sublist.refl _⟩
  | _, _, F, 0, .no h => ⟨F, .no h, List.Sublist.refl _⟩
  | _, _, _, 0, .so (F := F) (G := G) _ h1 h => ⟨G, .no h, List.sublist_append_right F G⟩
  | _, _, _, i + 1, .no h => let ⟨F', s, q⟩ := Slots.drop1 i h; ⟨F', .no s, q⟩
  | _, _, _, i + 1, .so (F := F) h0 h1 h => let ⟨F', s, q⟩ := Slots.drop1 i h; ⟨F ++ F', .so h0 h1 s, List.Sublist.append (List.Sublist.refl F) q⟩
theorem SimH.drop1 {W : List Addr} (i : Nat) (s : SimH K N H0 ρ σ H L W) : ∃ L', SimH K N H0 (ρ.set i none) (σ.set i none) H L' W ∧ ∀ a ∈ L', a ∈ L := by
  obtain ⟨F', h, q⟩ := s.sl.drop1 i
  exact ⟨F', ⟨s.kp, s.nw, s.nd, s.ln, s.mu, h, fun a z => s.sub a (q.subset z), q.nodup s.ndl⟩, fun a z => q.subset z⟩
end
def wipeE : List Nat → Env → Env
  | [], ρ => ρ
  | i :: is, ρ => (wipeE is ρ).set i none
theorem wipeE_length : ∀ (vs : List Nat) (ρ : Env), (wipeE vs ρ).length = ρ.length
  | [], _ => rfl
  | i :: is, ρ => by show ((wipeE is ρ).set i none).length = _; rw [List.length_set, wipeE_length is ρ]
end Ev

set_option Elab.async false
set_option linter.all false
set_option maxRecDepth 100000

namespace Ev
open PySem PySem.Spec L2
open PyProof.Rows hiding St

abbrev EvE := Env → Option Rv
abbrev EvT := Env → Option Bool
abbrev EvA := Env → Option (List Rv)
def Post (K : PySem.W.Frag) (N : Nw) (L : List Addr) (H : Hp) (r : Rv) (Q : VK) : Prop :=
  ∀ v H' F, Same H H' → (∀ a ∈ F, H a = none) → F.Nodup → Rp K (fun a => SR N L r.al r.vw a ∧ a ∉ F) H' r.l v r.d F → Q v H'
def tE (K : PySem.W.Frag) (f : EvE) : TE := fun σ H Q => ∃ N H0 ρ L W r, SimH K N H0 ρ σ H L W ∧ f ρ = some r ∧ Post K N W H r Q
def tT (K : PySem.W.Frag) (f : EvT) : TT := fun σ H Q => ∃ N H0 ρ L W b, SimH K N H0 ρ σ H L W ∧ f ρ = some b ∧ ∀ H', Same H H' → Q b H'
abbrev PEv (X : Cx) (e : Expr) (f : EvE) : Prop := PE X e (tE X.K f)
abbrev PTv (X : Cx) (e : Expr) (f : EvT) : Prop := PT X e (tT X.K f)
abbrev PWv (X : Cx) (e : Expr) (f : EvT) : Prop := PW X e (tT X.K f)
theorem imp_e {X : Cx} {e : Expr} {t t' : TE} (h : PE X e t) (i : ∀ σ H Q, t' σ H Q → t σ H Q) : PE X e t' := ⟨fun p s σ H Q I w => h.run p s σ H Q I (i σ H Q w)⟩
theorem imp_t {X : Cx} {e : Expr} {t t' : TT} (h : PT X e t) (i : ∀ σ H Q, t' σ H Q → t σ H Q) : PT X e t' := ⟨fun p s σ H Q I w => h.run p s σ H Q I (i σ H Q w)⟩
theorem imp_w {X : Cx} {e : Expr} {t t' : TT} (h : PW X e t) (i : ∀ σ H Q, t' σ H Q → t σ H Q) : PW X e t' := ⟨fun wh p s σ H Q I w => h.run wh p s σ H Q I (i σ H Q w)⟩

def rA (d : D) : Rv := ⟨d, .full, false, false⟩
abbrev rI (i : Int) : Rv := rA (.int i)
abbrev rB (b : Bool) : Rv := rA (.bl b)
theorem bind_some {α β : Type} {x : Option α} {f : α → Option β} {b : β} (h : x.bind f = some b) : ∃ a, x = some a ∧ f a = some b := by
  cases x with
  | none => cases h
  | some a => exact ⟨a, rfl, h⟩
section
variable {K : PySem.W.Frag} {N : Nw} {H0 H H' : Hp} {ρ : Env} {σ : St} {L : List Addr} {Q : VK}
theorem Post.atom {v : V} {d : D} (p : Post K N L H (rA d) Q) (s : Same H H') (r : ∀ S, Rp K S H' .full v d []) : Q v H' := p v H' [] s (fun _ z => nomatch z) .nil (r _)
theorem Post.int {i : Int} (p : Post K N L H (rI i) Q) (s : Same H H') : Q (.int i) H' := p.atom s fun _ => .int
theorem Post.bl {i : Bool} (p : Post K N L H (rB i) Q) (s : Same H H') : Q (.bl i) H' := p.atom s fun _ => .bl
theorem same_upd {p : Addr} {o : HO} (h : H p = none) : Same H (upd H p o) := fun b x e => by
  rw [upd_ne (ne_of_none e h)]
  exact e

theorem one {W : List Addr} {fa : EvE} {x : Rv} {R : V → Hp → Prop} (sim : SimH K N H0 ρ σ H L W) (e1 : fa ρ = some x)
    (k : ∀ v H1 F, Same H H1 → (∀ a ∈ F, H a = none) → F.Nodup → Rp K (fun a => SR N W x.al x.vw a ∧ a ∉ F) H1 x.l v x.d F → R v H1) : tE K fa σ H R :=
  ⟨N, H0, ρ, L, W, x, sim, e1, fun v H1 F s n nd p => k v H1 F s n nd p⟩

theorem two {W : List Addr} {fa fb : EvE} {x y : Rv} {R : V → V → Hp → Prop} (sim : SimH K N H0 ρ σ H L W) (e1 : fa ρ = some x) (e2 : fb ρ = some y)
    (k : ∀ v w H2 F G, Same H H2 → (∀ a ∈ F, H a = none) → (∀ a ∈ G, H a = none) → F.Nodup → G.Nodup → (∀ a ∈ F, a ∉ G) → Rp K (fun a => SR N W x.al x.vw a ∧ a ∉ F ∧ a ∉ G) H2 x.l v x.d F → Rp K (fun a => SR N (W ++ F) y.al y.vw a ∧ a ∉ G) H2 y.l w y.d G → R v w H2) :
    tE K fa σ H fun v H1 => tE K fb σ H1 fun w H2 => R v w H2 :=
  one sim e1 fun v H1 F s1 n1 d1 p1 => one (sim.hold s1 n1 d1 p1.own_mut) e2 fun w H2 G s2 n2 d2 p2 =>
    k v w H2 F G (s1.trans s2) n1 (fun a z => s1.free (n2 a z)) d1 d2 (fun a z m => p1.own_trk a z (n2 a m)) ((p1.trk.same s2).mono fun a z => ⟨z.1.1, z.1.2, fun m => z.2 (n2 a m)⟩) p2
end


def eName (i : Nat) : EvE := fun ρ => match ρ[i]? with
  | some (some s) => some (if imm s.d then rA s.d else ⟨s.d, .shr, s.al, decide (s.l ≠ .shr)⟩)
  | _ => none
section
variable {X : Cx}
theorem e_name (i : Nat) {x : Str} {pos : Pos} (hN : X.N[i]? = some x := by rfl) (hv : Vis X.env.scope x := by first | exact Or.inl rfl | exact Or.inr (Or.inl rfl) | exact Or.inr (Or.inr rfl)) (hd : (x == ("__debug__" : Str)) = false := by decide)
    (hcd : (x == ("__classdict__" : Str)) = false := by decide) : PEv X (.Name x pos) (eName i) := by
  refine imp_e (pe_var hN hv hd hcd) fun σ H Q h => ?_
  obtain ⟨N, H0, ρ, L, W, r, sim, e, q⟩ := h
  unfold eName at e
  split at e
  · rename_i s es
    obtain ⟨v, G, ev, rp, sub, _⟩ := sim.sl.get es
    refine ⟨v, ev, ?_⟩
    cases hi : imm s.d with
    | true =>
      rw [hi, if_pos rfl] at e
      cases e
      exact q.atom (Same.refl H) fun S => (rp.of_imm hi).2
    | false =>
      rw [hi, if_neg Bool.false_ne_true] at e
      cases e
      refine q v H [] (Same.refl H) (fun _ z => nomatch z) .nil (rp.give (fun a z => ⟨⟨z.1, fun _ => z.2 rfl⟩, fun m => nomatch m⟩) fun a z => ⟨⟨.new (sim.ln a (sim.sub a (sub a z))), fun hvw => ?_⟩, fun m => nomatch m⟩)
      have hl : s.l = .shr := by simpa using hvw
      rw [hl] at rp
      rw [rp.shr0] at z
      cases z
  · cases e
def eC (d : D) : EvE := fun _ => some (rA d)
theorem e_int {i j pos} : PEv X (.Constant (.int i) j pos) (eC (.int i)) := imp_e pe_int fun _ H Q ⟨_, _, _, _, _, _, _, e, q⟩ => by cases e; exact q.int (Same.refl H)
theorem e_bl {b j pos} : PEv X (.Constant (.bool b) j pos) (eC (.bl b)) := imp_e pe_bl fun _ H Q ⟨_, _, _, _, _, _, _, e, q⟩ => by cases e; exact q.bl (Same.refl H)
theorem e_non {j pos} : PEv X (.Constant .none j pos) (eC .non) := imp_e pe_non fun _ H Q ⟨_, _, _, _, _, _, _, e, q⟩ => by cases e; exact q.atom (Same.refl H) fun _ => .non
theorem e_str {x j pos} : PEv X (.Constant (.str x) j pos) (eC (.str x)) := imp_e pe_str fun _ H Q ⟨_, _, _, _, _, _, _, e, q⟩ => by cases e; exact q.atom (Same.refl H) fun _ => .str


def eOp (C : Int → Int → Bool) (g : Int → Int → D) (fa fb : EvE) : EvE := fun ρ => (fa ρ).bind fun x => (fb ρ).bind fun y => match x.d, y.d with
  | .int i, .int j => if C i j = true then some (rA (g i j)) else none
  | _, _ => none
variable {a b c e : Expr} {fa fb fc fe : EvE} {pos : Pos}
theorem eOp_some {C : Int → Int → Bool} {g : Int → Int → D} {ρ : Env} {r : Rv} (h : eOp C g fa fb ρ = some r) : ∃ x y i j, fa ρ = some x ∧ fb ρ = some y ∧ x.d = .int i ∧ y.d = .int j ∧ C i j = true ∧ r = rA (g i j) := by
  unfold eOp at h
  obtain ⟨x, e1, h⟩ := bind_some h
  obtain ⟨y, e2, h⟩ := bind_some h
  split at h
  · rename_i i j d1 d2
    split at h
    · rename_i hc
      cases h
      exact ⟨x, y, i, j, e1, e2, d1, d2, hc, rfl⟩
    · cases h
  · cases h
theorem e_opI {op : Operator} {P : Int → Int → Prop} {C : Int → Int → Bool} {g : Int → Int → Int} (ho : OpR X (binaryOp op) (L2.rI P fun i j => .int (g i j))) (hP : ∀ i j, C i j = true → P i j) (ha : PEv X a fa) (hb : PEv X b fb) :
    PEv X (.BinOp a op b pos) (eOp C (fun i j => .int (g i j)) fa fb) := by
  refine imp_e (pe_op ho ha hb) fun σ H Q ⟨N, H0, ρ, L, W, r, sim, e, q⟩ => ?_
  obtain ⟨x, y, i, j, e1, e2, d1, d2, hc, rfl⟩ := eOp_some e
  refine two sim e1 e2 fun v w H2 F G s _ _ _ _ _ p1 p2 => ?_
  rw [d1] at p1
  rw [d2] at p2
  obtain ⟨rfl, _⟩ := p1.int_inv
  obtain ⟨rfl, _⟩ := p2.int_inv
  exact ⟨i, j, rfl, rfl, hP _ _ hc, q.int s⟩
abbrev cT : Int → Int → Bool := fun _ _ => true
theorem rI_of {g : Int → Int → V} {f : Value → Value → Sem Value} (h : OpR X f (L2.rI0 g)) : OpR X f (L2.rI (fun _ _ => True) g) := fun pins s σ H x y v u Q I r1 r2 ⟨i, j, e1, e2, _, q⟩ => h pins s σ H x y v u Q I r1 r2 ⟨i, j, e1, e2, q⟩
abbrev eAdd := eOp cT fun i j => .int (i + j)
abbrev eSub := eOp cT fun i j => .int (i - j)
abbrev cMul (i j : Int) : Bool := decide (((-(2 ^ 64) < i ∧ i < 2 ^ 64) ∨ (-(2 ^ 64) < j ∧ j < 2 ^ 64)) ∨ i.natAbs.log2 + j.natAbs.log2 < 1000000)
abbrev eMul := eOp cMul fun i j => .int (i * j)
theorem op_mul2 {X : Cx} : OpR X (binaryOp .Mult) (L2.rI (fun i j => CMul i j ∨ CMulW i j) fun i j => .int (i * j)) := opI fun _ _ _ _ _ _ _ hc q => mul_int q (Or.elim (show CMul _ _ ∨ CMulW _ _ from hc) CMul.ok CMulW.ok)
abbrev eDiv := eOp (fun i j => decide (0 < j ∧ j.natAbs.log2 < 9000)) fun i j => .int (i / j)
abbrev eMod := eOp (fun i j => decide (0 < j)) fun i j => .int (i % j)
abbrev ePow := eOp (fun i j => decide (0 ≤ j ∧ j ≤ 1000000 ∧ i.natAbs < 2 ^ 64)) fun i j => .int (i ^ j.toNat)
theorem e_add (ha : PEv X a fa) (hb : PEv X b fb) : PEv X (.BinOp a .Add b pos) (eAdd fa fb) := e_opI (rI_of op_add) (fun _ _ _ => trivial) ha hb
theorem e_sub (ha : PEv X a fa) (hb : PEv X b fb) : PEv X (.BinOp a .Sub b pos) (eSub fa fb) := e_opI (rI_of op_sub) (fun _ _ _ => trivial) ha hb
theorem e_mul (ha : PEv X a fa) (hb : PEv X b fb) : PEv X (.BinOp a .Mult b pos) (eMul fa fb) := e_opI op_mul2 (fun i j h => (of_decide_eq_true h : ((-(2 ^ 64) < i ∧ i < 2 ^ 64) ∨ (-(2 ^ 64) < j ∧ j < 2 ^ 64)) ∨ i.natAbs.log2 + j.natAbs.log2 < 1000000)) ha hb
theorem e_div (ha : PEv X a fa) (hb : PEv X b fb) : PEv X (.BinOp a .FloorDiv b pos) (eDiv fa fb) := e_opI op_fdivW (fun i j h => (of_decide_eq_true h : 0 < j ∧ j.natAbs.log2 < 9000)) ha hb
theorem e_mod (ha : PEv X a fa) (hb : PEv X b fb) : PEv X (.BinOp a .Mod b pos) (eMod fa fb) := e_opI op_mod (fun _ _ h => of_decide_eq_true h) ha hb
theorem e_pow (ha : PEv X a fa) (hb : PEv X b fb) : PEv X (.BinOp a .Pow b pos) (ePow fa fb) := e_opI op_pow (fun i j h => by simpa [CPow] using h) ha hb
theorem e_shr (ha : PEv X a fa) (hb : PEv X b fb) : PEv X (.BinOp a .RShift b pos) (eOp (fun _ j => decide (0 ≤ j)) (fun i j => .int (i / 2 ^ j.toNat)) fa fb) := e_opI op_shr (fun _ _ h => of_decide_eq_true h) ha hb
theorem e_band (ha : PEv X a fa) (hb : PEv X b fb) : PEv X (.BinOp a .BitAnd b pos) (eOp cT (fun i j => .int (Builtin.bitAnd i j)) fa fb) := e_opI (rI_of op_and) (fun _ _ _ => trivial) ha hb
def eNeg (fa : EvE) : EvE := fun ρ => (fa ρ).bind fun x => match x.d with
  | .int i => some (rI (-i))
  | _ => none
theorem e_neg (ha : PEv X a fa) : PEv X (.UnaryOp .USub a pos) (eNeg fa) := by
  refine imp_e (pe_un un_neg ha) fun σ H Q ⟨N, H0, ρ, L, W, r, sim, e, q⟩ => ?_
  unfold eNeg at e
  obtain ⟨x, e1, e⟩ := bind_some e
  split at e
  · rename_i i d1
    cases e
    refine one sim e1 fun v H1 F s _ _ p => ?_
    rw [d1] at p
    obtain ⟨rfl, _⟩ := p.int_inv
    exact ⟨i, rfl, q.int s⟩
  · cases e



def eCmp (g : D → D → Option Bool) (fa fb : EvE) : EvE := fun ρ => (fa ρ).bind fun x => (fb ρ).bind fun y => (g x.d y.d).map rB

def CmpOk (X : Cx) (op : CmpOp) (g : D → D → Option Bool) : Prop :=
  ∃ r : R2, OpR X (compareOp op) r ∧ ∀ (S S' : Addr → Prop) (H : Hp) (l l' : Lv) (v w : V) (d e : D) (F G : List Addr) (b : Bool) (Q : VK), Rp X.K S H l v d F → Rp X.K S' H l' w e G → g d e = some b → Q (.bl b) H → r v w H Q
theorem e_cmp {op : CmpOp} {g : D → D → Option Bool} (ho : CmpOk X op g) (ha : PEv X a fa) (hb : PEv X b fb) (hm : behindInMarks op b = false := by first | exact nomark _ (by decide) (by decide) | rfl) : PEv X (.Compare a [op] [b] pos) (eCmp g fa fb) := by
  obtain ⟨r, ho, hr⟩ := ho
  refine imp_e (pe_cmpR ho ha hb hm) fun σ H Q ⟨N, H0, ρ, L, W, rr, sim, e, q⟩ => ?_
  unfold eCmp at e
  obtain ⟨x, e1, e⟩ := bind_some e
  obtain ⟨y, e2, e⟩ := bind_some e
  obtain ⟨k, ek, e⟩ := Option.map_eq_some_iff.mp e
  subst e
  exact two sim e1 e2 fun v w H2 F G s _ _ _ _ _ p1 p2 => hr _ _ _ _ _ _ _ _ _ _ _ _ _ p1 p2 ek (q.bl s)
def tCmp (g : D → D → Option Bool) (fa fb : EvE) : EvT := fun ρ => (fa ρ).bind fun x => (fb ρ).bind fun y => g x.d y.d
theorem t_cmp {op : CmpOp} {g : D → D → Option Bool} (ho : CmpOk X op g) (ha : PEv X a fa) (hb : PEv X b fb) (hm : behindInMarks op b = false := by first | exact nomark _ (by decide) (by decide) | rfl) : PTv X (.Compare a [op] [b] pos) (tCmp g fa fb) := by
  obtain ⟨r, ho, hr⟩ := ho
  refine imp_t (pt_cmpR ho ha hb hm) fun σ H Q ⟨N, H0, ρ, L, W, k, sim, e, q⟩ => ?_
  unfold Ev.tCmp at e
  obtain ⟨x, e1, e⟩ := bind_some e
  obtain ⟨y, e2, e⟩ := bind_some e
  exact two sim e1 e2 fun v w H2 F G s _ _ _ _ _ p1 p2 => hr _ _ _ _ _ _ _ _ _ _ _ _ _ p1 p2 e ⟨k, rfl, q _ s⟩
def gI (p : Int → Int → Bool) : D → D → Option Bool
  | .int i, .int j => some (p i j)
  | _, _ => none
theorem gI_some {p : Int → Int → Bool} {d e : D} {b : Bool} (h : gI p d e = some b) : ∃ i j, d = .int i ∧ e = .int j ∧ b = p i j := by
  unfold gI at h
  split at h
  · cases h; exact ⟨_, _, rfl, rfl, rfl⟩
  · cases h
theorem cmpI {op : CmpOp} {p : Int → Int → Bool} (ho : OpR X (compareOp op) (L2.rI0 fun i j => .bl (p i j))) : CmpOk X op (gI p) :=
  ⟨_, ho, fun S S' H l l' v w d e F G b Q p1 p2 h q => by
    obtain ⟨i, j, rfl, rfl, rfl⟩ := gI_some h
    obtain ⟨rfl, _⟩ := p1.int_inv
    obtain ⟨rfl, _⟩ := p2.int_inv
    exact ⟨i, j, rfl, rfl, q⟩⟩
theorem CmpOk.or {op : CmpOp} {g g' : D → D → Option Bool} (h : CmpOk X op g) (h' : CmpOk X op g') : CmpOk X op (fun d e => (g d e).or (g' d e)) := by
  obtain ⟨r, ho, hr⟩ := h
  obtain ⟨r', ho', hr'⟩ := h'
  refine ⟨_, ho.or ho', fun S S' H l l' v w d e F G b Q p1 p2 h q => ?_⟩
  have h : (g d e).or (g' d e) = some b := h
  cases hg : g d e with
  | some k =>
    rw [hg] at h
    cases h
    exact .inl (hr _ _ _ _ _ _ _ _ _ _ _ _ _ p1 p2 hg q)
  | none =>
    rw [hg] at h
    exact .inr (hr' _ _ _ _ _ _ _ _ _ _ _ _ _ p1 p2 h q)
theorem CmpOk.imp {op : CmpOp} {g g' : D → D → Option Bool} (h : CmpOk X op g) (i : ∀ d e b, g' d e = some b → g d e = some b) : CmpOk X op g' := by
  obtain ⟨r, ho, hr⟩ := h
  exact ⟨r, ho, fun S S' H l l' v w d e F G b Q p1 p2 h q => hr _ _ _ _ _ _ _ _ _ _ _ _ _ p1 p2 (i _ _ _ h) q⟩
end

mutual
def pd : D → PyData
  | .non => .none | .bl b => .bool b | .int i => .int i | .str x => .str x
  | .tup xs => .tuple (pds xs) | .lst xs => .list (pds xs) | .fl xs => .list (pds xs)
  | _ => .dict []
def pds : List D → List PyData
  | [] => []
  | d :: ds => pd d :: pds ds
end
mutual

def shp (n : Nat) : D → Bool
  | .non => true | .bl _ => true | .int _ => true | .str x => PyData.strOk x
  | .tup xs => (match n with | 0 => false | m + 1 => shps m xs)
  | .lst xs => (match n with | 0 => false | m + 1 => shps m xs)
  | .fl xs => (match n with | 0 => false | m + 1 => shps m xs)
  | _ => false
def shps (n : Nat) : List D → Bool
  | [] => true
  | d :: ds => shp n d && shps n ds
end
theorem pds_map : ∀ ds : List D, pds ds = ds.map pd
  | [] => rfl
  | d :: ds => by rw [pds, pds_map ds]; rfl
theorem shps_all (n : Nat) : ∀ ds : List D, shps n ds = ds.all (shp n)
  | [] => rfl
  | d :: ds => by rw [shps, shps_all n ds]; rfl
theorem immAll_all : ∀ ds : List D, immAll ds = ds.all imm
  | [] => rfl
  | d :: ds => by rw [immAll, immAll_all ds]; rfl
mutual
theorem shp_ok : ∀ (n : Nat) (d : D), shp n d = true → (pd d).canLay0 = true ∧ (pd d).depth ≤ n
  | _, .non, _ => ⟨rfl, Nat.zero_le _⟩
  | _, .bl _, _ => ⟨rfl, Nat.zero_le _⟩
  | _, .int _, _ => ⟨rfl, Nat.zero_le _⟩
  | _, .str x, h => ⟨by simpa only [shp, pd, PyData.canLay0] using h, Nat.zero_le _⟩
  | 0, .tup xs, h => by simp only [shp] at h; cases h
  | 0, .lst xs, h => by simp only [shp] at h; cases h
  | 0, .fl xs, h => by simp only [shp] at h; cases h
  | n + 1, .tup xs, h => by
    simp only [shp] at h
    obtain ⟨h1, h2⟩ := shps_ok n xs h
    exact ⟨by simpa only [pd, PyData.canLay0] using h1, by simpa only [pd, PyData.depth] using Nat.succ_le_succ h2⟩
  | n + 1, .lst xs, h => by
    simp only [shp] at h
    obtain ⟨h1, h2⟩ := shps_ok n xs h
    exact ⟨by simpa only [pd, PyData.canLay0] using h1, by simpa only [pd, PyData.depth] using Nat.succ_le_succ h2⟩
  | n + 1, .fl xs, h => by
    simp only [shp] at h
    obtain ⟨h1, h2⟩ := shps_ok n xs h
    exact ⟨by simpa only [pd, PyData.canLay0] using h1, by simpa only [pd, PyData.depth] using Nat.succ_le_succ h2⟩
  | _, .dk _, h => by simp only [shp] at h; cases h
  | _, .dt _, h => by simp only [shp] at h; cases h
  | _, .ins _ _, h => by simp only [shp] at h; cases h
  | _, .obj _ _ _, h => by simp only [shp] at h; cases h
theorem shps_ok : ∀ (n : Nat) (ds : List D), shps n ds = true → PyData.canLayAll0 (pds ds) = true ∧ PyData.depthAll (pds ds) ≤ n
  | _, [], _ => ⟨rfl, Nat.zero_le _⟩
  | n, d :: ds, h => by
    simp only [shps, Bool.and_eq_true] at h
    obtain ⟨a1, a2⟩ := shp_ok n d h.1
    obtain ⟨b1, b2⟩ := shps_ok n ds h.2
    refine ⟨by simp only [pds, PyData.canLayAll0, a1, b1, Bool.and_self], ?_⟩
    simp only [pds, PyData.depthAll]
    exact Nat.max_le.mpr ⟨a2, b2⟩
end
theorem shaped_of {d : D} (h : shp 8 d = true) : SeqAt.shaped (pd d) = true := by
  obtain ⟨h1, h2⟩ := shp_ok 8 d h
  unfold SeqAt.shaped
  rw [h1, decide_eq_true (Nat.le_trans h2 (by decide))]
  rfl
section
variable {K : PySem.W.Frag} {S : Addr → Prop} {H : Hp}
mutual
theorem Rp.dp : ∀ {l : Lv} {v : V} {d : D} {F : List Addr} {n : Nat}, Rp K S H l v d F → shp n d = true → Dp K H v (pd d)
  | _, _, _, _, _, .non, _ => by simp only [pd]; exact .non
  | _, _, _, _, _, .bl, _ => by simp only [pd]; exact .bl _
  | _, _, _, _, _, .int, _ => by simp only [pd]; exact .int _
  | _, _, _, _, _, .str, _ => by simp only [pd]; exact .str _
  | _, _, _, _, 0, .tup h1 h2, h => by simp only [shp] at h; cases h
  | _, _, _, _, n + 1, .tup h1 h2, h => by simp only [shp] at h; simp only [pd]; exact .tup (SqT.of h1) (Rps.dp h2 h)
  | _, _, _, _, 0, .fl h1 h2, h => by simp only [shp] at h; cases h
  | _, _, _, _, n + 1, .fl h1 h2, h => by simp only [shp] at h; simp only [pd]; exact .lst h1.sq (Rps.dp h2 h)
  | _, _, _, _, 0, .nd0 hn _ _ _, h => by cases hn <;> (simp only [shp] at h; cases h)
  | _, _, _, _, n + 1, .nd0 hn h1 _ h3, h => by
    cases hn with
    | lst => simp only [shp] at h; simp only [pd]; exact .lst (SqL.of h1.lst) (Rps.dp h3 h)
    | _ => simp only [shp] at h; cases h
  | _, _, _, _, 0, .nd1 _ hn _ _, h => by cases hn <;> (simp only [shp] at h; cases h)
  | _, _, _, _, n + 1, .nd1 _ hn h1 h3, h => by
    cases hn with
    | lst => simp only [shp] at h; simp only [pd]; exact .lst (SqL.of h1) (Rps.dp h3 h)
    | _ => simp only [shp] at h; cases h
theorem Rps.dp : ∀ {l : Lv} {vs : List V} {ds : List D} {F : List Addr} {n : Nat}, Rps K S H l vs ds F → shps n ds = true → DpAll K H vs (pds ds)
  | _, _, _, _, _, .nil, _ => by simp only [pds]; exact .nil
  | _, _, _, _, n, .cons h1 h2, h => by
    simp only [shps, Bool.and_eq_true] at h
    simp only [pds]
    exact .cons (Rp.dp h1 h.1) (Rps.dp h2 h.2)
end
theorem Rps.ints : ∀ {l : Lv} {vs : List V} {ns : List Int} {F : List Addr}, Rps K S H l vs (ns.map .int) F → vs = ns.map V.int ∧ F = []
  | _, _, [], _, .nil => ⟨rfl, rfl⟩
  | _, _, n :: ns, _, .cons h1 h2 => by
    obtain ⟨rfl, e1⟩ := Rp.int_inv h1
    obtain ⟨e2, e3⟩ := Rps.ints h2
    rw [e1, e2, e3]
    exact ⟨rfl, rfl⟩
end
def intOf : D → Option Int
  | .int i => some i
  | _ => none
def intsOf : List D → Option (List Int)
  | [] => some []
  | d :: ds => (intOf d).bind fun i => (intsOf ds).map (i :: ·)
theorem intsOf_some : ∀ {ds : List D} {ns : List Int}, intsOf ds = some ns → ds = ns.map .int
  | [], _, h => by cases h; rfl
  | d :: ds, ns, h => by
    unfold intsOf at h
    obtain ⟨i, e1, h⟩ := bind_some h
    obtain ⟨m, e2, h⟩ := Option.map_eq_some_iff.mp h
    subst h
    rw [intsOf_some e2]
    cases d <;> first | (cases e1; rfl) | cases e1
theorem intsOf_map : ∀ ns : List Int, intsOf (ns.map .int) = some ns
  | [] => rfl
  | n :: ns => by
    show (some n).bind (fun i => (intsOf (ns.map .int)).map (i :: ·)) = _
    rw [intsOf_map ns]
    rfl

def gT (p : List Int → List Int → Bool) : D → D → Option Bool
  | .tup xs, .tup ys => (intsOf xs).bind fun ns => (intsOf ys).map fun ms => p ns ms
  | _, _ => none
theorem gT_some {p : List Int → List Int → Bool} {d e : D} {b : Bool} (h : gT p d e = some b) : ∃ ns ms : List Int, d = .tup (ns.map .int) ∧ e = .tup (ms.map .int) ∧ b = p ns ms := by
  unfold gT at h
  split at h
  · obtain ⟨ns, e1, h⟩ := bind_some h
    obtain ⟨ms, e2, h⟩ := Option.map_eq_some_iff.mp h
    rw [intsOf_some e1, intsOf_some e2]
    exact ⟨ns, ms, rfl, rfl, h.symm⟩
  · cases h
def leT (ns ms : List Int) : Bool := Ob.lexAt (fun j => decide (ns.getD j 0 = ms.getD j 0)) (fun j => decide (ns.getD j 0 ≤ ms.getD j 0)) (decide (ns.length ≤ ms.length)) 0 (min ns.length ms.length)
def geT (ns ms : List Int) : Bool := Ob.lexAt (fun j => decide (ns.getD j 0 = ms.getD j 0)) (fun j => decide (ms.getD j 0 ≤ ns.getD j 0)) (decide (ns.length ≥ ms.length)) 0 (min ns.length ms.length)
def rGeT (K : PySem.W.Frag) : R2 := fun x y H Q => ∃ (a b : Addr) (ns ms : List Int), x = .ref a ∧ y = .ref b ∧ SqT K H a (ns.map V.int) ∧ SqT K H b (ms.map V.int) ∧ Q (.bl (geT ns ms)) H
section
variable {X : Cx}
theorem op_geT (hu : X.A.units < cLine) : OpR X (compareOp .GtE) (rGeT X.K) := by
  intro pins s σ H x y v u Q I rx ry h
  obtain ⟨a, b, ns, ms, rfl, rfl, ha, hb, q⟩ := h
  cases rx
  cases ry
  obtain ⟨its, r1, p1, _⟩ := I.tuple ha
  obtain ⟨its2, r2, p2, _⟩ := I.tuple hb
  have i1 : IntsAre its ns := Vals.ints r1
  have i2 : IntsAre its2 ms := Vals.ints r2
  have e1 : its.toArray.size = ns.length := by rw [List.size_toArray]; exact i1.length
  have e2 : its2.toArray.size = ms.length := by rw [List.size_toArray]; exact i2.length
  have at1 : ∀ j (h1 : j < its.toArray.size), ∃ t, its.toArray[j] = .int (ns.getD j 0) t := fun j h1 => PyProof.Rows.IntsAre.int_at i1 _ _ (by simp at h1; simp [h1])
  have at2 : ∀ j (h1 : j < its2.toArray.size), ∃ t, its2.toArray[j] = .int (ms.getD j 0) t := fun j h1 => PyProof.Rows.IntsAre.int_at i2 _ _ (by simp at h1; simp [h1])
  have R := Ob.RcOp.tuples_ge (A := X.A) (s := s) (e := fun j => decide (ns.getD j 0 = ms.getD j 0)) (r := fun j => decide (ms.getD j 0 ≤ ns.getD j 0)) p1 p2 hu (fun j h1 h2 => by
    obtain ⟨t, et⟩ := at1 j h1
    obtain ⟨t', et'⟩ := at2 j h2
    rw [et, et']
    have z : (ns.getD j 0 == ms.getD j 0) = decide (ns.getD j 0 = ms.getD j 0) := by
      by_cases q : ns.getD j 0 = ms.getD j 0
      · rw [decide_eq_true q]; exact beq_iff_eq.mpr q
      · rw [decide_eq_false q]; exact beq_eq_false_iff_ne.mpr q
    rw [← z]
    exact SeqAt.EqAt.int_int _ _ _ _) (fun j h1 h2 _ => by
    obtain ⟨t, et⟩ := at1 j h1
    obtain ⟨t', et'⟩ := at2 j h2
    rw [et, et']
    exact Ob.RcOp.ge_int _ _ _ _)
  rw [e1, e2] at R
  have z : wpAny (model X.prog X.w) X.A (compareOp .GtE (.ref a) (.ref b)) (EP X pins σ Q) X.xe s := R X.prog X.w X.xe (EP X pins σ Q) ⟨.bl _, H, I, rfl, q⟩
  exact z
theorem cmpT {op : CmpOp} {p : List Int → List Int → Bool} (ho : OpR X (compareOp op) (fun x y H Q => ∃ (a b : Addr) (ns ms : List Int), x = .ref a ∧ y = .ref b ∧ SqT X.K H a (ns.map V.int) ∧ SqT X.K H b (ms.map V.int) ∧ Q (.bl (p ns ms)) H)) : CmpOk X op (gT p) :=
  ⟨_, ho, fun S S' H l l' v w d e F G b Q p1 p2 h q => by
    obtain ⟨ns, ms, rfl, rfl, rfl⟩ := gT_some h
    obtain ⟨a, vs, rfl, h1, r1⟩ := p1.tup_inv
    obtain ⟨a', vs', rfl, h1', r1'⟩ := p2.tup_inv
    obtain ⟨rfl, _⟩ := r1.ints
    obtain ⟨rfl, _⟩ := r1'.ints
    exact ⟨a, a', ns, ms, rfl, rfl, SqT.of h1, SqT.of h1', q⟩⟩
abbrev gLt : D → D → Option Bool := fun d e => (gI (fun i j => decide (i < j)) d e).or (gT HT.lexLt d e)
abbrev gLe : D → D → Option Bool := fun d e => (gI (fun i j => decide (i ≤ j)) d e).or (gT leT d e)
abbrev gGe : D → D → Option Bool := fun d e => (gI (fun i j => decide (j ≤ i)) d e).or (gT geT d e)
abbrev gGt : D → D → Option Bool := gI (fun i j => decide (j < i))
theorem c_lt (hu : X.A.units < cLine) : CmpOk X .Lt gLt := (cmpI op_lt).or (cmpT (op_ltT hu))
theorem c_le (hu : X.A.units < cLine) : CmpOk X .LtE gLe := (cmpI op_le).or (cmpT (op_leT hu))
theorem c_ge (hu : X.A.units < cLine) : CmpOk X .GtE gGe := (cmpI op_ge).or (cmpT (op_geT hu))
theorem c_gt : CmpOk X .Gt gGt := cmpI op_gt

def deq (d e : D) : Bool := PyData.eqv (pd d) (pd e)
def gEq (d e : D) : Option Bool := if (shp 8 d && shp 8 e) = true then some (deq d e) else none
def gNe (d e : D) : Option Bool := if (shp 8 d && shp 8 e) = true then some (!deq d e) else none
theorem c_eq (hu : X.A.units + 64 < cLine) : CmpOk X .Eq gEq :=
  ⟨_, op_eqD hu, fun S S' H l l' v w d e F G b Q p1 p2 h q => by
    unfold gEq at h
    split at h
    · rename_i z
      rw [Bool.and_eq_true] at z
      cases h
      exact ⟨_, _, p1.dp z.1, p2.dp z.2, shaped_of z.1, shaped_of z.2, q⟩
    · cases h⟩
theorem c_ne (hu : X.A.units + 64 < cLine) : CmpOk X .NotEq gNe :=
  ⟨_, op_neD hu, fun S S' H l l' v w d e F G b Q p1 p2 h q => by
    unfold gNe at h
    split at h
    · rename_i z
      rw [Bool.and_eq_true] at z
      cases h
      exact ⟨_, _, p1.dp z.1, p2.dp z.2, shaped_of z.1, shaped_of z.2, q⟩
    · cases h⟩
def isN : D → Bool
  | .non => true
  | .any => true
  | _ => false
theorem isN_v {K : PySem.W.Frag} {S : Addr → Prop} {H : Hp} {l : Lv} {v : V} {d : D} {F : List Addr} (p : Rp K S H l v d F) (ha : d ≠ .any) : decide (v = .non) = isN d := by
  cases p with
  | any => exact absurd rfl ha
  | non => rfl
  | nd0 h => cases h <;> rfl
  | nd1 _ h => cases h <;> rfl
  | _ => rfl
def gIs : D → D → Option Bool
  | .any, _ => none
  | d, .non => some (isN d)
  | _, _ => none
def gIsNot : D → D → Option Bool
  | .any, _ => none
  | d, .non => some (!isN d)
  | _, _ => none
theorem c_is : CmpOk X .Is gIs :=
  ⟨_, op_isN, fun S S' H l l' v w d e F G b Q p1 p2 h q => by
    unfold gIs at h
    split at h
    · cases h
    · rename_i hna
      cases h
      obtain ⟨rfl, _⟩ := p2.non_inv
      refine ⟨rfl, ?_⟩
      rw [isN_v p1 (fun z => hna z)]
      exact q
    · cases h⟩
theorem c_isnot : CmpOk X .IsNot gIsNot :=
  ⟨_, op_notN, fun S S' H l l' v w d e F G b Q p1 p2 h q => by
    unfold gIsNot at h
    split at h
    · cases h
    · rename_i hna
      cases h
      obtain ⟨rfl, _⟩ := p2.non_inv
      refine ⟨rfl, ?_⟩
      rw [isN_v p1 (fun z => hna z)]
      exact q
    · cases h⟩


section
variable {κ : Type} [DecidableEq κ]
def dlook (kd : List (κ × D)) (k : κ) : Option D := (kd.find? fun p => decide (p.1 = k)).map (·.2)
def dhas (kd : List (κ × D)) (k : κ) : Bool := kd.any fun p => decide (p.1 = k)
def dput (kd : List (κ × D)) (k : κ) (d : D) : List (κ × D) := if dhas kd k = true then kd.map (fun p => if p.1 = k then (p.1, d) else p) else kd ++ [(k, d)]
def ddrop (kd : List (κ × D)) (k : κ) : List (κ × D) := kd.filter fun p => decide (p.1 ≠ k)
theorem has_keys {kv : List (κ × V)} {kd : List (κ × D)} (h : kv.map (·.1) = kd.map (·.1)) (k : κ) : (valV kv k).isSome = dhas kd k := by
  rw [← valV_any]
  show (kv.any ((fun x => decide (x = k)) ∘ fun p => p.1)) = kd.any ((fun x => decide (x = k)) ∘ fun p => p.1)
  rw [← List.any_map, ← List.any_map, h]
end
def keyOf : D → Option Key
  | .int i => some (.inl i)
  | .str x => some (.inr x)
  | _ => none
def keysOf : List D → Option (List Key)
  | [] => some []
  | d :: ds => (keyOf d).bind fun i => (keysOf ds).map (i :: ·)
section
variable {K : PySem.W.Frag} {S : Addr → Prop} {H : Hp} {l : Lv}
theorem Rp.key {v : V} {d : D} {F : List Addr} {k : Key} (p : Rp K S H l v d F) (h : keyOf d = some k) : v = kV k := by
  cases d <;> first | (cases h; first | exact p.int_inv.1 | exact p.str_inv.1) | cases h
theorem Rps.keys : ∀ {vs : List V} {ds : List D} {F : List Addr} {ks : List Key}, Rps K S H l vs ds F → keysOf ds = some ks → vs = ks.map kV
  | _, _, _, _, .nil, h => by cases h; rfl
  | _, _, _, ks, .cons h1 h2, h => by
    unfold keysOf at h
    obtain ⟨i, e1, h⟩ := bind_some h
    obtain ⟨m, e2, h⟩ := Option.map_eq_some_iff.mp h
    subst h
    rw [h1.key e1, Rps.keys h2 e2]
    rfl

theorem Rp.dk_inv {v : V} {kd : List (Key × D)} {F : List Addr} (p : Rp K S H l v (.dk kd) F) : ∃ a kv G, v = .ref a ∧ Rd H a (.dK kv) ∧ kv.map (·.1) = kd.map (·.1) ∧ Rps K S H (ch l) (kv.map (·.2)) (kd.map (·.2)) G ∧ ∀ b ∈ G, b ∈ F := by
  cases p with
  | nd0 h h1 h2 h3 => cases h with | dk e => exact ⟨_, _, _, rfl, h1.rd, e, h3, fun _ z => z⟩
  | nd1 h0 h h1 h2 => cases h with | dk e => exact ⟨_, _, _, rfl, .inl h1, e, h2, fun _ z => List.mem_cons_of_mem _ z⟩
theorem Rp.dt_inv {v : V} {kd : List (List Key × D)} {F : List Addr} (p : Rp K S H l v (.dt kd) F) : ∃ a kv G, v = .ref a ∧ Rd H a (.dT kv) ∧ kv.map (·.1) = kd.map (·.1) ∧ Rps K S H (ch l) (kv.map (·.2)) (kd.map (·.2)) G ∧ ∀ b ∈ G, b ∈ F := by
  cases p with
  | nd0 h h1 h2 h3 => cases h with | dt e => exact ⟨_, _, _, rfl, h1.rd, e, h3, fun _ z => z⟩
  | nd1 h0 h h1 h2 => cases h with | dt e => exact ⟨_, _, _, rfl, .inl h1, e, h2, fun _ z => List.mem_cons_of_mem _ z⟩
end
theorem DGet.rk {H : Hp} {a : Addr} {kvs : List (Key × V)} {k : Key} (e : Rd H a (.dK kvs)) : DGet H a (kV k) (valV kvs k) := .inl ⟨kvs, k, e, rfl, rfl⟩
theorem DGet.rt {H : Hp} {a b : Addr} {kvs : List (List Key × V)} {k : List Key} (e : Rd H a (.dT kvs)) (eb : H b = some (.tup (k.map kV))) : DGet H a (.ref b) (valV kvs k) := .inr ⟨kvs, k, b, e, rfl, eb, rfl⟩
theorem rd_same {H H' : Hp} {a : Addr} {o : HO} (h : Rd H a o) (s : Same H H') : Rd H' a o := h.imp (s _ _) fun ⟨o', e⟩ => ⟨o', s _ _ e⟩

def gInL (n : Bool) : D → D → Option Bool
  | d, .lst ds => if (shp 8 d && shps 7 ds) = true then some (n != (ds.any fun z => deq z d)) else none
  | d, .fl ds => if (shp 8 d && shps 7 ds) = true then some (n != (ds.any fun z => deq z d)) else none
  | _, _ => none
def gInD (n : Bool) : D → D → Option Bool
  | d, .dk kd => (keyOf d).map fun k => n != dhas kd k
  | .tup ds, .dt kd => (keysOf ds).map fun k => n != dhas kd k
  | _, _ => none
def gInT (n : Bool) : D → D → Option Bool
  | .int i, .tup ds => (intsOf ds).map fun ns => n != (ns.any fun z => z == i)
  | _, _ => none
theorem any_pds (ds : List D) (d : D) : ((pds ds).any fun z => PyData.eqv z (pd d)) = ds.any fun z => deq z d := by
  rw [pds_map, List.any_map]
  rfl
theorem shp_lst {ds : List D} (h : shps 7 ds = true) : shp 8 (.lst ds) = true := by simpa only [shp] using h
theorem shp_fl {ds : List D} (h : shps 7 ds = true) : shp 8 (.fl ds) = true := by simpa only [shp] using h
theorem c_inL (hu : X.A.units + 65 < cLine) : CmpOk X .In (gInL false) :=
  ⟨_, op_inD hu, fun S S' H l l' v w d e F G b Q p1 p2 h q => by
    unfold gInL at h
    split at h
    · split at h
      · rename_i z
        rw [Bool.and_eq_true] at z
        cases h
        have p3 := p2.dp (shp_lst z.2)
        have s3 := shaped_of (shp_lst z.2)
        simp only [pd] at p3 s3
        refine ⟨_, _, p1.dp z.1, p3, shaped_of z.1, s3, ?_⟩
        rw [any_pds]
        simpa using q
      · cases h
    · split at h
      · rename_i z
        rw [Bool.and_eq_true] at z
        cases h
        have p3 := p2.dp (shp_fl z.2)
        have s3 := shaped_of (shp_fl z.2)
        simp only [pd] at p3 s3
        refine ⟨_, _, p1.dp z.1, p3, shaped_of z.1, s3, ?_⟩
        rw [any_pds]
        simpa using q
      · cases h
    · cases h⟩
theorem c_ninL (hu : X.A.units + 65 < cLine) : CmpOk X .NotIn (gInL true) :=
  ⟨_, op_notInD hu, fun S S' H l l' v w d e F G b Q p1 p2 h q => by
    unfold gInL at h
    split at h
    · split at h
      · rename_i z
        rw [Bool.and_eq_true] at z
        cases h
        have p3 := p2.dp (shp_lst z.2)
        have s3 := shaped_of (shp_lst z.2)
        simp only [pd] at p3 s3
        refine ⟨_, _, p1.dp z.1, p3, shaped_of z.1, s3, ?_⟩
        rw [any_pds]
        simpa using q
      · cases h
    · split at h
      · rename_i z
        rw [Bool.and_eq_true] at z
        cases h
        have p3 := p2.dp (shp_fl z.2)
        have s3 := shaped_of (shp_fl z.2)
        simp only [pd] at p3 s3
        refine ⟨_, _, p1.dp z.1, p3, shaped_of z.1, s3, ?_⟩
        rw [any_pds]
        simpa using q
      · cases h
    · cases h⟩
def rInDict (n : Bool) : R2 := fun y x H Q => ∃ a o, x = .ref a ∧ DGet H a y o ∧ Q (.bl (n != o.isSome)) H
theorem op_inDict (hu : X.A.units + 1 < cLine) : OpR X (compareOp .In) (rInDict false) := by
  intro pins s σ H y x v u Q I ry rx ⟨a, o, e, g, q⟩
  subst e
  cases rx
  exact d_in hu I g ry fun s' I' => ⟨.bl _, H, I', rfl, by simpa using q⟩
theorem op_ninDict (hu : X.A.units + 1 < cLine) : OpR X (compareOp .NotIn) (rInDict true) := by
  intro pins s σ H y x v u Q I ry rx ⟨a, o, e, g, q⟩
  subst e
  cases rx
  exact d_notIn hu I g ry fun s' I' => ⟨.bl _, H, I', rfl, by simpa using q⟩
theorem in_dict {n : Bool} {S S' : Addr → Prop} {H : Hp} {l l' : Lv} {v w : V} {d e : D} {F G : List Addr} {b : Bool} {Q : VK} (p1 : Rp X.K S H l v d F) (p2 : Rp X.K S' H l' w e G) (h : gInD n d e = some b) (q : Q (.bl b) H) : rInDict n v w H Q := by
  unfold gInD at h
  split at h
  · obtain ⟨k, e1, h⟩ := Option.map_eq_some_iff.mp h
    obtain ⟨a, kv, _, rfl, h1, h2, _⟩ := p2.dk_inv
    refine ⟨a, _, rfl, by rw [p1.key e1]; exact DGet.rk h1, ?_⟩
    rw [has_keys h2, h]
    exact q
  · obtain ⟨k, e1, h⟩ := Option.map_eq_some_iff.mp h
    obtain ⟨a, kv, _, rfl, h1, h2, _⟩ := p2.dt_inv
    obtain ⟨c, vs, rfl, h3, h4⟩ := p1.tup_inv
    refine ⟨a, _, rfl, DGet.rt h1 (by rw [h3, h4.keys e1]), ?_⟩
    rw [has_keys h2, h]
    exact q
  · cases h
theorem flat_ints : ∀ ns : List Int, (ns.map V.int).all flatV = true
  | [] => rfl
  | n :: ns => flat_ints ns
theorem inV_ints (i : Int) : ∀ ns : List Int, inV (.int i) (ns.map V.int) = ns.any fun z => z == i
  | [] => rfl
  | n :: ns => by
    have ih := inV_ints i ns
    unfold inV at ih ⊢
    rw [List.map_cons, List.any_cons, List.any_cons, ih]
    rfl
theorem in_tup {n : Bool} {S S' : Addr → Prop} {H : Hp} {l l' : Lv} {v w : V} {d e : D} {F G : List Addr} {b : Bool} {Q : VK} (p1 : Rp X.K S H l v d F) (p2 : Rp X.K S' H l' w e G) (h : gInT n d e = some b) (q : Q (.bl b) H) : rIn X.K n v w H Q := by
  unfold gInT at h
  split at h
  · rename_i i ds
    obtain ⟨ns, e1, h⟩ := Option.map_eq_some_iff.mp h
    obtain ⟨a, vs, rfl, h1, h2⟩ := p2.tup_inv
    rw [intsOf_some e1] at h2
    obtain ⟨rfl, _⟩ := h2.ints
    obtain ⟨rfl, _⟩ := p1.int_inv
    refine ⟨a, _, rfl, .inr (SqT.of h1), rfl, flat_ints ns, ?_⟩
    rw [inV_ints]
    subst h
    cases n <;> simpa using q
  · cases h
abbrev gIn : D → D → Option Bool := fun d e => (gInL false d e).or ((gInD false d e).or (gInT false d e))
abbrev gNin : D → D → Option Bool := fun d e => (gInL true d e).or ((gInD true d e).or (gInT true d e))
theorem c_in (hu : X.A.units + 65 < cLine) : CmpOk X .In gIn := (c_inL hu).or (CmpOk.or ⟨_, op_inDict (by omega), fun S S' H l l' v w d e F G b Q p1 p2 h q => in_dict p1 p2 h q⟩ ⟨_, op_in_seq, fun S S' H l l' v w d e F G b Q p1 p2 h q => in_tup p1 p2 h q⟩)
theorem c_nin (hu : X.A.units + 65 < cLine) : CmpOk X .NotIn gNin := (c_ninL hu).or (CmpOk.or ⟨_, op_ninDict (by omega), fun S S' H l l' v w d e F G b Q p1 p2 h q => in_dict p1 p2 h q⟩ ⟨_, op_notIn_seq, fun S S' H l l' v w d e F G b Q p1 p2 h q => in_tup p1 p2 h q⟩)
end
end Ev

set_option Elab.async false
set_option linter.all false
set_option maxRecDepth 100000

namespace Ev
open PySem PySem.Spec L2
open PyProof.Rows hiding St

section
variable {X : Cx} {a b c e : Expr} {fa fb fc fe : EvE} {ga gb gc : EvT} {pos : Pos} {rest es : List Expr}

def tVal (fa : EvE) : EvT := fun ρ => (fa ρ).bind fun x => match x.d with
  | .bl k => some k
  | _ => none
theorem t_val (h : PEv X e fe) (he : ∀ whole, isTrue e X.env whole = (do let v ← whole; standAt e.pos; holding [v] (truthy v)) := by intro _; rfl) : PTv X e (tVal fe) := by
  refine imp_t (pt_val h he) fun σ H Q ⟨N, H0, ρ, L, W, k, sim, z, q⟩ => ?_
  unfold tVal at z
  obtain ⟨x, e1, z⟩ := bind_some z
  split at z
  · rename_i k' d1
    cases z
    refine one sim e1 fun v H1 F s _ _ p => ?_
    rw [d1] at p
    obtain ⟨rfl, _⟩ := p.bl_inv
    exact ⟨_, rfl, q _ s⟩
  · cases z
def tAnd (f g : EvT) : EvT := fun ρ => (f ρ).bind fun k => if k = true then g ρ else some false
def tOr (f g : EvT) : EvT := fun ρ => (f ρ).bind fun k => if k = true then some true else g ρ
def tNot (f : EvT) : EvT := fun ρ => (f ρ).map fun k => !k
theorem t_and1 (ha : PTv X a ga) : PWv X (.BoolOp .And [a] pos) ga := pw_and1 ha
theorem t_or1 (ha : PTv X a ga) : PWv X (.BoolOp .Or [a] pos) ga := pw_or1 ha
theorem t_and (ha : PTv X a ga) (hb : PWv X (.BoolOp .And (b :: rest) pos) gb) : PWv X (.BoolOp .And (a :: b :: rest) pos) (tAnd ga gb) := by
  refine imp_w (pw_and ha hb) fun σ H Q ⟨N, H0, ρ, L, W, k, sim, z, q⟩ => ?_
  unfold Ev.tAnd at z
  obtain ⟨k1, e1, z⟩ := bind_some z
  refine ⟨N, H0, ρ, L, W, k1, sim, e1, fun H1 s1 => ?_⟩
  cases k1 with
  | true => exact ⟨N, H0, ρ, L, W, k, sim.same s1, z, fun H2 s2 => q _ (s1.trans s2)⟩
  | false => cases z; exact q _ s1
theorem t_or (ha : PTv X a ga) (hb : PWv X (.BoolOp .Or (b :: rest) pos) gb) : PWv X (.BoolOp .Or (a :: b :: rest) pos) (tOr ga gb) := by
  refine imp_w (pw_or ha hb) fun σ H Q ⟨N, H0, ρ, L, W, k, sim, z, q⟩ => ?_
  unfold Ev.tOr at z
  obtain ⟨k1, e1, z⟩ := bind_some z
  refine ⟨N, H0, ρ, L, W, k1, sim, e1, fun H1 s1 => ?_⟩
  cases k1 with
  | false => exact ⟨N, H0, ρ, L, W, k, sim.same s1, z, fun H2 s2 => q _ (s1.trans s2)⟩
  | true => cases z; exact q _ s1
theorem t_bool (h : PWv X e ga) : PTv X e ga := h.pt
theorem t_not (ha : PTv X a ga) : PTv X (.UnaryOp .Not a pos) (tNot ga) := by
  refine imp_t (pt_not ha) fun σ H Q ⟨N, H0, ρ, L, W, k, sim, z, q⟩ => ?_
  unfold Ev.tNot at z
  obtain ⟨k1, e1, z⟩ := Option.map_eq_some_iff.mp z
  subst z
  exact ⟨N, H0, ρ, L, W, k1, sim, e1, fun H1 s1 => q _ s1⟩

def eAnd (f g : EvE) : EvE := fun ρ => (f ρ).bind fun x => match x.d with
  | .bl true => g ρ
  | .bl false => some (rB false)
  | _ => none
def eOr (f g : EvE) : EvE := fun ρ => (f ρ).bind fun x => match x.d with
  | .bl false => g ρ
  | .bl true => some (rB true)
  | _ => none
def eNot (f : EvE) : EvE := fun ρ => (f ρ).bind fun x => match x.d with
  | .bl k => some (rB !k)
  | _ => none
def eIf (t : EvT) (f g : EvE) : EvE := fun ρ => (t ρ).bind fun k => if k = true then f ρ else g ρ
theorem e_not (ha : PEv X a fa) : PEv X (.UnaryOp .Not a pos) (eNot fa) := by
  refine imp_e (pe_not ha) fun σ H Q ⟨N, H0, ρ, L, W, r, sim, z, q⟩ => ?_
  unfold eNot at z
  obtain ⟨x, e1, z⟩ := bind_some z
  split at z
  · rename_i k d1
    cases z
    refine one sim e1 fun v H1 F s _ _ p => ?_
    rw [d1] at p
    obtain ⟨rfl, _⟩ := p.bl_inv
    exact ⟨_, rfl, q.bl s⟩
  · cases z
theorem e_one (op : BoolOp) (ha : PEv X a fa) : PEv X (.BoolOp op [a] pos) fa := by
  cases op <;> exact pe_one ha
theorem e_and (ha : PEv X a fa) (hb : PEv X (.BoolOp .And (b :: rest) pos) fb) : PEv X (.BoolOp .And (a :: b :: rest) pos) (eAnd fa fb) := by
  refine imp_e (pe_and ha hb) fun σ H Q ⟨N, H0, ρ, L, W, r, sim, z, q⟩ => ?_
  unfold eAnd at z
  obtain ⟨x, e1, z⟩ := bind_some z
  split at z
  · rename_i d1
    refine one sim e1 fun v H1 F s n nd p => ?_
    rw [d1] at p
    obtain ⟨rfl, hF⟩ := p.bl_inv
    subst hF
    exact ⟨true, rfl, iteT ⟨N, H0, ρ, L, W, r, sim.same s, z, fun v2 H2 F2 s2 n2 nd2 p2 => q v2 H2 F2 (s.trans s2) (fun a z => s.free (n2 a z)) nd2 p2⟩⟩
  · rename_i d1
    cases z
    refine one sim e1 fun v H1 F s n nd p => ?_
    rw [d1] at p
    obtain ⟨rfl, hF⟩ := p.bl_inv
    exact ⟨false, rfl, iteF (q.bl s)⟩
  · cases z
theorem e_or (ha : PEv X a fa) (hb : PEv X (.BoolOp .Or (b :: rest) pos) fb) : PEv X (.BoolOp .Or (a :: b :: rest) pos) (eOr fa fb) := by
  refine imp_e (pe_or ha hb) fun σ H Q ⟨N, H0, ρ, L, W, r, sim, z, q⟩ => ?_
  unfold eOr at z
  obtain ⟨x, e1, z⟩ := bind_some z
  split at z
  · rename_i d1
    refine one sim e1 fun v H1 F s n nd p => ?_
    rw [d1] at p
    obtain ⟨rfl, hF⟩ := p.bl_inv
    subst hF
    exact ⟨false, rfl, iteF ⟨N, H0, ρ, L, W, r, sim.same s, z, fun v2 H2 F2 s2 n2 nd2 p2 => q v2 H2 F2 (s.trans s2) (fun a z => s.free (n2 a z)) nd2 p2⟩⟩
  · rename_i d1
    cases z
    refine one sim e1 fun v H1 F s n nd p => ?_
    rw [d1] at p
    obtain ⟨rfl, hF⟩ := p.bl_inv
    exact ⟨true, rfl, iteT (q.bl s)⟩
  · cases z
theorem e_if {t : EvT} (hc : PTv X c t) (ha : PEv X a fa) (hb : PEv X b fb) : PEv X (.IfExp c a b pos) (eIf t fa fb) := by
  refine imp_e (pe_ifExp hc ha hb) fun σ H Q ⟨N, H0, ρ, L, W, r, sim, z, q⟩ => ?_
  unfold eIf at z
  obtain ⟨k, e1, z⟩ := bind_some z
  refine ⟨N, H0, ρ, L, W, k, sim, e1, fun H1 s => ?_⟩
  have go : ∀ {f : EvE}, f ρ = some r → tE X.K f σ H1 Q := fun z => ⟨N, H0, ρ, L, W, r, sim.same s, z, fun v2 H2 F2 s2 n2 nd2 p2 => q v2 H2 F2 (s.trans s2) (fun a z => s.free (n2 a z)) nd2 p2⟩
  cases k with
  | true => rw [if_pos rfl] at z; exact iteT (go z)
  | false => rw [if_neg Bool.false_ne_true] at z; exact iteF (go z)


inductive RpL (K : PySem.W.Frag) (N : Nw) (W T : List Addr) (H : Hp) : List V → List Rv → List Addr → Prop
  | nil : RpL K N W T H [] [] []
  | cons {v : V} {r : Rv} {vs : List V} {rs : List Rv} {F G : List Addr} : Rp K (fun a => SR N W r.al r.vw a ∧ (r.vw = false → a ∉ T)) H r.l v r.d F → RpL K N W T H vs rs G → RpL K N W T H (v :: vs) (r :: rs) (F ++ G)
end
section
variable {K : PySem.W.Frag} {N : Nw} {W W' T T' : List Addr} {H H' : Hp}
theorem RpL.mono (h : ∀ al vw a, SR N W al vw a ∧ (vw = false → a ∉ T) → SR N W' al vw a ∧ (vw = false → a ∉ T')) : ∀ {vs : List V} {rs : List Rv} {F : List Addr}, RpL K N W T H vs rs F → RpL K N W' T' H vs rs F
  | _, _, _, .nil => .nil
  | _, _, _, .cons h1 h2 => .cons (h1.mono fun a z => h _ _ a z) (RpL.mono h h2)
theorem RpL.own_trk : ∀ {vs : List V} {rs : List Rv} {F : List Addr}, RpL K N W T H vs rs F → ∀ a ∈ F, H a ≠ none
  | _, _, _, .nil => fun _ z => nomatch z
  | _, _, _, .cons h1 h2 => fun a z => (List.mem_append.mp z).elim (h1.own_trk a) (RpL.own_trk h2 a)
theorem RpL.len : ∀ {vs : List V} {rs : List Rv} {F : List Addr}, RpL K N W T H vs rs F → vs.length = rs.length
  | _, _, _, .nil => rfl
  | _, _, _, .cons _ h => by rw [List.length_cons, List.length_cons, RpL.len h]

theorem RpL.full {al : Bool} : ∀ {vs : List V} {rs : List Rv} {F : List Addr}, RpL K N W T H vs rs F → rs.all (fun r => !r.vw && decide (r.l = .full)) = true → (∀ r ∈ rs, r.al = true → al = true) → Rps K (fun a => SR N W al false a ∧ a ∉ T) H .full vs (rs.map (·.d)) F
  | _, _, _, .nil, _, _ => .nil
  | _, _, _, .cons (r := r) h1 h2, e, ha => by
    rw [List.all_cons, Bool.and_eq_true, Bool.and_eq_true] at e
    obtain ⟨⟨e1, e2⟩, e3⟩ := e
    have e1 : r.vw = false := by simpa using e1
    have e2 : r.l = .full := by simpa using e2
    rw [e2] at h1
    refine .cons (h1.mono fun a z => ⟨⟨z.1.1.up (ha r List.mem_cons_self), fun _ => z.1.2 e1⟩, z.2 e1⟩) (RpL.full h2 e3 fun r hr => ha r (List.mem_cons_of_mem _ hr))

theorem RpL.give {al : Bool} (hT : ∀ a ∈ T, N a ∧ a ∉ W) : ∀ {vs : List V} {rs : List Rv} {F : List Addr}, RpL K N W T H vs rs F → (∀ a ∈ F, a ∈ T) → rs.all (fun r => !r.vw) = true → (∀ r ∈ rs, r.al = true → al = true) → Rps K (fun a => SR N W al false a) H .shr vs (rs.map (·.d)) []
  | _, _, _, .nil, _, _, _ => .nil
  | _, _, _, .cons (r := r) (F := F) h1 h2, hs, e, ha => by
    rw [List.all_cons, Bool.and_eq_true] at e
    obtain ⟨e1, e3⟩ := e
    have e1 : r.vw = false := by simpa using e1
    refine Rps.cons (F := []) (G := []) (h1.give (fun a z => ⟨z.1.1.up (ha r List.mem_cons_self), fun _ => z.1.2 e1⟩) fun a z => ⟨.new (hT a (hs a (List.mem_append_left _ z))).1, fun _ => (hT a (hs a (List.mem_append_left _ z))).2⟩)
      (RpL.give hT h2 (fun a z => hs a (List.mem_append_right _ z)) e3 fun r hr => ha r (List.mem_cons_of_mem _ hr))

theorem RpL.look : ∀ {vs : List V} {rs : List Rv} {F : List Addr}, RpL K N W T H vs rs F → Rps K (fun _ => True) H .shr vs (rs.map (·.d)) []
  | _, _, _, .nil => .nil
  | _, _, _, .cons h1 h2 => Rps.cons (F := []) (G := []) (h1.give (fun _ _ => trivial) fun _ _ => trivial) (RpL.look h2)
end
def tA (K : PySem.W.Frag) (f : EvA) : TA := fun σ H Q => ∃ N H0 ρ L W rs, SimH K N H0 ρ σ H L W ∧ f ρ = some rs ∧ ∀ vs H' T, Same H H' → (∀ a ∈ T, H a = none) → T.Nodup → RpL K N W T H' vs rs T → Q vs H'
abbrev PAv (X : Cx) (es : List Expr) (f : EvA) : Prop := PA X es (tA X.K f)
theorem imp_a {X : Cx} {e : List Expr} {t t' : TA} (h : PA X e t) (i : ∀ σ H Q, t' σ H Q → t σ H Q) : PA X e t' := ⟨fun p ps s σ H Q I w => h.run p ps s σ H Q I (i σ H Q w)⟩
def aNil : EvA := fun _ => some []
def aCons (f : EvE) (g : EvA) : EvA := fun ρ => (f ρ).bind fun r => (g ρ).bind fun rs => some (r :: rs)
section
variable {X : Cx} {a b c e : Expr} {fa fb fc fe : EvE} {ga : EvA} {pos : Pos} {rest es : List Expr}
theorem a_nil : PAv X [] aNil := imp_a pa_nil fun σ H Q ⟨N, H0, ρ, L, W, rs, sim, z, q⟩ => by
  cases z
  exact q [] H [] (Same.refl H) (fun _ z => nomatch z) .nil .nil
theorem a_cons (ha : PEv X e fe) (hr : PAv X es ga) (hs : starEach (e :: es) X.env = (false, eval e X.env) :: starEach es X.env := by rfl) : PAv X (e :: es) (aCons fe ga) := by
  refine imp_a (pa_cons ha hr hs) fun σ H Q ⟨N, H0, ρ, L, W, rs, sim, z, q⟩ => ?_
  unfold aCons at z
  obtain ⟨r, e1, z⟩ := bind_some z
  obtain ⟨rs, e2, z⟩ := bind_some z
  cases z
  refine one sim e1 fun v H1 F s1 n1 d1 p1 => ?_
  refine ⟨N, H0, ρ, L, W ++ F, rs, sim.hold s1 n1 d1 p1.own_mut, e2, fun vs H2 T s2 n2 d2 p2 => ?_⟩
  refine q (v :: vs) H2 (F ++ T) (s1.trans s2) (fun a z => (List.mem_append.mp z).elim (n1 a) fun z => s1.free (n2 a z)) ?_ (.cons ?_ (p2.mono fun al vw a z => ⟨⟨z.1.1, fun e => fun m => z.1.2 e (List.mem_append_left _ m)⟩, fun e m => (List.mem_append.mp m).elim (fun m => z.1.2 e (List.mem_append_right _ m)) (z.2 e)⟩))
  · rw [List.nodup_append]
    exact ⟨d1, d2, fun a ha b hb e => p1.own_trk a ha (e ▸ n2 b hb)⟩
  · exact (p1.trk.same s2).mono fun a z => ⟨z.1.1, fun _ m => (List.mem_append.mp m).elim z.1.2 fun m => z.2 (n2 a m)⟩


def lvAll (rs : List Rv) : Lv := if rs.all (fun r => !r.vw && decide (r.l = .full)) = true then .full else .top

def mkTup (rs : List Rv) : Option Rv :=
  if (rs.all (fun r => !r.vw) && decide (rs.length ≤ 1000)) = true then
    some (if rs.all (fun r => !r.vw && decide (r.l = .full)) = true then ⟨.tup (rs.map (·.d)), .full, rs.any (·.al), false⟩ else ⟨.tup (rs.map (·.d)), .shr, rs.any (·.al), false⟩)
  else none
def mkLst (rs : List Rv) : Option Rv :=
  if (rs.all (fun r => !r.vw) && decide (rs.length ≤ 1000)) = true then
    some (if rs.all (fun r => !r.vw && decide (r.l = .full)) = true then ⟨.lst (rs.map (·.d)), .full, rs.any (·.al), false⟩ else ⟨.lst (rs.map (·.d)), .top, rs.any (·.al), false⟩)
  else none
def eTup (g : EvA) : EvE := fun ρ => (g ρ).bind mkTup
def eLst (g : EvA) : EvE := fun ρ => (g ρ).bind mkLst
theorem nodup1 {p : Addr} : [p].Nodup := by simp
theorem al_any {rs : List Rv} : ∀ r ∈ rs, r.al = true → rs.any (·.al) = true := fun r h e => List.any_eq_true.mpr ⟨r, h, e⟩
theorem le1000 {n : Nat} (h : n ≤ 1000) : n ≤ sizeLine := Nat.le_trans h (by rw [sizeLine_eq]; decide)
theorem e_tup {x1} (h : PAv X es ga) : PEv X (.Tuple es x1 pos) (eTup ga) := by
  refine imp_e (pe_tup h) fun σ H Q ⟨N, H0, ρ, L, W, r, sim, z, q⟩ => ?_
  unfold eTup at z
  obtain ⟨rs, e1, z⟩ := bind_some z
  unfold mkTup at z
  split at z
  · rename_i hc
    rw [Bool.and_eq_true, decide_eq_true_eq] at hc
    refine ⟨N, H0, ρ, L, W, rs, sim, e1, fun vs H1 T s1 n1 d1 p1 => ⟨le1000 (by rw [p1.len]; exact hc.2), fun p np => ?_⟩⟩
    have hT : ∀ a ∈ T, N a ∧ a ∉ W := fun a m => ⟨sim.nw a (n1 a m), fun w => sim.th a w (n1 a m)⟩
    split at z
    · rename_i hf
      cases z
      exact q _ _ T (s1.trans (same_upd np)) n1 d1 (.tup upd_same ((p1.full hf al_any).same (same_upd np)))
    · cases z
      exact q _ _ [] (s1.trans (same_upd np)) (fun _ z => nomatch z) .nil (.tup upd_same (((p1.give hT (fun _ m => m) hc.1 al_any).same (same_upd np)).mono fun a z => ⟨z, fun m => nomatch m⟩))
  · cases z
theorem e_lst (h : PAv X es ga) : PEv X (.List es pos) (eLst ga) := by
  refine imp_e (pe_lst h) fun σ H Q ⟨N, H0, ρ, L, W, r, sim, z, q⟩ => ?_
  unfold eLst at z
  obtain ⟨rs, e1, z⟩ := bind_some z
  unfold mkLst at z
  split at z
  · rename_i hc
    rw [Bool.and_eq_true, decide_eq_true_eq] at hc
    refine ⟨N, H0, ρ, L, W, rs, sim, e1, fun vs H1 T s1 n1 d1 p1 => ⟨le1000 (by rw [p1.len]; exact hc.2), fun p np => ?_⟩⟩
    have hT : ∀ a ∈ T, N a ∧ a ∉ W := fun a m => ⟨sim.nw a (n1 a m), fun w => sim.th a w (n1 a m)⟩
    have nW : p ∉ W := fun w => sim.th p w (s1.free np)
    split at z
    · rename_i hf
      cases z
      refine q _ _ (p :: T) (s1.trans (same_upd np)) (fun a m => (List.mem_cons.mp m).elim (fun e => e ▸ s1.free np) (n1 a)) (List.nodup_cons.mpr ⟨fun m => p1.own_trk p m np, d1⟩) (.nd1 (fun z => nomatch z) .lst upd_same ?_)
      exact (((p1.full hf al_any).trk).same (same_upd np)).mono fun a z => ⟨z.1.1, fun m => (List.mem_cons.mp m).elim (fun e => z.2 (e ▸ np)) z.1.2⟩
    · cases z
      refine q _ _ [p] (s1.trans (same_upd np)) (fun a m => (List.mem_cons.mp m).elim (fun e => e ▸ s1.free np) fun m => nomatch m) nodup1 (.nd1 (fun z => nomatch z) .lst upd_same ?_)
      exact (((p1.give hT (fun _ m => m) hc.1 al_any).trk).same (same_upd np)).mono fun a z => ⟨z.1, fun m => (List.mem_cons.mp m).elim (fun e => z.2 (e ▸ np)) fun m => nomatch m⟩
  · cases z
theorem e_dict {pos : Pos} : PEv X (.Dict [] [] pos) (fun _ => some ⟨.dk [], .full, false, false⟩) := by
  refine imp_e pe_dnewK fun σ H Q ⟨N, H0, ρ, L, W, r, sim, z, q⟩ p np => ?_
  cases z
  exact q _ _ [p] (same_upd np) (fun a m => (List.mem_cons.mp m).elim (fun e => e ▸ np) fun m => nomatch m) nodup1 (.nd1 (fun z => nomatch z) (.dk (kv := []) (kd := []) rfl) upd_same .nil)
theorem e_dictT {pos : Pos} : PEv X (.Dict [] [] pos) (fun _ => some ⟨.dt [], .full, false, false⟩) := by
  refine imp_e pe_dnewT fun σ H Q ⟨N, H0, ρ, L, W, r, sim, z, q⟩ p np => ?_
  cases z
  exact q _ _ [p] (same_upd np) (fun a m => (List.mem_cons.mp m).elim (fun e => e ▸ np) fun m => nomatch m) nodup1 (.nd1 (fun z => nomatch z) (.dt (kv := []) (kd := []) rfl) upd_same .nil)


theorem ix_dict (hu : X.A.units + 1 < cLine) : IxR X (fun x y H Q => ∃ a v, x = .ref a ∧ DGet H a y (some v) ∧ Q v H) := by
  intro value slice pins s σ H x y v u Q I rx ry ⟨a, z, e, g, q⟩ hs
  subst e
  obtain rfl : v = Value.ref a := rx
  unfold subscriptTail
  refine wpAny_bind ?_
  rw [getitemInPython_of_ne (dict_typeIs I g).not_modules]
  refine wpAny_bind (wpAny_specialOf (dict_typeIs I g) PySem.F.slot_dict_getitem.lookup ?_)
  have fin : wpAny (model X.prog X.w) X.A (subscripted slice false (.ref a) u) (fun r s₃ => wpAny (model X.prog X.w) X.A (letTemporaryGo value (.ref a) r >>= fun _ => pure r) (EP X pins σ Q) X.xe s₃) X.xe s := by
    rw [hs]
    exact wpAny_operating (d_getItem hu I g ry fun w' s3 I3 rw' => wpAny_bind (wpAny_letTemporaryGo (wpAny_pure ⟨z, H, I3, rw', q⟩)))
  first
    | exact wpAny_pure (wpAny_bind fin)
    | exact wpAny_bind (wpAny_pure (wpAny_bind fin))
    | exact wpAny_bind fin

def part (x : Rv) (d : D) : Rv := if imm d = true then rA d else ⟨d, .shr, x.al, x.vw⟩
def gIx : D → D → Option D
  | .lst ds, .int i => atI ds i
  | .fl ds, .int i => atI ds i
  | .tup ds, .int i => atI ds i
  | .dk kd, d => (keyOf d).bind (dlook kd)
  | .dt kd, .tup ds => (keysOf ds).bind (dlook kd)
  | _, _ => none
def eIx (fa fb : EvE) : EvE := fun ρ => (fa ρ).bind fun x => (fb ρ).bind fun y => (gIx x.d y.d).map (part x)
def rIxA (K : PySem.W.Frag) : R2 := fun x y H Q => rIx K x y H Q ∨ ∃ a v, x = .ref a ∧ DGet H a y (some v) ∧ Q v H
end
section
variable {K : PySem.W.Frag} {S S' : Addr → Prop} {H : Hp} {l l' : Lv} {v w : V} {F G : List Addr} {Q : VK}
theorem Rps.atI {vs : List V} {ds : List D} {i : Int} {d : D} (r : Rps K S H l vs ds F) (h : atI ds i = some d) : ∃ v G, atI vs i = some v ∧ Rp K S H l v d G ∧ ∀ b ∈ G, b ∈ F := by
  unfold L2.atI at h ⊢
  rw [r.len]
  obtain ⟨j, e1, e2⟩ := bind_some h
  obtain ⟨v, G, e3, q⟩ := r.get e2
  exact ⟨v, G, by rw [e1]; exact e3, q⟩
theorem look_rp {κ : Type} [DecidableEq κ] : ∀ {kv : List (κ × V)} {kd : List (κ × D)} {F : List Addr} {k : κ} {d : D}, kv.map (·.1) = kd.map (·.1) → Rps K S H l (kv.map (·.2)) (kd.map (·.2)) F → dlook kd k = some d →
    ∃ v G, valV kv k = some v ∧ Rp K S H l v d G ∧ ∀ b ∈ G, b ∈ F
  | [], [], _, k, d, _, _, h => by cases h
  | [], _ :: _, _, k, d, e, _, _ => by cases e
  | _ :: _, [], _, k, d, e, _, _ => by cases e
  | p :: kv, p' :: kd, F, k, d, e, r, h => by
    have e1 : p.1 = p'.1 := by have := congrArg List.head? e; simpa using this
    have e2 : kv.map (·.1) = kd.map (·.1) := by have := congrArg List.tail e; simpa using this
    have r : Rps K S H l (p.2 :: kv.map (·.2)) (p'.2 :: kd.map (·.2)) F := r
    cases r with
    | cons h1 h2 =>
      by_cases hk : p'.1 = k
      · have : dlook (p' :: kd) k = some p'.2 := by simp [dlook, List.find?_cons, hk]
        rw [this] at h
        cases h
        exact ⟨p.2, _, valV_pos (e1.trans hk), h1, fun _ z => List.mem_append_left _ z⟩
      · have : dlook (p' :: kd) k = dlook kd k := by simp [dlook, List.find?_cons, hk]
        rw [this] at h
        obtain ⟨v, G, q1, q2, q3⟩ := look_rp e2 h2 h
        exact ⟨v, G, by rw [valV_neg (by rw [e1]; exact hk)]; exact q1, q2, fun b z => List.mem_append_right _ (q3 b z)⟩

theorem ix_rp {d e z : D} (p1 : Rp K S H l v d F) (p2 : Rp K S' H l' w e G) (h : gIx d e = some z) (q : ∀ u l2 F2, Rp K S H l2 u z F2 → (∀ b ∈ F2, b ∈ F) → Q u H) : rIxA K v w H Q := by
  unfold gIx at h
  split at h
  · obtain ⟨a, vs, G1, rfl, h1, h2, h3, _⟩ := p1.lst_inv
    obtain ⟨rfl, _⟩ := p2.int_inv
    obtain ⟨u, G2, e1, r, sub⟩ := h2.atI h
    exact .inl (.inl ⟨a, vs, _, u, rfl, rfl, SqL.of h1, e1, q u _ _ r fun b z => h3 b (sub b z)⟩)
  · obtain ⟨a, vs, rfl, h1, h2, rfl⟩ := p1.fl_inv
    obtain ⟨rfl, _⟩ := p2.int_inv
    obtain ⟨u, G2, e1, r, sub⟩ := h2.atI h
    exact .inl (.inl ⟨a, vs, _, u, rfl, rfl, h1.sq, e1, q u _ _ r sub⟩)
  · obtain ⟨a, vs, rfl, h1, h2⟩ := p1.tup_inv
    obtain ⟨rfl, _⟩ := p2.int_inv
    obtain ⟨u, G2, e1, r, sub⟩ := h2.atI h
    exact .inl (.inr (.inl ⟨a, vs, _, u, rfl, rfl, SqT.of h1, e1, q u _ _ r sub⟩))
  · obtain ⟨k, ek, h⟩ := bind_some h
    obtain ⟨a, kv, G1, rfl, h1, h2, h3, h4⟩ := p1.dk_inv
    obtain ⟨u, G2, e1, r, sub⟩ := look_rp h2 h3 h
    refine .inr ⟨a, u, rfl, ?_, q u _ _ r fun b z => h4 b (sub b z)⟩
    rw [p2.key ek, ← e1]
    exact DGet.rk h1
  · obtain ⟨k, ek, h⟩ := bind_some h
    obtain ⟨a, kv, G1, rfl, h1, h2, h3, h4⟩ := p1.dt_inv
    obtain ⟨c, ws, rfl, h5, h6⟩ := p2.tup_inv
    obtain ⟨u, G2, e1, r, sub⟩ := look_rp h2 h3 h
    refine .inr ⟨a, u, rfl, ?_, q u _ _ r fun b z => h4 b (sub b z)⟩
    rw [← e1]
    exact DGet.rt h1 (by rw [h5, h6.keys ek])
  · cases h

theorem part_out {N : Nw} {W : List Addr} {H H1 : Hp} {x : Rv} {u : V} {d : D} {l2 : Lv} {F F2 : List Addr} {S : Addr → Prop} {Q : VK} (q : Post K N W H (part x d) Q) (s : Same H H1) (new : ∀ a ∈ F, N a ∧ a ∉ W) (hS : ∀ a, S a → SR N W x.al x.vw a)
    (r : Rp K S H1 l2 u d F2) (sub : ∀ b ∈ F2, b ∈ F) : Q u H1 := by
  unfold part at q
  cases hi : imm d with
  | true =>
    rw [hi, if_pos rfl] at q
    exact q.atom s fun S => (r.of_imm hi).2
  | false =>
    rw [hi, if_neg Bool.false_ne_true] at q
    exact q u H1 [] s (fun _ z => nomatch z) .nil (r.give (fun a z => ⟨hS a z, fun m => nomatch m⟩) fun a z => ⟨⟨.new (new a (sub a z)).1, fun _ => (new a (sub a z)).2⟩, fun m => nomatch m⟩)
end
section
variable {X : Cx} {a b c e : Expr} {fa fb fc fe : EvE} {ga : EvA} {pos : Pos} {rest es : List Expr}
theorem ix_any (hu : X.A.units + 1 < cLine) : IxR X (rIxA X.K) := ix_seq.or (ix_dict hu)
theorem e_ix (hu : X.A.units + 1 < cLine) (ha : PEv X a fa) (hb : PEv X b fb) (hs : PlainIx b := by exact fun _ _ => rfl) : PEv X (.Subscript a b pos) (eIx fa fb) := by
  refine imp_e (pe_ix (ix_any hu) ha hb hs) fun σ H Q ⟨N, H0, ρ, L, W, r, sim, z, q⟩ => ?_
  unfold eIx at z
  obtain ⟨x, e1, z⟩ := bind_some z
  obtain ⟨y, e2, z⟩ := bind_some z
  obtain ⟨d, e3, z⟩ := Option.map_eq_some_iff.mp z
  subst z
  refine two sim e1 e2 fun v w H2 F G s n1 n2 _ _ _ p1 p2 => ?_
  exact ix_rp p1 p2 e3 fun u l2 F2 r sub => part_out q s (F := F) (fun a m => ⟨sim.nw a (n1 a m), fun w => sim.th a w (n1 a m)⟩) (fun a z => z.1) r sub


def lenOf : D → Option Nat
  | .lst ds => some ds.length
  | .fl ds => some ds.length
  | .tup ds => some ds.length
  | .str x => if x.length ≤ 1000000 then some x.length else none
  | .dk kd => some kd.length
  | _ => none
def eLen (ga : EvA) : EvE := fun ρ => (ga ρ).bind fun rs => match rs with
  | [x] => (lenOf x.d).map fun n => rI n
  | _ => none

theorem arg1 {K : PySem.W.Frag} {N : Nw} {H0 H : Hp} {ρ : Env} {σ : St} {L W : List Addr} {ga : EvA} {x : Rv} {R : List V → Hp → Prop} (sim : SimH K N H0 ρ σ H L W) (e1 : ga ρ = some [x])
    (k : ∀ v H1 F, Same H H1 → (∀ a ∈ F, H a = none) → F.Nodup → Rp K (fun a => SR N W x.al x.vw a ∧ (x.vw = false → a ∉ F)) H1 x.l v x.d F → R [v] H1) : tA K ga σ H R :=
  ⟨N, H0, ρ, L, W, [x], sim, e1, fun vs H1 T s n nd p => by
    generalize hT : T = T0 at p
    cases p with
    | cons h1 h2 =>
      cases h2
      rw [List.append_nil] at hT
      subst hT
      exact k _ H1 _ s n nd (h1.mono fun a z => ⟨z.1, fun e m => z.2 e (by simpa using m)⟩)⟩
theorem call_len_d : CallR X (.builtin "len") (fun xs H Q => ∃ a kvs, xs = [.ref a] ∧ Rd H a (.dK kvs) ∧ Q (.int kvs.length) H) := by
  intro pins s σ H xs us Q I r ⟨a, kvs, e, h, q⟩
  subst e
  obtain ⟨u, rfl, rx⟩ := vals1 r
  cases rx
  exact d_len I h fun t s' I' => ⟨.int kvs.length, H, I', ⟨t, rfl⟩, q⟩
theorem e_len {p : Pos} (hm : X.mg "len" = none) (ha : PAv X (e :: es) ga) (hg : Gl X "len" := by rfl)
    (he : starEach (e :: es) X.env = (false, eval e X.env) :: starEach es X.env := by rfl) (hpl : (backTo pos (starEach es X.env)).any (·.1) = false := by rfl) : PEv X (.Call (.Name "len" p) (e :: es) [] pos) (eLen ga) := by
  refine imp_e (pe_callB (call_len_seq.or (call_len_str.or call_len_d)) hg hm PySem.boot_len ha (by decide) (by decide) he hpl) fun σ H Q ⟨N, H0, ρ, L, W, r, sim, z, q⟩ => ?_
  unfold eLen at z
  obtain ⟨rs, e1, z⟩ := bind_some z
  split at z
  · rename_i x
    obtain ⟨n, e2, z⟩ := Option.map_eq_some_iff.mp z
    subst z
    refine arg1 sim e1 fun v H1 F s _ _ p => ?_
    unfold lenOf at e2
    split at e2
    · rename_i ds hd
      rw [hd] at p
      obtain ⟨a, vs, G, rfl, h1, h2, _⟩ := p.lst_inv
      cases e2
      refine .inl ⟨a, vs, rfl, .inl (SqL.of h1), ?_⟩
      rw [h2.len]
      exact q.int s
    · rename_i ds hd
      rw [hd] at p
      obtain ⟨a, vs, rfl, h1, h2, _⟩ := p.fl_inv
      cases e2
      refine .inl ⟨a, vs, rfl, .inl h1.sq, ?_⟩
      rw [h2.len]
      exact q.int s
    · rename_i ds hd
      rw [hd] at p
      obtain ⟨a, vs, rfl, h1, h2⟩ := p.tup_inv
      cases e2
      refine .inl ⟨a, vs, rfl, .inr (SqT.of h1), ?_⟩
      rw [h2.len]
      exact q.int s
    · rename_i x hd
      rw [hd] at p
      obtain ⟨rfl, _⟩ := p.str_inv
      split at e2
      · rename_i hl
        cases e2
        exact .inr (.inl ⟨x, rfl, Nat.le_trans hl (by rw [sizeLine_eq]; decide), q.int s⟩)
      · cases e2
    · rename_i kd hd
      rw [hd] at p
      obtain ⟨a, kv, G, rfl, h1, h2, _⟩ := p.dk_inv
      cases e2
      refine .inr (.inr ⟨a, kv, rfl, h1, ?_⟩)
      have := congrArg List.length h2
      rw [List.length_map, List.length_map] at this
      rw [this]
      exact q.int s
    · cases e2
  · cases z
end
end Ev

set_option Elab.async false
set_option linter.all false
set_option maxRecDepth 100000

namespace Ev
open PySem PySem.Spec L2
open PyProof.Rows hiding St


abbrev Ret := D × Lv

abbrev RetD := D × Lv × Bool
def spD (K : PySem.W.Frag) (n : Nat) (φ : List D → Option RetD) : Sp := fun vs H Q _ => vs.length = n ∧ ∃ S ds r, Rps K S H .shr vs ds [] ∧ φ ds = some r ∧
  ∀ v H' F, Same H H' → (∀ a ∈ F, H a = none) → F.Nodup → Rp K (fun a => (H a = none ∨ r.2.2 = true ∧ S a) ∧ a ∉ F) H' r.2.1 v r.1 F → Q v H'
structure FnD (P : Program) (w : World) (K : PySem.W.Frag) (mg : Str → Option Value) (base : Heap) (k : Nat) (x : Str) (n : Nat) (φ : List D → Option RetD) : Prop where
  ok : ∃ f fd ps, FnOk P w K mg base CX0 k f fd ps (spD K n φ) ∧ mg x = some (.ref f) ∧ PySem.W.keepIn K (.ref f) = true ∧ Binds K fd ps []
def mkR (al vw : Bool) (r : RetD) : Rv := if imm r.1 = true then rA r.1 else if r.2.2 = true then ⟨r.1, r.2.1, al, vw⟩ else ⟨r.1, r.2.1, false, false⟩
def eCall (φ : List D → Option RetD) (ga : EvA) : EvE := fun ρ => (ga ρ).bind fun rs => (φ (rs.map (·.d))).map (mkR (rs.any (·.al)) (rs.any (·.vw)))
theorem Post.ret {K : PySem.W.Frag} {N : Nw} {W : List Addr} {H H1 : Hp} {r : RetD} {al vw : Bool} {v : V} {F : List Addr} {Q : VK} {S : Addr → Prop} (q : Post K N W H (mkR al vw r) Q) (s : Same H H1) (new : ∀ a ∈ F, H a = none) (nd : F.Nodup) (hS : ∀ a, S a → (N a ∧ a ∉ W ∨ r.2.2 = true ∧ SR N W al vw a) ∧ a ∉ F) (rp : Rp K S H1 r.2.1 v r.1 F) : Q v H1 := by
  unfold mkR at q
  cases hi : imm r.1 with
  | true =>
    rw [hi, if_pos rfl] at q
    exact q.atom s fun S => (rp.of_imm hi).2
  | false =>
    rw [hi, if_neg Bool.false_ne_true] at q
    cases hr : r.2.2 with
    | false =>
      rw [hr, if_neg Bool.false_ne_true] at q
      refine q v H1 F s new nd (rp.mono fun a z => ⟨?_, (hS a z).2⟩)
      rcases (hS a z).1 with h | h
      · exact ⟨.new h.1, fun _ => h.2⟩
      · rw [hr] at h; cases h.1
    | true =>
      rw [hr, if_pos rfl] at q
      refine q v H1 F s new nd (rp.mono fun a z => ⟨?_, (hS a z).2⟩)
      rcases (hS a z).1 with h | h
      · exact ⟨.new h.1, fun _ => h.2⟩
      · exact h.2
theorem RpL.give' {K : PySem.W.Frag} {N : Nw} {W : List Addr} {H : Hp} {T : List Addr} {al vw : Bool} (hT : ∀ a ∈ T, N a ∧ a ∉ W) : ∀ {vs : List V} {rs : List Rv} {F : List Addr}, RpL K N W T H vs rs F → (∀ a ∈ F, a ∈ T) → (∀ r ∈ rs, r.al = true → al = true) → (∀ r ∈ rs, r.vw = true → vw = true) → Rps K (SR N W al vw) H .shr vs (rs.map (·.d)) []
  | _, _, _, .nil, _, _, _ => .nil
  | _, _, _, .cons (r := r) (F := F) h1 h2, hs, ha, hv => by
    refine Rps.cons (F := []) (G := []) (h1.give (fun a z => ⟨z.1.1.up (ha r List.mem_cons_self), fun e => z.1.2 ?_⟩) fun a z => ⟨.new (hT a (hs a (List.mem_append_left _ z))).1, fun _ => (hT a (hs a (List.mem_append_left _ z))).2⟩)
      (RpL.give' hT h2 (fun a z => hs a (List.mem_append_right _ z)) (fun r hr => ha r (List.mem_cons_of_mem _ hr)) fun r hr => hv r (List.mem_cons_of_mem _ hr))
    cases q : r.vw with
    | false => rfl
    | true => rw [hv r List.mem_cons_self q] at e; cases e
theorem any_of {α : Type} {p : α → Bool} {l : List α} : ∀ r ∈ l, p r = true → l.any p = true := fun r h e => List.any_eq_true.mpr ⟨r, h, e⟩
section
variable {X : Cx} {k n : Nat} {x : Str} {φ : List D → Option RetD} {p pos : Pos} {e : Expr} {es : List Expr} {ga : EvA} {fe fa fb : EvE}
theorem e_call (F : FnD X.prog X.w X.K X.mg X.base k x n φ) (hr : Room k X.A) (ha : PAv X (e :: es) ga) (hg : Gl X x := by rfl) (hdb : (x == ("__debug__" : Str)) = false := by decide)
    (he : starEach (e :: es) X.env = (false, eval e X.env) :: starEach es X.env := by rfl) (hpl : (backTo pos (starEach es X.env)).any (·.1) = false := by rfl) (hn : (e :: es).length = n := by rfl) (hl : ∀ ρ rs, ga ρ = some rs → rs.length = n) :
    PEv X (.Call (.Name x p) (e :: es) [] pos) (eCall φ ga) := by
  obtain ⟨f, fd, ps, G, hm, hk, hb⟩ := F.ok
  refine imp_e (pe_call G hr hg hm hk hb .nil pass0 ha hdb he hpl) fun σ H Q ⟨N, H0, ρ, L, W, r, sim, z, q⟩ => ?_
  unfold eCall at z
  obtain ⟨rs, e1, z⟩ := bind_some z
  obtain ⟨r', e2, z⟩ := Option.map_eq_some_iff.mp z
  subst z
  refine ⟨N, H0, ρ, L, W, rs, sim, e1, fun vs H1 T s1 n1 d1 p1 => ?_⟩
  have hT : ∀ a ∈ T, N a ∧ a ∉ W := fun a m => ⟨sim.nw a (n1 a m), fun w => sim.th a w (n1 a m)⟩
  refine ⟨by rw [List.append_nil, p1.len, hl ρ rs e1], SR N W (rs.any (·.al)) (rs.any (·.vw)), rs.map (·.d), r', by rw [List.append_nil]; exact p1.give' hT (fun _ m => m) (fun r h => any_of (p := fun r : Rv => r.al) r h) (fun r h => any_of (p := fun r : Rv => r.vw) r h), e2, fun v H2 F s2 n2 d2 p2 => ?_⟩
  exact q.ret (s1.trans s2) (fun a z => s1.free (n2 a z)) d2 (fun a z => ⟨z.1.imp (fun y => ⟨sim.nw a (s1.free y), fun w => sim.th a w (s1.free y)⟩) id, z.2⟩) p2
theorem e_call0 (F : FnD X.prog X.w X.K X.mg X.base k x 0 φ) (hr : Room k X.A) (hg : Gl X x := by rfl) (hdb : (x == ("__debug__" : Str)) = false := by decide) : PEv X (.Call (.Name x p) [] [] pos) (eCall φ aNil) := by
  obtain ⟨f, fd, ps, G, hm, hk, hb⟩ := F.ok
  refine imp_e (pe_call0 G hr hg hm hk hb .nil pass0 hdb) fun σ H Q ⟨N, H0, ρ, L, W, r, sim, z, q⟩ => ?_
  unfold eCall at z
  obtain ⟨rs, e1, z⟩ := bind_some z
  obtain ⟨r', e2, z⟩ := Option.map_eq_some_iff.mp z
  subst z
  cases e1
  refine ⟨rfl, fun _ => False, [], r', .nil, e2, fun v H2 F s2 n2 d2 p2 => ?_⟩
  exact q.ret s2 n2 d2 (fun a z => ⟨.inl (z.1.elim (fun y => ⟨sim.nw a y, fun w => sim.th a w y⟩) fun y => y.2.elim), z.2⟩) p2
end
theorem aNil_len {ρ : Env} {rs : List Rv} (h : aNil ρ = some rs) : rs.length = 0 := by cases h; rfl
theorem aCons_len {f : EvE} {g : EvA} {n : Nat} (hg : ∀ ρ rs, g ρ = some rs → rs.length = n) : ∀ ρ rs, aCons f g ρ = some rs → rs.length = n + 1 := fun ρ rs h => by
  unfold aCons at h
  obtain ⟨r, _, h⟩ := bind_some h
  obtain ⟨rs', e, h⟩ := bind_some h
  cases h
  rw [List.length_cons, hg ρ rs' e]


inductive Out where
  | nx (ρ : Env) | bk (ρ : Env) | ct (ρ : Env) | rt (ρ : Env) (d : D) (l : Lv) (al : Bool)
abbrev EvS := Env → Option Out

def Frm (H : Hp) (L : List Addr) (H' : Hp) (L' : List Addr) : Prop := (∀ b o, H b = some o → b ∉ L → H' b = some o) ∧ (∀ b, H' b = none → H b = none ∨ b ∈ L) ∧ ∀ b ∈ L', b ∈ L ∨ H b = none
theorem Frm.refl (H : Hp) (L : List Addr) : Frm H L H L := ⟨fun _ _ e _ => e, fun _ e => .inl e, fun _ z => .inl z⟩
theorem Frm.trans {H H1 H2 : Hp} {L L1 L2 : List Addr} (a : Frm H L H1 L1) (b : Frm H1 L1 H2 L2) : Frm H L H2 L2 :=
  ⟨fun c o e n => b.1 c o (a.1 c o e n) fun z => (a.2.2 c z).elim n fun q => (by rw [e] at q; cases q), fun c e => (b.2.1 c e).elim (a.2.1 c) fun z => (a.2.2 c z).symm, fun c z => (b.2.2 c z).elim (a.2.2 c) fun q => (a.2.1 c q).symm⟩
theorem Frm.same {H H' : Hp} {L L' : List Addr} (s : Same H H') (h : ∀ b ∈ L', b ∈ L ∨ H b = none) : Frm H L H' L' := ⟨fun b o e _ => s b o e, fun b e => .inl (s.free e), h⟩
def PostS (K : PySem.W.Frag) (N : Nw) (H0 H : Hp) (L : List Addr) : Out → Ends → Prop
  | .nx ρ, D => ∀ σ H' L', Sim K N H0 ρ σ H' L' → Frm H L H' L' → D.nx σ H'
  | .bk ρ, D => ∀ σ H' L', Sim K N H0 ρ σ H' L' → Frm H L H' L' → D.bk σ H'
  | .ct ρ, D => ∀ σ H' L', Sim K N H0 ρ σ H' L' → Frm H L H' L' → D.ct σ H'
  | .rt ρ d l al, D => ∀ v σ H' L' F, SimH K N H0 ρ σ H' L' (L' ++ F) → (∀ b o, H b = some o → b ∉ L → H' b = some o) → Rp K (fun a => AlN N al a ∧ a ∉ F ∧ a ∉ L') H' l v d F → D.rt v H'
def tS (K : PySem.W.Frag) (f : EvS) : TS := fun D σ H => ∃ N H0 ρ L o, Sim K N H0 ρ σ H L ∧ f ρ = some o ∧ PostS K N H0 H L o D
abbrev PSv (X : Cx) (st : Stmt) (f : EvS) : Prop := PS X st (tS X.K f)
abbrev PSsv (X : Cx) (st : List Stmt) (f : EvS) : Prop := PSs X st (tS X.K f)
theorem imp_s {X : Cx} {e : Stmt} {t t' : TS} (h : PS X e t) (i : ∀ D σ H, t' D σ H → t D σ H) : PS X e t' := ⟨fun p s σ H D I w => h.run p s σ H D I (i D σ H w)⟩
theorem imp_ss {X : Cx} {e : List Stmt} {t t' : TS} (h : PSs X e t) (i : ∀ D σ H, t' D σ H → t D σ H) : PSs X e t' := ⟨fun p s σ H D I w => h.run p s σ H D I (i D σ H w)⟩
theorem PostS.at_ {K : PySem.W.Frag} {N : Nw} {H0 H H1 : Hp} {L L1 : List Addr} {o : Out} {D : Ends} (p : PostS K N H0 H L o D) (f : Frm H L H1 L1) : PostS K N H0 H1 L1 o D := by
  cases o with
  | nx ρ => exact fun σ H' L' s f' => p σ H' L' s (f.trans f')
  | bk ρ => exact fun σ H' L' s f' => p σ H' L' s (f.trans f')
  | ct ρ => exact fun σ H' L' s f' => p σ H' L' s (f.trans f')
  | rt ρ d l al => exact fun v σ H' L' F s k r => p v σ H' L' F s (fun b o e n => k b o (f.1 b o e n) fun m => (f.2.2 b m).elim n fun z => by rw [e] at z; cases z) r
def sSeq (f g : EvS) : EvS := fun ρ => (f ρ).bind fun o => match o with
  | .nx ρ' => g ρ'
  | o => some o
def sNil : EvS := fun ρ => some (.nx ρ)
section
variable {X : Cx} {st : Stmt} {rest body orelse : List Stmt} {f g : EvS} {e c : Expr} {fe : EvE} {gc : EvT} {pos pos' : Pos}
theorem s_nil : PSsv X [] sNil := imp_ss pss_nil fun D σ H ⟨N, H0, ρ, L, o, sim, z, q⟩ => by
  cases z
  exact q σ H L sim (Frm.refl H L)
theorem s_cons (h1 : PSv X st f) (h2 : PSsv X rest g) : PSsv X (st :: rest) (sSeq f g) := by
  refine imp_ss (pss_cons h1 h2) fun D σ H ⟨N, H0, ρ, L, o, sim, z, q⟩ => ?_
  unfold sSeq at z
  obtain ⟨o1, e1, z⟩ := bind_some z
  refine ⟨N, H0, ρ, L, o1, sim, e1, ?_⟩
  cases o1 with
  | nx ρ' => exact fun σ' H' L' s' f' => ⟨N, H0, ρ', L', o, s', z, q.at_ f'⟩
  | bk ρ' => cases z; exact q
  | ct ρ' => cases z; exact q
  | rt ρ d l al => cases z; exact q
theorem s_one (h1 : PSv X st f) : PSsv X [st] f := pss_one h1
theorem s_pass : PSv X (.Pass pos) sNil := imp_s ps_pass fun D σ H ⟨N, H0, ρ, L, o, sim, z, q⟩ => by
  cases z
  exact q σ H L sim (Frm.refl H L)
theorem s_break : PSv X (.Break pos) (fun ρ => some (.bk ρ)) := imp_s ps_break fun D σ H ⟨N, H0, ρ, L, o, sim, z, q⟩ => by
  cases z
  exact q σ H L sim (Frm.refl H L)
theorem s_cont : PSv X (.Continue pos) (fun ρ => some (.ct ρ)) := imp_s ps_continue fun D σ H ⟨N, H0, ρ, L, o, sim, z, q⟩ => by
  cases z
  exact q σ H L sim (Frm.refl H L)
def sIf (c : EvT) (f g : EvS) : EvS := fun ρ => (c ρ).bind fun k => if k = true then f ρ else g ρ
theorem s_if (hc : PTv X c gc) (ha : PSsv X body f) (hb : PSsv X orelse g) : PSv X (.If c body orelse pos) (sIf gc f g) := by
  refine imp_s (ps_if hc ha hb) fun D σ H ⟨N, H0, ρ, L, o, sim, z, q⟩ => ?_
  unfold sIf at z
  obtain ⟨k, e1, z⟩ := bind_some z
  refine ⟨N, H0, ρ, L, L, k, sim.h, e1, fun H1 s1 => ?_⟩
  have fr : Frm H L H1 L := Frm.same s1 fun b z => .inl z
  cases k with
  | true => exact iteT ⟨N, H0, ρ, L, o, sim.same s1, z, q.at_ fr⟩
  | false => exact iteF ⟨N, H0, ρ, L, o, sim.same s1, z, q.at_ fr⟩

def sExpr (fe : EvE) : EvS := fun ρ => (fe ρ).map fun _ => .nx ρ
theorem s_expr (he : PEv X e fe) (hs : swapsWith e none pos.line X.env = pure false := by rfl) : PSv X (.Expr e pos) (sExpr fe) := by
  refine imp_s (ps_expr he hs) fun D σ H ⟨N, H0, ρ, L, o, sim, z, q⟩ => ?_
  unfold sExpr at z
  obtain ⟨r, e1, z⟩ := Option.map_eq_some_iff.mp z
  subst z
  exact one sim.h e1 fun v H1 F s1 _ _ _ => q σ H1 L (sim.same s1) (Frm.same s1 fun b z => .inl z)
theorem s_doc {x j} : PSv X (.Expr (.Constant (.str x) j pos) pos') sNil := imp_s ps_doc fun D σ H ⟨N, H0, ρ, L, o, sim, z, q⟩ => by
  cases z
  exact q σ H L sim (Frm.refl H L)

def sSet (fz : List Nat) (i : Nat) (fe : EvE) : EvS := fun ρ => (fe (frzs fz ρ)).bind fun r => if (!r.vw && decide (i < (frzs fz ρ).length)) = true then some (.nx ((frzs fz ρ).set i (some ⟨r.d, r.l, r.al, none⟩))) else none
theorem s_set (fz : List Nat) (i : Nat) {x : Str} (he : PEv X e fe) (hN : X.N.Nodup) (hi : X.N[i]? = some x := by rfl) (hx : Loc X.env.scope x := by first | exact Or.inl rfl | exact Or.inr rfl) (hs : swapsWith e (some (.Name x pos')) pos.line X.env = pure false := by rfl) (hf : X.fn x = true ∨ X.env.scope.names.lookup x = some .local := by first | exact .inl rfl | exact .inr rfl | assumption) :
    PSv X (.Assign [.Name x pos'] e pos) (sSet fz i fe) := by
  refine imp_s (ps_set hN hi hx he hs hf) fun D σ H ⟨N, H0, ρ, L, o, sim, z, q⟩ => ?_
  unfold sSet at z
  obtain ⟨L1, sim1, sub⟩ := sim.frzs fz
  obtain ⟨r, e1, z⟩ := bind_some z
  split at z
  · rename_i hc
    rw [Bool.and_eq_true, decide_eq_true_eq] at hc
    cases z
    refine one sim1.h e1 fun v H1 F s1 n1 d1 p1 => ?_
    have hv : r.vw = false := by simpa using hc.1
    obtain ⟨L2, sim2, sub2⟩ := sim1.set (r := ⟨r.d, r.l, r.al, none⟩) (fun _ z => nomatch z) s1 n1 d1 (p1.mono fun a z => ⟨⟨z.1.1, fun _ => z.1.2 hv⟩, z.2⟩) hc.2
    exact q _ H1 L2 sim2 (Frm.same s1 fun b z => (sub2 b z).imp (sub b) (n1 b))
  · cases z
end

def wipeA (ρ : Env) : Env := ρ.map fun _ => none
section
variable {K : PySem.W.Frag} {N : Nw} {H0 H H' : Hp} {ρ : Env} {σ : St} {L : List Addr}
theorem Slots.none_ {L0 L1 : List Addr} : ∀ {σ : St} {ρ : Env} {F : List Addr}, Slots K N L0 H σ ρ F → Slots K N L1 H σ (wipeA ρ) []
  | _, _, _, .nil => .nil
  | _, _, _, .no h => .no h.none_
  | _, _, _, .so _ _ h => .no h.none_
theorem Sim.none_ (s : Sim K N H0 ρ σ H L) : Sim K N H0 (wipeA ρ) σ H [] := ⟨s.kp, s.nw, List.nodup_nil, (fun _ z => nomatch z), (fun _ z => nomatch z), s.sl.none_⟩
theorem Slots.none_' {L0 L1 : List Addr} {F : List Addr} (h : Slots K N L0 H σ (wipeA ρ) F) : Slots K N L1 H σ (wipeA ρ) [] := by
  have e : ∀ ρ : Env, wipeA (wipeA ρ) = wipeA ρ := fun ρ => by unfold wipeA; rw [List.map_map]; rfl
  have := h.none_ (L1 := L1)
  rw [e] at this
  exact this
theorem Sim.h0 (s : Sim K N H0 ρ σ H L) : SimH K N H0 ρ σ H L (L ++ []) := by
  rw [List.append_nil]
  exact s.h

theorem Slots.hide {L0 : List Addr} : ∀ {σ : St} {ρ : Env} {F : List Addr} {i : Nat} {s : Sv}, Slots K N L0 H σ ρ F → ρ[i]? = some (some s) → ∃ F1 G F2 v, F = F1 ++ (G ++ F2) ∧ σ[i]? = some (some v) ∧ Rp K (SR N L0 s.al false) H s.l v s.d G ∧ Slots K N L0 H σ (ρ.set i none) (F1 ++ F2)
  | _, _, _, _, _, .nil, e => by simp at e
  | _, _, _, 0, _, .no _, e => by simp at e
  | _, _, _, i + 1, s, .no h, e => by
    obtain ⟨F1, G, F2, v, e1, e2, r, q⟩ := Slots.hide (i := i) (s := s) h (by simpa using e)
    exact ⟨F1, G, F2, v, e1, by simpa using e2, r, .no q⟩
  | _, _, _, 0, _, .so (F := F) (G := G) _ h1 h, e => by
    simp at e; subst e
    exact ⟨[], F, G, _, rfl, rfl, h1, .no h⟩
  | _, _, _, i + 1, s, .so (F := F) h0 h1 h, e => by
    obtain ⟨F1, G, F2, v, e1, e2, r, q⟩ := Slots.hide (i := i) (s := s) h (by simpa using e)
    refine ⟨F ++ F1, G, F2, v, by rw [e1, List.append_assoc], by simpa using e2, r, ?_⟩
    rw [List.append_assoc]
    exact .so h0 h1 q
end
section
variable {X : Cx} {st : Stmt} {rest body orelse : List Stmt} {f g : EvS} {e c : Expr} {fe : EvE} {gc : EvT} {pos pos' : Pos}

def sRet (fe : EvE) : EvS := fun ρ => (fe ρ).bind fun r => some (.rt (if r.vw = true then wipeA ρ else ρ) r.d r.l r.al)
theorem s_ret (he : PEv X e fe) : PSv X (.Return (some e) pos) (sRet fe) := by
  refine imp_s (ps_ret he) fun D σ H ⟨N, H0, ρ, L, o, sim, z, q⟩ => ?_
  unfold sRet at z
  obtain ⟨r, e1, z⟩ := bind_some z
  cases z
  refine one sim.h e1 fun v H1 F s1 n1 d1 p1 => ?_
  have sm := sim.same s1
  have nw : ∀ a ∈ F, N a := fun a z => sim.nw a (n1 a z)
  cases hv : r.vw with
  | true =>
    rw [hv, if_pos rfl] at q
    have n := sm.none_
    exact q v σ H1 [] F ⟨n.kp, n.nw, d1, nw, p1.own_mut, n.sl.none_', (fun _ z => nomatch z), .nil⟩ (fun b o e _ => s1 b o e) (p1.mono fun a z => ⟨z.1.1, z.2, fun z => nomatch z⟩)
  | false =>
    rw [hv, if_neg Bool.false_ne_true] at q
    exact q v σ H1 L F (sim.h.hold s1 n1 d1 p1.own_mut) (fun b o e _ => s1 b o e) (p1.mono fun a z => ⟨z.1.1, z.2, z.1.2 hv⟩)
theorem s_ret0 : PSv X (.Return none pos) (fun ρ => some (.rt ρ .non .full false)) := by
  refine imp_s ps_retN fun D σ H ⟨N, H0, ρ, L, o, sim, z, q⟩ => ?_
  cases z
  exact q .non σ H L [] sim.h0 (fun _ _ e _ => e) .non

def sRetV (i : Nat) : EvS := fun ρ => match ρ[i]? with
  | some (some s) => if imm s.d = true then some (.rt ρ s.d .full false) else some (.rt (ρ.set i none) s.d s.l s.al)
  | _ => none
theorem s_retv (i : Nat) {x : Str} (hN : X.N[i]? = some x := by rfl) (hv : Vis X.env.scope x := by first | exact Or.inl rfl | exact Or.inr (Or.inl rfl) | exact Or.inr (Or.inr rfl)) (hd : (x == ("__debug__" : Str)) = false := by decide)
    (hcd : (x == ("__classdict__" : Str)) = false := by decide) : PSv X (.Return (some (.Name x pos')) pos) (sRetV i) := by
  refine imp_s (ps_ret (pe_var hN hv hd hcd)) fun D σ H ⟨N, H0, ρ, L, o, sim, z, q⟩ => ?_
  unfold sRetV at z
  split at z
  · rename_i s es
    obtain ⟨F1, G, F2, v, eL, ev, rp, sl⟩ := sim.sl.hide es
    refine ⟨v, ev, ?_⟩
    split at z
    · rename_i hi
      cases z
      exact q v σ H L [] sim.h0 (fun _ _ e _ => e) ((rp.of_imm hi).2)
    · cases z
      have hnd := sim.nd
      rw [eL, List.nodup_append, List.nodup_append] at hnd
      have sub : ∀ a, a ∈ F1 ++ F2 → a ∈ L := fun a z => by
        rw [eL]
        rcases List.mem_append.mp z with z | z <;> simp [z]
      have subG : ∀ a, a ∈ (F1 ++ F2) ++ G → a ∈ L := fun a z => by
        rcases List.mem_append.mp z with z | z
        · exact sub a z
        · rw [eL]; simp [z]
      have nd12 : (F1 ++ F2).Nodup := by
        rw [List.nodup_append]
        exact ⟨hnd.1, hnd.2.1.2.1, fun a ha b hb => hnd.2.2 a ha b (by simp [hb])⟩
      refine q v σ H (F1 ++ F2) G ⟨sim.kp, sim.nw, ?_, fun a z => sim.ln a (subG a z), fun a z => sim.mu a (subG a z), sl.mono fun a z m => z (subG a m), fun a z => List.mem_append_left _ z, nd12⟩ (fun _ _ e _ => e) (rp.mono fun a z => ⟨z.1, fun m => z.2 rfl (by rw [eL]; simp [m]), fun m => z.2 rfl (sub a m)⟩)
      rw [List.nodup_append]
      refine ⟨nd12, hnd.2.1.1, fun a m b z e => ?_⟩
      subst e
      rcases List.mem_append.mp m with m | m
      · exact hnd.2.2 a m a (by simp [z]) rfl
      · exact hnd.2.1.2.2 a z a m rfl
  · cases z
end


inductive Tg where
  | nm (i : Nat) | tp (ts : List Tg)
mutual
def tgSet : Tg → D → Bool → Env → Option Env
  | .nm i, d, al, ρ => if i < ρ.length then some (ρ.set i (some ⟨d, if imm d = true then .full else .shr, al, none⟩)) else none
  | .tp ts, .tup ds, al, ρ => if ts.length = ds.length then tgsSet ts ds al ρ else none
  | _, _, _, _ => none
def tgsSet : List Tg → List D → Bool → Env → Option Env
  | [], [], _, ρ => some ρ
  | t :: ts, d :: ds, al, ρ => (tgSet t d al ρ).bind (tgsSet ts ds al)
  | _, _, _, _ => none
end
mutual
def tgSlots : Tg → List Nat
  | .nm i => [i]
  | .tp ts => tgsSlots ts
def tgsSlots : List Tg → List Nat
  | [] => []
  | t :: ts => tgSlots t ++ tgsSlots ts
end

def Touch (js : List Nat) (σ σ' : St) : Prop := σ'.length = σ.length ∧ ∀ j, j ∉ js → σ'[j]? = σ[j]?
theorem Touch.refl (js : List Nat) (σ : St) : Touch js σ σ := ⟨rfl, fun _ _ => rfl⟩
def tG (K : PySem.W.Frag) (t : Tg) : TG := fun v σ H Q => ∃ N H0 ρ L W d al ρ', SimH K N H0 ρ σ H L W ∧ Rp K (SR N W al false) H .shr v d [] ∧ tgSet t d al ρ = some ρ' ∧ ∀ σ' L', SimH K N H0 ρ' σ' H L' W → (∀ a ∈ L', a ∈ L) → Touch (tgSlots t) σ σ' → Q σ' H
def tGs (K : PySem.W.Frag) (ts : List Tg) : TGs := fun vs σ H Q => ∃ N H0 ρ L W ds al ρ', SimH K N H0 ρ σ H L W ∧ Rps K (SR N W al false) H .shr vs ds [] ∧ tgsSet ts ds al ρ = some ρ' ∧ ∀ σ' L', SimH K N H0 ρ' σ' H L' W → (∀ a ∈ L', a ∈ L) → Touch (tgsSlots ts) σ σ' → Q σ' H
abbrev PGv (X : Cx) (e : Expr) (t : Tg) : Prop := PG X e (tG X.K t)
abbrev PGsv (X : Cx) (es : List Expr) (ts : List Tg) : Prop := PGs X es (tGs X.K ts)
theorem imp_g {X : Cx} {e : Expr} {t t' : TG} (h : PG X e t) (i : ∀ v σ H Q, t' v σ H Q → t v σ H Q) : PG X e t' := ⟨fun p s σ H v u Q I r w => h.run p s σ H v u Q I r (i v σ H Q w)⟩
theorem imp_gs {X : Cx} {e : List Expr} {t t' : TGs} (h : PGs X e t) (i : ∀ v σ H Q, t' v σ H Q → t v σ H Q) : PGs X e t' := ⟨fun p s σ H v u Q I r w => h.run p s σ H v u Q I r (i v σ H Q w)⟩
section
variable {X : Cx} {pos pos' : Pos} {es : List Expr} {e : Expr} {t : Tg} {ts : List Tg} {fe : EvE}
theorem g_name (i : Nat) {x : Str} (hN : X.N.Nodup) (hi : X.N[i]? = some x := by rfl) (hx : Loc X.env.scope x := by first | exact Or.inl rfl | exact Or.inr rfl) (hf : X.fn x = true ∨ X.env.scope.names.lookup x = some .local := by first | exact .inl rfl | exact .inr rfl | assumption) : PGv X (.Name x pos) (.nm i) := by
  refine imp_g (pg_name hN hi hx hf) fun v σ H Q ⟨N, H0, ρ, L, W, d, al, ρ', sim, rp, z, q⟩ => ?_
  simp only [tgSet] at z
  split at z
  · rename_i hc
    cases z
    obtain ⟨L', sim', sub⟩ := sim.set0 (r := ⟨d, if imm d = true then .full else .shr, al, none⟩) (v := v) (fun _ z => nomatch z) (by
      cases hi : imm d with
      | true => exact (rp.of_imm hi).2
      | false => exact rp) hc
    refine q _ L' sim' sub ⟨List.length_set, fun j hj => ?_⟩
    rw [List.getElem?_set_ne]
    intro e
    exact hj (by simp [tgSlots, e])
  · cases z
theorem gs_nil : PGsv X [] [] := imp_gs pgs_nil fun vs σ H Q ⟨N, H0, ρ, L, W, ds, al, ρ', sim, rp, z, q⟩ => by
  generalize hF : ([] : List Addr) = F0 at rp
  cases rp with
  | nil =>
    simp only [tgsSet] at z
    cases z
    exact ⟨rfl, q σ L sim (fun _ z => z) (Touch.refl _ _)⟩
  | cons _ _ => simp only [tgsSet] at z; cases z
theorem gs_cons (h1 : PGv X e t) (h2 : PGsv X es ts) (hs : (assignEach (e :: es) X.env).map (·.2) = assign e X.env :: (assignEach es X.env).map (·.2) := by rfl) : PGsv X (e :: es) (t :: ts) := by
  refine imp_gs (pgs_cons h1 h2 hs) fun vs σ H Q ⟨N, H0, ρ, L, W, ds, al, ρ', sim, rp, z, q⟩ => ?_
  generalize hF : ([] : List Addr) = F0 at rp
  cases rp with
  | nil => simp only [tgsSet] at z; cases z
  | cons r1 r2 =>
    have e1 := r1.shr0
    have e2 := r2.shr0
    subst e1 e2
    simp only [tgsSet] at z
    obtain ⟨ρ1, z1, z2⟩ := bind_some z
    refine ⟨_, _, rfl, N, H0, ρ, L, W, _, al, ρ1, sim, r1, z1, fun σ1 L1 sim1 sub1 t1 => ⟨N, H0, ρ1, L1, W, _, al, ρ', sim1, r2, z2, fun σ2 L2 sim2 sub2 t2 => q σ2 L2 sim2 (fun a m => sub1 a (sub2 a m)) ⟨t2.1.trans t1.1, fun j hj => ?_⟩⟩⟩
    rw [tgsSlots, List.mem_append, not_or] at hj
    rw [t2.2 j hj.2, t1.2 j hj.1]
theorem g_tup {k : Nat} (hc : X.calm = true) (h : PGsv X es ts) (hn : (assignEach es X.env).length = ts.length := by rfl) (hst : (assignEach es X.env).findIdx? (·.1) = none := by rfl) : PGv X (.Tuple es k pos) (.tp ts) := by
  refine imp_g (pg_tup hc h hn hst) fun v σ H Q ⟨N, H0, ρ, L, W, d, al, ρ', sim, rp, z, q⟩ => ?_
  cases d with
  | tup ds =>
    simp only [tgSet] at z
    split at z
    · rename_i hl
      obtain ⟨a, vs, rfl, h1, h2⟩ := rp.tup_inv
      exact ⟨a, vs, rfl, SqT.of h1, by rw [h2.len, hl], N, H0, ρ, L, W, ds, al, ρ', sim, h2, z, fun σ' L' s' u t => q σ' L' s' u (by simpa only [tgSlots] using t)⟩
    · cases z
  | _ => simp only [tgSet] at z; cases z

def sAsg (fz : List Nat) (t : Tg) (fe : EvE) : EvS := fun ρ => (fe (frzs fz ρ)).bind fun r => if r.vw = true then none else (tgSet t r.d r.al (frzs fz ρ)).map .nx
theorem s_asg (fz : List Nat) {tg : Expr} (he : PEv X e fe) (hg : PGv X tg t) (hs : swapsWithSole [tg] e pos.line X.env = pure false := by rfl) (hw : swappedStores [tg] e X.env = pure none := by rfl) (h1 : (assignEach [tg] X.env).map (·.2) = [assign tg X.env] := by rfl) : PSv X (.Assign [tg] e pos) (sAsg fz t fe) := by
  refine imp_s (ps_asg he hg hs hw h1) fun D σ H ⟨N, H0, ρ, L, o, sim, z, q⟩ => ?_
  unfold sAsg at z
  obtain ⟨L1, sim1, sub⟩ := sim.frzs fz
  obtain ⟨r, e1, z⟩ := bind_some z
  split at z
  · cases z
  · rename_i hv
    have hv : r.vw = false := by simpa using hv
    obtain ⟨ρ', e2, z⟩ := Option.map_eq_some_iff.mp z
    subst z
    refine one sim1.h e1 fun v H1 F s1 n1 d1 p1 => ?_
    refine ⟨N, H0, _, L1, L1, r.d, r.al, ρ', (sim1.same s1).h, p1.give (fun a z => ⟨z.1.1, fun _ => z.1.2 hv⟩) (fun a m => ⟨.new (sim1.nw a (n1 a m)), fun _ w => sim1.th a w (n1 a m)⟩), e2, fun σ' L' sim' sub' _ => ?_⟩
    exact q σ' H1 L' sim'.sim (Frm.same s1 fun b z => .inl (sub b (sub' b z)))
end
end Ev

set_option Elab.async false
set_option linter.all false
set_option maxRecDepth 100000

namespace Ev
open PySem PySem.Spec L2
open PyProof.Rows hiding St

abbrev EvI := Env → Option (List (D × Bool))
def Kept (H : Hp) (W : List Addr) (H' : Hp) : Prop := ∀ b o, H b = some o → b ∉ W → H' b = some o

structure Yld (K : PySem.W.Frag) (N : Nw) (W : List Addr) (H1 : Hp) (J : It) (items : List (D × Bool)) : Prop where
  go : ∀ i d al H2, items[i]? = some (d, al) → Kept H1 W H2 → J.go i H2
  yld : ∀ i d al H2 x H3, items[i]? = some (d, al) → Kept H1 W H2 → J.yld i H2 x H3 → Same H2 H3 ∧ Rp K (fun a => SR N W al false a ∧ H1 a ≠ none) H3 .shr x d []
  stop : ∀ H2, Kept H1 W H2 → J.stop items.length H2
def tI (K : PySem.W.Frag) (f : EvI) : TI := fun σ H R => ∃ N H0 ρ L W items, SimH K N H0 ρ σ H L W ∧ f ρ = some items ∧ ∀ J H1, Same H H1 → Yld K N W H1 J items → R J H1
abbrev PIv (X : Cx) (tg iter : Expr) (f : EvI) : Prop := PI X tg iter (tI X.K f)
theorem imp_i {X : Cx} {tg e : Expr} {t t' : TI} (h : PI X tg e t) (i : ∀ σ H R, t' σ H R → t σ H R) : PI X tg e t' := ⟨fun p s σ H R I w => h.run p s σ H R I (i σ H R w)⟩

structure YldS (K : PySem.W.Frag) (N : Nw) (W : List Addr) (H1 : Hp) (J : It) (items : List (D × Bool)) : Prop where
  go : ∀ i d al H2, items[i]? = some (d, al) → Same H1 H2 → J.go i H2
  yld : ∀ i d al H2 x H3, items[i]? = some (d, al) → Same H1 H2 → J.yld i H2 x H3 → Same H2 H3 ∧ Rp K (fun a => SR N W al false a ∧ H1 a ≠ none) H3 .shr x d []
  stop : ∀ H2, Same H1 H2 → J.stop items.length H2
theorem Yld.s {K : PySem.W.Frag} {N : Nw} {W : List Addr} {H1 : Hp} {J : It} {items : List (D × Bool)} (Y : Yld K N W H1 J items) : YldS K N W H1 J items where
  go := fun i d al H2 e s => Y.go i d al H2 e fun b o e _ => s b o e
  yld := fun i d al H2 x H3 e s y => Y.yld i d al H2 x H3 e (fun b o e _ => s b o e) y
  stop := fun H2 s => Y.stop H2 fun b o e _ => s b o e
def tIs (K : PySem.W.Frag) (f : EvI) : TI := fun σ H R => ∃ N H0 ρ L W items, SimH K N H0 ρ σ H L W ∧ f ρ = some items ∧ ∀ J H1, Same H H1 → YldS K N W H1 J items → R J H1
abbrev PIvs (X : Cx) (tg iter : Expr) (f : EvI) : Prop := PI X tg iter (tIs X.K f)
theorem pis {X : Cx} {tg e : Expr} {f : EvI} (h : PIv X tg e f) : PIvs X tg e f := imp_i h fun σ H R ⟨N, H0, ρ, L, W, items, sim, z, q⟩ => ⟨N, H0, ρ, L, W, items, sim, z, fun J H1 s Y => q J H1 s Y.s⟩
section
variable {K : PySem.W.Frag} {N : Nw} {H0 H H' : Hp} {ρ : Env} {σ : St} {L W : List Addr}

theorem Rp.kept {S : Addr → Prop} {v : V} {d : D} (r : Rp K (fun a => S a ∧ a ∉ W) H .shr v d []) (m : ∀ a ∈ W, Mut (H a)) (k : Kept H W H') : Rp K (fun a => S a ∧ a ∉ W) H' .shr v d [] :=
  r.keep fun b o e q => k b o e (by
    rcases q with q | q | ⟨xs, rfl⟩ | ⟨o', u, rfl⟩
    · exact q.2
    · exact nomatch q
    · intro z; have := m b z; rw [e] at this; exact this
    · intro z; have := m b z; rw [e] at this; exact this)
end
section
variable {X : Cx} {tg e : Expr} {fe : EvE} {pos : Pos} {body : List Stmt} {t : Tg} {b : EvS} {it : EvI}

def iLst (fe : EvE) : EvI := fun ρ => (fe ρ).bind fun x => if x.vw = true then none else match x.d with
  | .lst ds => some (ds.map fun d => (d, x.al))
  | .fl ds => some (ds.map fun d => (d, x.al))
  | _ => none
theorem yld_list {K : PySem.W.Frag} {N : Nw} {W : List Addr} {H1 : Hp} {a : Addr} {vs : List V} {ds : List D} {al : Bool} (hl : ∀ H2, Kept H1 W H2 → SqL K H2 a vs) (hm : ∀ b ∈ W, Mut (H1 b)) (r : Rps K (SR N W al false) H1 .shr vs ds []) : Yld K N W H1 (Itl K a) (ds.map fun d => (d, al)) where
  go := fun i d al' H2 e k => by
    rw [List.getElem?_map] at e
    obtain ⟨d', e1, e2⟩ := Option.map_eq_some_iff.mp e
    obtain ⟨v, G, e3, _⟩ := r.get e1
    exact ⟨vs, v, hl H2 k, e3⟩
  yld := fun i d al' H2 x H3 e k y => by
    rw [List.getElem?_map] at e
    obtain ⟨d', e1, e2⟩ := Option.map_eq_some_iff.mp e
    cases e2
    obtain ⟨v, G, e3, rp, sub⟩ := r.get e1
    obtain ⟨e4, y⟩ := y
    subst e4
    have := y vs (hl _ k)
    rw [e3] at this
    cases this
    have hG : G = [] := rp.shr0
    subst hG
    refine ⟨Same.refl _, ?_⟩
    have z := (rp.trk.mono (S' := fun a => (AlN N al a ∧ H1 a ≠ none) ∧ a ∉ W) fun a z => ⟨⟨z.1.1, z.2⟩, z.1.2 rfl⟩).kept hm k
    exact z.mono fun a z => ⟨⟨z.1.1, fun _ => z.2⟩, z.1.2⟩
  stop := fun H2 k => ⟨vs, hl H2 k, by rw [List.length_map, r.len]; exact Nat.le_refl _⟩
theorem Kept.same {H1 H2 : Hp} {W W' : List Addr} (k : Kept H1 W H2) (h : ∀ a ∈ W, a ∈ W') : Kept H1 W' H2 := fun b o e n => k b o e fun z => n (h b z)
theorem i_lst (he : PEv X e fe) : PIv X tg e (iLst fe) := by
  refine imp_i (pi_list he) fun σ H R ⟨N, H0, ρ, L, W, items, sim, z, q⟩ => ?_
  unfold iLst at z
  obtain ⟨x, e1, z⟩ := bind_some z
  split at z
  · cases z
  · rename_i hv
    have hv : x.vw = false := by simpa using hv
    refine one sim e1 fun v H1 F s1 n1 d1 p1 => ?_
    have new : ∀ a ∈ F, N a ∧ a ∉ W := fun a m => ⟨sim.nw a (n1 a m), fun w => sim.th a w (n1 a m)⟩
    have muW : ∀ b ∈ W, Mut (H1 b) := fun b z => mut_same (sim.mu b z) s1
    split at z
    · rename_i ds hd
      cases z
      rw [hd] at p1
      have p2 := p1.give (S' := SR N W x.al false) (fun a z => ⟨z.1.1, fun _ => z.1.2 hv⟩) fun a m => ⟨.new (new a m).1, fun _ => (new a m).2⟩
      cases p2 with
      | nd0 hn h1 h2 h3 =>
        cases hn
        refine ⟨_, rfl, ⟨_, SqL.of h1.lst⟩, q _ H1 s1 (yld_list (fun H2 k => SqL.of (k _ _ h1.lst (h2.2 rfl))) muW h3)⟩
    · rename_i ds hd
      cases z
      rw [hd] at p1
      have p2 := p1.give (S' := SR N W x.al false) (fun a z => ⟨z.1.1, fun _ => z.1.2 hv⟩) fun a m => ⟨.new (new a m).1, fun _ => (new a m).2⟩
      obtain ⟨a, vs, rfl, h1, h2, _⟩ := p2.fl_inv
      refine ⟨a, rfl, ⟨_, h1.sq⟩, q _ H1 s1 (yld_list (fun H2 k => ?_) muW h2)⟩
      rcases h1 with ⟨o, h1⟩ | h1
      · refine .inl (.inr ⟨o, k _ _ h1 fun w => ?_⟩)
        have := muW a w
        rw [h1] at this
        exact this
      · exact .inr h1
    · cases z

def iLstV (fe : EvE) : EvI := fun ρ => (fe ρ).bind fun x => match x.d with
  | .lst ds => if immAll ds = true then some (ds.map fun d => (d, false)) else if x.vw = true then none else some (ds.map fun d => (d, x.al))
  | .fl ds => if immAll ds = true then some (ds.map fun d => (d, false)) else if x.vw = true then none else some (ds.map fun d => (d, x.al))
  | _ => none
theorem yldS_imm {K : PySem.W.Frag} {N : Nw} {W : List Addr} {H1 : Hp} {a : Addr} {vs : List V} {ds : List D} {S : Addr → Prop} {l : Lv} {F : List Addr} (hl : ∀ H2, Same H1 H2 → SqL K H2 a vs) (r : Rps K S H1 l vs ds F) (hi : immAll ds = true) : YldS K N W H1 (Itl K a) (ds.map fun d => (d, false)) where
  go := fun i d al' H2 e k => by
    rw [List.getElem?_map] at e
    obtain ⟨d', e1, e2⟩ := Option.map_eq_some_iff.mp e
    obtain ⟨v, G, e3, _⟩ := r.get e1
    exact ⟨vs, v, hl H2 k, e3⟩
  yld := fun i d al' H2 x H3 e k y => by
    rw [List.getElem?_map] at e
    obtain ⟨d', e1, e2⟩ := Option.map_eq_some_iff.mp e
    obtain ⟨e5, e6⟩ := Prod.mk.inj e2
    obtain ⟨v, G, e3, rp, sub⟩ := r.get e1
    obtain ⟨e4, y⟩ := y
    subst e4
    have := y vs (hl _ k)
    rw [e3] at this
    cases this
    subst e5
    have hd : imm d' = true := by
      rw [immAll_all] at hi
      exact List.all_eq_true.mp hi d' (List.mem_of_getElem? e1)
    subst e6
    exact ⟨Same.refl _, ((rp.same k).of_imm hd).2⟩
  stop := fun H2 k => ⟨vs, hl H2 k, by rw [List.length_map, r.len]; exact Nat.le_refl _⟩
theorem i_lstV (he : PEv X e fe) : PIvs X tg e (iLstV fe) := by
  refine imp_i (pi_list he) fun σ H R ⟨N, H0, ρ, L, W, items, sim, z, q⟩ => ?_
  unfold iLstV at z
  obtain ⟨x, e1, z⟩ := bind_some z
  refine one sim e1 fun v H1 F s1 n1 d1 p1 => ?_
  have new : ∀ a ∈ F, N a ∧ a ∉ W := fun a m => ⟨sim.nw a (n1 a m), fun w => sim.th a w (n1 a m)⟩
  have muW : ∀ b ∈ W, Mut (H1 b) := fun b z => mut_same (sim.mu b z) s1
  split at z
  · rename_i ds hd
    rw [hd] at p1
    split at z
    · rename_i hi
      cases z
      obtain ⟨a, vs, G, rfl, h1, h2, _⟩ := p1.lst_inv
      exact ⟨a, rfl, ⟨_, SqL.of h1⟩, q _ H1 s1 (yldS_imm (fun H2 k => SqL.of (k _ _ h1)) h2 hi)⟩
    · split at z
      · cases z
      · rename_i hv
        have hv : x.vw = false := by simpa using hv
        cases z
        have p2 := p1.give (S' := SR N W x.al false) (fun a z => ⟨z.1.1, fun _ => z.1.2 hv⟩) fun a m => ⟨.new (new a m).1, fun _ => (new a m).2⟩
        cases p2 with
        | nd0 hn h1 h2 h3 =>
          cases hn
          refine ⟨_, rfl, ⟨_, SqL.of h1.lst⟩, q _ H1 s1 (yld_list (fun H2 k => SqL.of (k _ _ h1.lst (h2.2 rfl))) muW h3).s⟩
  · rename_i ds hd
    rw [hd] at p1
    split at z
    · rename_i hi
      cases z
      obtain ⟨a, vs, rfl, h1, h2, _⟩ := p1.fl_inv
      refine ⟨a, rfl, ⟨_, h1.sq⟩, q _ H1 s1 (yldS_imm (fun H2 k => ?_) h2 hi)⟩
      rcases h1 with ⟨o, h1⟩ | h1
      · exact .inl (.inr ⟨o, k _ _ h1⟩)
      · exact .inr h1
    · split at z
      · cases z
      · rename_i hv
        have hv : x.vw = false := by simpa using hv
        cases z
        have p2 := p1.give (S' := SR N W x.al false) (fun a z => ⟨z.1.1, fun _ => z.1.2 hv⟩) fun a m => ⟨.new (new a m).1, fun _ => (new a m).2⟩
        obtain ⟨a, vs, rfl, h1, h2, _⟩ := p2.fl_inv
        refine ⟨a, rfl, ⟨_, h1.sq⟩, q _ H1 s1 (yld_list (fun H2 k => ?_) muW h2).s⟩
        rcases h1 with ⟨o, h1⟩ | h1
        · refine .inl (.inr ⟨o, k _ _ h1 fun w => ?_⟩)
          have := muW a w
          rw [h1] at this
          exact this
        · exact .inr h1
  · cases z

def iRng (lo : Int) (n : Nat) : List (D × Bool) := (List.range n).map fun (i : Nat) => (D.int (lo + (i : Int)), false)
theorem iRng_get {lo : Int} {n i : Nat} {d : D} {al : Bool} (h : (iRng lo n)[i]? = some (d, al)) : i < n ∧ d = .int (lo + (i : Int)) ∧ al = false := by
  unfold iRng at h
  rw [List.getElem?_map] at h
  obtain ⟨j, e1, e2⟩ := Option.map_eq_some_iff.mp h
  obtain ⟨h1, h2⟩ := List.getElem?_eq_some_iff.mp e1
  rw [List.getElem_range] at h2
  subst h2
  cases e2
  exact ⟨by simpa using h1, rfl, rfl⟩
theorem yld_rng {K : PySem.W.Frag} {N : Nw} {W : List Addr} {H1 : Hp} {lo : Int} {n : Nat} : Yld K N W H1 (Itr lo n) (iRng lo n) where
  go := fun i d al H2 e k => (iRng_get e).1
  yld := fun i d al H2 x H3 e k y => by
    obtain ⟨h1, rfl, rfl⟩ := iRng_get e
    obtain ⟨e1, e2⟩ := y
    subst e1 e2
    exact ⟨Same.refl _, .int⟩
  stop := fun H2 k => by
    show n ≤ (iRng lo n).length
    unfold iRng
    rw [List.length_map, List.length_range]
    exact Nat.le_refl _
def iRange (ga : EvA) : EvI := fun ρ => (ga ρ).bind fun (rs : List Rv) => match (rs.map Rv.d : List D) with
  | [.int j] => if -(2 ^ 62) ≤ j ∧ j < 2 ^ 62 then some (iRng 0 j.toNat) else none
  | [.int i, .int j] => if -(2 ^ 62) ≤ i ∧ i < 2 ^ 62 ∧ -(2 ^ 62) ≤ j ∧ j < 2 ^ 62 then some (iRng i (j - i).toNat) else none
  | _ => none
theorem RpL.ints {K : PySem.W.Frag} {N : Nw} {W T : List Addr} {H : Hp} : ∀ {vs : List V} {rs : List Rv} {F : List Addr} {ns : List Int}, RpL K N W T H vs rs F → rs.map (·.d) = ns.map .int → vs = ns.map V.int
  | _, _, _, [], .nil, _ => rfl
  | _, _, _, _ :: _, .nil, e => by cases e
  | _, _, _, [], .cons _ _, e => by cases e
  | _, _, _, n :: ns, .cons h1 h2, e => by
    have e := List.cons.inj e
    have e1 : _ = D.int n := e.1
    rw [show Rv.d _ = D.int n from e1] at h1
    rw [h1.int_inv.1, RpL.ints h2 e.2]
    rfl
theorem i_range1 {a : Expr} {ga : EvA} {p : Pos} (hm : X.mg "range" = none) (ha : PAv X [a] ga) (hl : ∀ ρ rs, ga ρ = some rs → rs.length = 1) (hg : Gl X "range" := by rfl) (hs : starEach [a] X.env = [(false, eval a X.env)] := by rfl) : PIv X tg (.Call (.Name "range" p) [a] [] pos) (iRange ga) := by
  refine imp_i (pi_range1 hg hm ha hs) fun σ H R ⟨N, H0, ρ, L, W, items, sim, z, q⟩ => ?_
  unfold iRange at z
  obtain ⟨rs, e1, z⟩ := bind_some z
  refine ⟨N, H0, ρ, L, W, rs, sim, e1, fun vs H1 T s1 n1 d1 p1 => ?_⟩
  split at z
  · rename_i j hd
    split at z
    · rename_i hc
      cases z
      have := p1.ints (ns := [j]) hd
      subst this
      exact ⟨j, rfl, hc.1, hc.2, q _ H1 s1 yld_rng⟩
    · cases z
  · rename_i i j hd
    have h1 := congrArg List.length hd
    rw [List.length_map, hl ρ rs e1] at h1
    cases h1
  · cases z
theorem i_range2 {a b : Expr} {ga : EvA} {p : Pos} (hm : X.mg "range" = none) (ha : PAv X [a, b] ga) (hl : ∀ ρ rs, ga ρ = some rs → rs.length = 2) (hg : Gl X "range" := by rfl) (hs : starEach [a, b] X.env = [(false, eval a X.env), (false, eval b X.env)] := by rfl) (hs2 : starEach [b] X.env = [(false, eval b X.env)] := by rfl) : PIv X tg (.Call (.Name "range" p) [a, b] [] pos) (iRange ga) := by
  refine imp_i (pi_range2 hg hm ha hs hs2) fun σ H R ⟨N, H0, ρ, L, W, items, sim, z, q⟩ => ?_
  unfold iRange at z
  obtain ⟨rs, e1, z⟩ := bind_some z
  have hl := hl ρ rs e1
  refine ⟨N, H0, ρ, L, W, rs, sim, e1, fun vs H1 T s1 n1 d1 p1 => ?_⟩
  split at z
  · rename_i j hd
    have := congrArg List.length hd
    rw [List.length_map, hl] at this
    cases this
  · rename_i i j hd
    split at z
    · rename_i hc
      cases z
      have := p1.ints (ns := [i, j]) hd
      subst this
      exact ⟨i, j, rfl, hc, q _ H1 s1 yld_rng⟩
    · cases z
  · cases z


def forL (t : Tg) (b : EvS) : List (D × Bool) → Env → Option Out
  | [], ρ => some (.nx ρ)
  | (d, al) :: r, ρ => (tgSet t d al ρ).bind fun ρ1 => (b ρ1).bind fun o => match o with
    | .nx ρ2 => forL t b r ρ2
    | .ct ρ2 => forL t b r ρ2
    | .bk ρ2 => some (.nx ρ2)
    | .rt ρ2 d l al => some (.rt ρ2 d l al)
def sFor (fz : List Nat) (it : EvI) (t : Tg) (b : EvS) : EvS := fun ρ => (it (frzs fz ρ)).bind fun items => forL t b items (frzs fz ρ)
theorem s_for (fz : List Nat) (hc : X.calm = true) (hi : PIv X tg e it) (hg : PGv X tg t) (hb : PSsv X body b) (hp : PassesOwn (model X.prog X.w) X.A X.env X.xe := by exact PassesOwn.never) (hs : ∀ x, foldedSetIterable e X.env x = pure x := by intro _; rfl) : PSv X (.For tg e body [] pos) (sFor fz it t b) := by
  refine imp_s (ps_for hp hc hi hg hb hs) fun D σ H ⟨N, H0, ρ, L0, o, sim0, z, q0⟩ => ?_
  unfold sFor at z
  obtain ⟨L, sim, subL⟩ := sim0.frzs fz
  have q := q0.at_ (H1 := H) (L1 := L) ⟨fun _ _ e _ => e, fun _ e => .inl e, fun b z => .inl (subL b z)⟩
  obtain ⟨items, e1, z⟩ := bind_some z
  refine ⟨N, H0, _, L, L, items, sim.h, e1, fun J H1 s1 Y => ?_⟩
  refine ⟨fun i m σ' H' => m = items.length - i ∧ i ≤ items.length ∧ ∃ ρ' L', Sim X.K N H0 ρ' σ' H' L' ∧ Frm H1 L H' L' ∧ forL t b (items.drop i) ρ' = some o ∧ PostS X.K N H0 H' L' o D,
    ⟨items.length, by simp, Nat.zero_le _, _, L, sim.same s1, Frm.refl _ _, by simpa using z, q.at_ (Frm.same s1 fun b z => .inl z)⟩, ?_⟩
  rintro i m σ' H' ⟨rfl, hi, ρ', L', sim', fr, zi, qi⟩
  have kept : Kept H1 L H' := fr.1
  by_cases hlt : i < items.length
  · obtain ⟨⟨d, al⟩, ei⟩ : ∃ x, items[i]? = some x := ⟨items[i], List.getElem?_eq_getElem hlt⟩
    have ed : items.drop i = (d, al) :: items.drop (i + 1) := by
      rw [List.drop_eq_getElem_cons hlt]
      have := List.getElem?_eq_getElem hlt
      rw [ei] at this
      rw [← Option.some.inj this]
    rw [ed] at zi
    unfold forL at zi
    obtain ⟨ρ1, et, zi⟩ := bind_some zi
    obtain ⟨ob, eb, zi⟩ := bind_some zi
    refine .inr ⟨Y.go i d al H' ei kept, fun σ'' H'' => ∃ m', m' < items.length - i ∧ (m' = items.length - (i + 1) ∧ i + 1 ≤ items.length ∧ ∃ ρ' L', Sim X.K N H0 ρ' σ'' H'' L' ∧ Frm H1 L H'' L' ∧ forL t b (items.drop (i + 1)) ρ' = some o ∧ PostS X.K N H0 H'' L' o D), fun _ _ h => h, fun x H3 y => ?_⟩
    obtain ⟨s3, r3⟩ := Y.yld i d al H' x H3 ei kept y
    have fr3 : Frm H' L' H3 L' := Frm.same s3 fun b z => .inl z
    refine ⟨N, H0, ρ', L', L', d, al, ρ1, (sim'.same s3).h, r3.mono fun a z => ⟨z.1.1, fun _ w => (fr.2.2 a w).elim (z.1.2 rfl) z.2⟩, et, fun σ2 L2 sim2 sub2 _ => ?_⟩
    have fr2 : Frm H' L' H3 L2 := Frm.same s3 fun b z => .inl (sub2 b z)
    refine ⟨N, H0, ρ1, L2, ob, sim2.sim, eb, ?_⟩
    have again : ∀ {ρ2 : Env}, forL t b (items.drop (i + 1)) ρ2 = some o → ∀ σ4 H4 L4, Sim X.K N H0 ρ2 σ4 H4 L4 → Frm H3 L2 H4 L4 → ∃ m', m' < items.length - i ∧ (m' = items.length - (i + 1) ∧ i + 1 ≤ items.length ∧ ∃ ρ' L', Sim X.K N H0 ρ' σ4 H4 L' ∧ Frm H1 L H4 L' ∧ forL t b (items.drop (i + 1)) ρ' = some o ∧ PostS X.K N H0 H4 L' o D) :=
      fun z4 σ4 H4 L4 sim4 fr4 => ⟨_, by omega, rfl, hlt, _, L4, sim4, fr.trans (fr2.trans fr4), z4, qi.at_ (fr2.trans fr4)⟩
    cases ob with
    | nx ρ2 => exact again zi
    | ct ρ2 => exact again zi
    | bk ρ2 => cases zi; exact fun σ4 H4 L4 sim4 fr4 => qi σ4 H4 L4 sim4 (fr2.trans fr4)
    | rt ρ2 d l al => cases zi; exact qi.at_ fr2
  · have ei : i = items.length := by omega
    subst ei
    rw [List.drop_length] at zi
    unfold forL at zi
    cases zi
    exact .inl ⟨Y.stop H' kept, qi σ' H' L' sim' (Frm.refl _ _)⟩


def whL (c : EvT) (b : EvS) : Nat → Env → Option Out
  | 0, _ => none
  | n + 1, ρ => (c ρ).bind fun k => if k = true then (b ρ).bind fun o => match o with
      | .nx ρ2 => whL c b n ρ2
      | .ct ρ2 => whL c b n ρ2
      | .bk ρ2 => some (.nx ρ2)
      | .rt ρ2 d l al => some (.rt ρ2 d l al)
    else some (.nx ρ)

def fuel : Nat := 10 ^ 9
def sWhile (c : EvT) (b : EvS) : EvS := whL c b fuel
theorem s_while {c : Expr} {gc : EvT} (ht : PTv X c gc) (hb : PSsv X body b) (hp : PassesOwn (model X.prog X.w) X.A X.env X.xe := by exact PassesOwn.never) : PSv X (.While c body [] pos) (sWhile gc b) := by
  refine imp_s (ps_while hp ht hb) fun D σ H ⟨N, H0, ρ, L, o, sim, z, q⟩ => ?_
  unfold sWhile at z
  refine ⟨fun m σ' H' => ∃ ρ' L', Sim X.K N H0 ρ' σ' H' L' ∧ whL gc b m ρ' = some o ∧ PostS X.K N H0 H' L' o D, ⟨fuel, ρ, L, sim, z, q⟩, ?_⟩
  rintro m σ' H' ⟨ρ', L', sim', zi, qi⟩
  cases m with
  | zero => cases zi
  | succ m =>
    unfold whL at zi
    obtain ⟨k, ek, zi⟩ := bind_some zi
    refine ⟨N, H0, ρ', L', L', k, sim'.h, ek, fun H1 s1 => ?_⟩
    have fr1 : Frm H' L' H1 L' := Frm.same s1 fun b z => .inl z
    cases k with
    | false => cases zi; exact iteF (qi σ' H1 L' (sim'.same s1) fr1)
    | true =>
      rw [if_pos rfl] at zi
      obtain ⟨ob, eb, zi⟩ := bind_some zi
      refine iteT ⟨fun σ'' H'' => ∃ m', m' < m + 1 ∧ ∃ ρ' L', Sim X.K N H0 ρ' σ'' H'' L' ∧ whL gc b m' ρ' = some o ∧ PostS X.K N H0 H'' L' o D, fun _ _ h => h, N, H0, ρ', L', ob, sim'.same s1, eb, ?_⟩
      cases ob with
      | nx ρ2 => exact fun σ4 H4 L4 sim4 fr4 => ⟨m, Nat.lt_succ_self m, ρ2, L4, sim4, zi, qi.at_ (fr1.trans fr4)⟩
      | ct ρ2 => exact fun σ4 H4 L4 sim4 fr4 => ⟨m, Nat.lt_succ_self m, ρ2, L4, sim4, zi, qi.at_ (fr1.trans fr4)⟩
      | bk ρ2 => cases zi; exact fun σ4 H4 L4 sim4 fr4 => qi σ4 H4 L4 sim4 (fr1.trans fr4)
      | rt ρ2 d l al => cases zi; exact qi.at_ fr1
end


def entry (m : Nat) (ds : List D) : Env := ds.map (fun d => some ⟨d, .shr, true, none⟩) ++ List.replicate (m - ds.length) none
def run (body : EvS) (m : Nat) (ds : List D) : Option RetD := (body (entry m ds)).bind fun o => match o with
  | .rt _ d l al => some (d, l, al)
  | .nx _ => some (.non, .full, false)
  | _ => none
theorem slots_none {K : PySem.W.Frag} {N : Nw} {L : List Addr} {H : Hp} : ∀ n : Nat, Slots K N L H (List.replicate n none) (List.replicate n none) []
  | 0 => .nil
  | n + 1 => .no (slots_none n)
theorem slots_args {K : PySem.W.Frag} {N : Nw} {L : List Addr} {H : Hp} {n : Nat} (hL : ∀ a, N.s a → a ∉ L) : ∀ {vs : List V} {ds : List D}, Rps K N.s H .shr vs ds [] → Slots K N L H (vs.map some ++ List.replicate n none) (ds.map (fun d => some ⟨d, .shr, true, none⟩) ++ List.replicate n none) []
  | vs, ds, h => by
    generalize hF : ([] : List Addr) = F at h
    cases h with
    | nil => exact slots_none n
    | cons h1 h2 =>
      have e1 := h1.shr0
      have e2 := h2.shr0
      subst e1 e2
      exact Slots.so (s := ⟨_, .shr, true, none⟩) (F := []) (G := []) (fun _ z => nomatch z) (h1.mono fun a z => ⟨⟨.inr z, (fun e => (nomatch e))⟩, fun _ => hL a z⟩) (slots_args hL h2)
theorem def_ok {P : Program} {w : World} {K : PySem.W.Frag} {mg : Str → Option Value} {base : Heap} {x qual : Str} {st : Stmt} {f : Addr} {fd : FuncData} {N ps : List Str} {k : Nat} {body : EvS} (F : Fun K x qual st f fd) (S : FnScope N ps (defScope st))
    (hb : ∀ (cdv : Value) (A : Around) (outer : List PySem.Env) (s : Shared) (H : Hp) (E : XK), Room k (A.deeper (envOfC qual (defScope st) s.heap.objs.size f cdv)) → PSsv (cxOf CX0 P w K mg base N qual (defScope st) f cdv A outer s H E).nox (defBody st) body) :
    FnOk P w K mg base CX0 (k + 1) f fd ps (spD K ps.length (run body N.length)) := by
  refine F.ok S (fun vs H Q E h => h.1) (fun cdv A outer s H vs Q E hr h => ?_)
  obtain ⟨hl, Sx, ds, r, rp, hrun, q⟩ := h
  refine ⟨_, hb cdv A outer s H E hr, ?_⟩
  unfold run at hrun
  obtain ⟨o, e1, hrun⟩ := bind_some hrun
  refine ⟨⟨fun a => H a = none, Sx, fun _ => 0⟩, H, entry N.length ds, [], o, ⟨fun b o e _ => e, fun b e => e, List.nodup_nil, (fun _ z => nomatch z), (fun _ z => nomatch z), ?_⟩, e1, ?_⟩
  · unfold entry L2.start
    rw [rp.len]
    exact slots_args (N := ⟨fun a => H a = none, Sx, fun _ => 0⟩) (L := []) (fun _ _ z => nomatch z) rp
  · cases o with
    | nx ρ =>
      cases hrun
      exact fun σ' H' L' sim fr => q .non H' [] (fun b o e => fr.1 b o e fun z => nomatch z) (fun _ z => nomatch z) .nil .non
    | rt ρ d l al =>
      cases hrun
      refine fun v σ' H' L' F sim _ rp => q v H' F (fun b o e => sim.kp b o e (fun z => by have z : H b = none := z; rw [e] at z; cases z)) (fun a z => sim.ln a (List.mem_append_right _ z)) (List.nodup_append.mp sim.nd).2.1 (rp.mono fun a z => ⟨?_, z.2.1⟩)
      cases al with
      | false => exact .inl (z.1.2 rfl)
      | true => exact z.1.1.imp id fun y => ⟨rfl, y⟩
    | bk ρ => cases hrun
    | ct ρ => cases hrun
end Ev

set_option Elab.async false
set_option linter.all false
set_option maxRecDepth 100000

namespace Ev
open PySem PySem.Spec L2
open PyProof.Rows hiding St

def lcL (t : Tg) (c : EvT) (e : EvE) (ρ : Env) : List (D × Bool) → Option (List Rv)
  | [] => some []
  | (d, al) :: r => (tgSet t d al ρ).bind fun ρ1 => (c ρ1).bind fun k => if k = true then (e ρ1).bind fun x => if x.vw = true then none else (lcL t c e ρ r).map (x :: ·) else lcL t c e ρ r
def mkBig (rs : List Rv) : Option Rv :=
  if rs.length ≤ 1000000 then some (if rs.all (fun r => !r.vw && decide (r.l = .full)) = true then ⟨.lst (rs.map (·.d)), .full, rs.any (·.al), false⟩ else ⟨.lst (rs.map (·.d)), .top, rs.any (·.al), false⟩) else none
def eLc (it : EvI) (vs : List Nat) (t : Tg) (c : EvT) (e : EvE) : EvE := fun ρ => (it ρ).bind fun items => (lcL t c e (wipeE vs ρ) items).bind mkBig
def tYes : EvT := fun _ => some true
section
variable {K : PySem.W.Frag} {N : Nw} {H0 H H' : Hp} {ρ : Env} {σ : St} {L W T : List Addr}
theorem SimH.wipe : ∀ (vs : List Nat), SimH K N H0 ρ σ H L W → ∃ L', SimH K N H0 (wipeE vs ρ) (L2.wipe σ vs) H L' W ∧ ∀ a ∈ L', a ∈ L
  | [], s => ⟨L, s, fun _ z => z⟩
  | i :: is, s => by
    obtain ⟨L1, s1, h1⟩ := SimH.wipe is s
    obtain ⟨L2, s2, h2⟩ := s1.drop1 i
    exact ⟨L2, s2, fun a z => h1 a (h2 a z)⟩

theorem SimH.put {a : Addr} {o : HO} (s : SimH K N H0 ρ σ H L W) (ha : a ∈ W) (hl : a ∉ L) (m : Mut (some o)) : SimH K N H0 ρ σ (upd H a o) L W where
  kp := fun b u e n => by rw [upd_ne (fun z => n (by rw [z]; exact s.ln a ha))]; exact s.kp b u e n
  nw := fun b e => by
    by_cases z : b = a
    · rw [z]; exact s.ln a ha
    · rw [upd_ne z] at e; exact s.nw b e
  nd := s.nd
  ln := s.ln
  mu := fun b hb => by
    by_cases z : b = a
    · rw [z, upd_same]; exact m
    · rw [upd_ne z]; exact s.mu b hb
  sl := s.sl.keep fun al => fun b u e q => by
    have : b ≠ a := fun z => by
      subst z
      rcases q with q | q | ⟨xs, rfl⟩ | ⟨o', u', rfl⟩
      · exact q.2 rfl ha
      · exact hl q
      · have := s.mu b ha; rw [e] at this; exact this
      · have := s.mu b ha; rw [e] at this; exact this
    rw [upd_ne this]
    exact e
  sub := s.sub
  ndl := s.ndl
theorem RpL.same (s : Same H H') : ∀ {vs : List V} {rs : List Rv} {F : List Addr}, RpL K N W T H vs rs F → RpL K N W T H' vs rs F
  | _, _, _, .nil => .nil
  | _, _, _, .cons h1 h2 => .cons (h1.same s) (RpL.same s h2)
theorem RpL.grow {W' T' : List Addr} (h : ∀ a, H a ≠ none → (a ∉ W → a ∉ W') ∧ (a ∉ T → a ∉ T')) : ∀ {vs : List V} {rs : List Rv} {F : List Addr}, RpL K N W T H vs rs F → RpL K N W' T' H vs rs F
  | _, _, _, .nil => .nil
  | _, _, _, .cons h1 h2 => .cons (h1.trk.mono fun a z => ⟨⟨z.1.1.1, fun e => (h a z.2).1 (z.1.1.2 e)⟩, fun e => (h a z.2).2 (z.1.2 e)⟩) (RpL.grow h h2)
theorem RpL.snoc {r : Rv} {v : V} {G : List Addr} (p : Rp K (fun a => SR N W r.al r.vw a ∧ (r.vw = false → a ∉ T)) H r.l v r.d G) : ∀ {vs : List V} {rs : List Rv} {F : List Addr}, RpL K N W T H vs rs F → RpL K N W T H (vs ++ [v]) (rs ++ [r]) (F ++ G)
  | _, _, _, .nil => by have := RpL.cons p .nil; rw [List.append_nil] at this; exact this
  | _, _, _, .cons h1 h2 => by rw [List.append_assoc]; exact .cons h1 (RpL.snoc p h2)
theorem RpL.put {a : Addr} {o : HO} (ha : a ∈ W) (m : Mut (H a)) : ∀ {vs : List V} {rs : List Rv} {F : List Addr}, RpL K N W T H vs rs F → (∀ r ∈ rs, r.vw = false) → a ∉ F → RpL K N W T (upd H a o) vs rs F
  | _, _, _, .nil, _, _ => .nil
  | _, _, _, .cons h1 h2, hv, hF => .cons (h1.keep fun b u e q => by
      have : b ≠ a := fun z => by
        subst z
        rcases q with q | q | ⟨xs, rfl⟩ | ⟨o', u', rfl⟩
        · exact q.1.2 (hv _ List.mem_cons_self) ha
        · exact hF (List.mem_append_left _ q)
        · rw [e] at m; exact m
        · rw [e] at m; exact m
      rw [upd_ne this]
      exact e) (RpL.put ha m h2 (fun r z => hv r (List.mem_cons_of_mem _ z)) fun z => hF (List.mem_append_right _ z))
end
theorem wipe_get {σ : St} : ∀ {vs : List Nat} {j : Nat}, j ∈ vs → j < σ.length → (L2.wipe σ vs)[j]? = some none
  | v :: vs, j, h, hl => by
    unfold L2.wipe
    by_cases e : v = j
    · subst e
      rw [List.getElem?_set_self (by rw [wipe_length]; exact hl)]
    · rw [List.getElem?_set_ne e]
      exact wipe_get ((List.mem_cons.mp h).elim (fun z => absurd z.symm e) id) hl
theorem wipe_eq {σ σ' : St} {vs js : List Nat} (t : Touch js (L2.wipe σ vs) σ') (h : ∀ j ∈ js, j ∈ vs) : L2.wipe σ' vs = L2.wipe σ vs := by
  apply List.ext_getElem?
  intro j
  have hlen : σ'.length = σ.length := t.1.trans (wipe_length σ vs)
  by_cases hj : j ∈ vs
  · by_cases hl : j < σ.length
    · rw [wipe_get hj hl, wipe_get hj (by rw [hlen]; exact hl)]
    · rw [List.getElem?_eq_none (by rw [wipe_length, hlen]; omega), List.getElem?_eq_none (by rw [wipe_length]; omega)]
  · rw [wipe_out hj, t.2 j (fun z => hj (h j z))]
section
variable {X : Cx}
theorem imp_ts {X : Cx} {e : List Expr} {t t' : TT} (h : PTs X e t) (i : ∀ σ H Q, t' σ H Q → t σ H Q) : PTs X e t' := ⟨fun p s σ H Q I w => h.run p s σ H Q I (i σ H Q w)⟩
abbrev PTsv (X : Cx) (ifs : List Expr) (c : EvT) : Prop := PTs X ifs (tT X.K c)
theorem ts_nil : PTsv X [] tYes := imp_ts pts_nil fun σ H Q ⟨N, H0, ρ, L, W, k, sim, z, q⟩ => by cases z; exact q H (Same.refl H)
theorem ts_one {c : Expr} {gc : EvT} (h : PTv X c gc) : PTsv X [c] gc := pts_one h
theorem lc_core {vs : List Nat} {t : Tg} {c : EvT} {e : EvE} (hv : (tgSlots t).all (fun j => decide (j ∈ vs)) = true) {N : Nw} {H0 : Hp} {ρ : Env} {L W : List Addr} {items : List (D × Bool)} {rs : List Rv} {r : Rv} {σ : St} {H H1 : Hp} {J : It} {Q : VK} (sim : SimH X.K N H0 ρ σ H L W) (e2 : lcL t c e (wipeE vs ρ) items = some rs) (z : mkBig rs = some r) (q : Post X.K N W H r Q) (s1 : Same H H1) (Y : YldS X.K N W H1 J items) : tLc (fun _ _ R => R J H1) (tG X.K t) (tT X.K c) (tE X.K e) vs σ H Q := by
  have hv : ∀ j ∈ tgSlots t, j ∈ vs := fun j z => of_decide_eq_true (List.all_eq_true.mp hv j z)
  unfold mkBig at z
  split at z
  · rename_i hlen
    refine fun A nA => ?_
    obtain ⟨Lw, simw, subw⟩ := (sim.same s1).wipe vs
    have nAW : A ∉ W := fun w => sim.th A w (s1.free nA)
    refine ⟨fun i m Hc => m = items.length - i ∧ i ≤ items.length ∧ ∃ (r1 r2 : List Rv) (acc : List V) (T : List Addr), Hc A = some (.lst acc) ∧ RpL X.K N (W ++ [A]) T Hc acc r1 T ∧ SimH X.K N H0 (wipeE vs ρ) (L2.wipe σ vs) Hc Lw ((W ++ [A]) ++ T) ∧
      lcL t c e (wipeE vs ρ) (items.drop i) = some r2 ∧ rs = r1 ++ r2 ∧ (∀ r ∈ r1, r.vw = false) ∧ Same H1 Hc ∧ (∀ a ∈ T, H1 a = none), ⟨items.length, by simp, Nat.zero_le _, [], rs, [], [], upd_same, .nil, ?_, by simpa using e2, rfl, (fun _ z => nomatch z), same_upd nA, fun _ z => nomatch z⟩, ?_⟩
    · rw [List.append_nil]
      exact simw.hold (same_upd nA) (fun a z => (List.mem_singleton.mp z) ▸ nA) nodup1 fun a z => by rw [List.mem_singleton.mp z, upd_same]; trivial
    · rintro i m Hc ⟨rfl, hi, r1, r2, acc, T, hA, rl, simc, el, er, hvw, sc, nT⟩
      have kept : Same H1 Hc := sc
      by_cases hlt : i < items.length
      · obtain ⟨⟨d, al⟩, ei⟩ : ∃ x, items[i]? = some x := ⟨items[i], List.getElem?_eq_getElem hlt⟩
        have ed : items.drop i = (d, al) :: items.drop (i + 1) := by
          rw [List.drop_eq_getElem_cons hlt]
          have := List.getElem?_eq_getElem hlt
          rw [ei] at this
          rw [← Option.some.inj this]
        rw [ed] at el
        unfold lcL at el
        obtain ⟨ρ1, et, el⟩ := bind_some el
        obtain ⟨k, ek, el⟩ := bind_some el
        refine .inr ⟨Y.go i d al Hc ei kept, fun Hn => ∃ m', m' < items.length - i ∧ (m' = items.length - (i + 1) ∧ i + 1 ≤ items.length ∧ ∃ (r1 r2 : List Rv) (acc : List V) (T : List Addr), Hn A = some (.lst acc) ∧ RpL X.K N (W ++ [A]) T Hn acc r1 T ∧ SimH X.K N H0 (wipeE vs ρ) (L2.wipe σ vs) Hn Lw ((W ++ [A]) ++ T) ∧
          lcL t c e (wipeE vs ρ) (items.drop (i + 1)) = some r2 ∧ rs = r1 ++ r2 ∧ (∀ r ∈ r1, r.vw = false) ∧ Same H1 Hn ∧ (∀ a ∈ T, H1 a = none)), fun _ h => h, fun x H3 y => ?_⟩
        obtain ⟨s3, r3⟩ := Y.yld i d al Hc x H3 ei kept y
        have r4 : Rp X.K (SR N ((W ++ [A]) ++ T) al false) H3 .shr x d [] := by
          refine r3.mono fun a z => ⟨z.1.1, fun _ w => ?_⟩
          rcases List.mem_append.mp w with w | w
          · rcases List.mem_append.mp w with w | w
            · exact z.1.2 rfl w
            · exact z.2 (List.mem_singleton.mp w ▸ nA)
          · exact z.2 (nT a w)
        refine ⟨N, H0, wipeE vs ρ, Lw, (W ++ [A]) ++ T, d, al, ρ1, simc.same s3, r4, et, fun σ2 L2 sim2 sub2 tch => ?_⟩
        refine ⟨wipe_eq tch hv, N, H0, ρ1, L2, _, k, sim2, ek, fun H4 s4 => ?_⟩
        have s34 := s3.trans s4
        cases k with
        | false =>
          refine iteF ⟨_, by omega, rfl, hlt, r1, r2, acc, T, s34 A _ hA, rl.same s34, simc.same s34, by simpa using el, er, hvw, sc.trans s34, nT⟩
        | true =>
          rw [if_pos rfl] at el
          obtain ⟨x', ee, el⟩ := bind_some el
          split at el
          · cases el
          · rename_i hx
            have hx : x'.vw = false := by simpa using hx
            obtain ⟨r2', el2, e2'⟩ := Option.map_eq_some_iff.mp el
            subst e2'
            refine iteT ⟨N, H0, ρ1, L2, _, x', sim2.same s4, ee, fun v H5 F s5 n5 d5 p5 => ?_⟩
            have s35 := s34.trans s5
            have hA5 := s35 A _ hA
            have nF : ∀ a ∈ F, Hc a = none := fun a z => s34.free (n5 a z)
            have AF : A ∉ F := fun z => by have := nF A z; rw [hA] at this; cases this
            refine ⟨acc, hA5, ?_, _, by omega, rfl, hlt, r1 ++ [x'], r2', acc ++ [v], T ++ F, upd_same, ?_, ?_, el2, by rw [er, List.append_assoc]; rfl, fun r z => (List.mem_append.mp z).elim (hvw r) fun z => List.mem_singleton.mp z ▸ hx, fun b o e => ?_, fun a z => (List.mem_append.mp z).elim (nT a) fun z => sc.free (nF a z)⟩
            · have h1 := rl.len
              have h2 : r1.length ≤ rs.length := by rw [er, List.length_append]; omega
              have := sizeLine_eq
              omega
            · refine RpL.put (by simp) (by rw [hA5]; trivial) (RpL.snoc ?_ ((rl.grow (fun a t => ⟨id, fun z w => (List.mem_append.mp w).elim z fun w => t (nF a w)⟩)).same s35)) (fun r z => (List.mem_append.mp z).elim (hvw r) fun z => List.mem_singleton.mp z ▸ hx) fun z => (List.mem_append.mp z).elim (fun z => by have := nT A z; have := sc.free (H' := Hc) (l := A); exact absurd (rl.own_trk A z) (fun t => by
                  have hnd := simc.nd
                  rw [List.nodup_append] at hnd
                  exact hnd.2.2 A (by simp) A z rfl)) AF
              exact p5.mono fun a z => ⟨⟨z.1.1, fun e w => z.1.2 e (List.mem_append_left _ w)⟩, fun e w => (List.mem_append.mp w).elim (fun w => z.1.2 e (List.mem_append_right _ w)) z.2⟩
            · have := (simc.hold s35 nF d5 p5.own_mut)
              rw [List.append_assoc] at this
              exact this.put (by simp) (fun z => nAW (sim.sub A (subw A z))) trivial
            · have hb : b ≠ A := fun z => by rw [z, nA] at e; cases e
              rw [upd_ne hb]
              exact s35 b o (sc b o e)
      · have ei : i = items.length := by omega
        subst ei
        rw [List.drop_length] at el
        unfold lcL at el
        cases el
        rw [List.append_nil] at er
        subst er
        refine .inl ⟨Y.stop Hc kept, ?_⟩
        have hnd := simc.nd
        rw [List.nodup_append] at hnd
        have AT : A ∉ T := fun z => hnd.2.2 A (by simp) A z rfl
        have newT : ∀ a ∈ T, H a = none := fun a z => s1.free (nT a z)
        split at z
        · rename_i hf
          cases z
          refine q _ Hc (A :: T) (s1.trans sc) (fun a z => (List.mem_cons.mp z).elim (fun e => e ▸ s1.free nA) (newT a)) (List.nodup_cons.mpr ⟨AT, hnd.2.1⟩) (.nd1 (fun z => nomatch z) .lst hA ?_)
          exact (rl.full hf al_any).mono fun a z => ⟨⟨z.1.1, fun e w => z.1.2 e (List.mem_append_left _ w)⟩, fun w => (List.mem_cons.mp w).elim (fun e => z.1.2 rfl (by rw [e]; simp)) z.2⟩
        · cases z
          refine q _ Hc [A] (s1.trans sc) (fun a z => List.mem_singleton.mp z ▸ s1.free nA) nodup1 (.nd1 (fun z => nomatch z) .lst hA ?_)
          exact (rl.give (fun a z => ⟨sim.nw a (newT a z), fun w => hnd.2.2 a w a z rfl⟩) (fun _ z => z) (List.all_eq_true.mpr fun r z => by rw [hvw r z]; rfl) al_any).mono fun a z => ⟨⟨z.1, fun e w => z.2 e (List.mem_append_left _ w)⟩, fun w => z.2 rfl (List.mem_append_right _ w)⟩
  · cases z
theorem lc_read {it : EvI} {vs : List Nat} {t : Tg} {c : EvT} {e : EvE} (hv : (tgSlots t).all (fun j => decide (j ∈ vs)) = true) {σ : St} {H : Hp} {Q : VK} (h : tE X.K (eLc it vs t c e) σ H Q) : tLc (tIs X.K it) (tG X.K t) (tT X.K c) (tE X.K e) vs σ H Q := by
  obtain ⟨N, H0, ρ, L, W, r, sim, z, q⟩ := h
  unfold eLc at z
  obtain ⟨items, e1, z⟩ := bind_some z
  obtain ⟨rs, e2, z⟩ := bind_some z
  exact ⟨N, H0, ρ, L, W, items, sim, e1, fun J H1 s1 Y => lc_core hv sim e2 z q s1 Y⟩
variable {elt tg iter : Expr} {ifs : List Expr} {scope : Scope} {own : List (Str × Nat)} {pos pos' spos py : Pos} {it : EvI} {t : Tg} {c : EvT} {fe : EvE}
theorem e_lc (own : List (Str × Nat)) (hc : X.calm = true) (hN : X.N.Nodup) (hi : PIvs X tg iter it) (ok : BlkOk X.N X.env.scope scope own)
    (hg : ∀ (s : Shared) (H : Hp) (C : Addr) (cl : List (Str × Addr)) (fp : List Addr), PGv (X.blk s H scope (compEnvC scope cl C X.env) fp) tg t) (ht : ∀ (s : Shared) (H : Hp) (C : Addr) (cl : List (Str × Addr)) (fp : List Addr), PTsv (X.blk s H scope (compEnvC scope cl C X.env) fp) ifs c)
    (he : ∀ (s : Shared) (H : Hp) (C : Addr) (cl : List (Str × Addr)) (fp : List Addr), PEv (X.blk s H scope (compEnvC scope cl C X.env) fp) elt fe) (hv : (tgSlots t).all (fun j => decide (j ∈ own.map (·.2))) = true := by rfl) (hs : ∀ x, foldedSetIterable iter X.env x = pure x := by intro _; rfl) :
    PEv X (.ListComp elt [⟨tg, iter, ifs, 0⟩] scope pos) (eLc it (own.map (·.2)) t c fe) :=
  imp_e (pe_lc hc hN hi ok hg ht he hs) fun σ H Q h => lc_read hv h

theorem s_setLc (i : Nat) (own : List (Str × Nat)) {y : Str} (hc : X.calm = true) (hN : X.N.Nodup) (hi : PIvs X tg iter it) (ok : BlkOk X.N X.env.scope scope own)
    (hg : ∀ (s : Shared) (H : Hp) (C : Addr) (cl : List (Str × Addr)) (fp : List Addr), PGv (X.blk s H scope (compEnvC scope cl C X.env) fp) tg t) (ht : ∀ (s : Shared) (H : Hp) (C : Addr) (cl : List (Str × Addr)) (fp : List Addr), PTsv (X.blk s H scope (compEnvC scope cl C X.env) fp) ifs c)
    (he : ∀ (s : Shared) (H : Hp) (C : Addr) (cl : List (Str × Addr)) (fp : List Addr), PEv (X.blk s H scope (compEnvC scope cl C X.env) fp) elt fe)
    (hsw : swapsWith (.ListComp elt [⟨tg, iter, ifs, 0⟩] scope pos) (some (.Name y py)) spos.line X.env = pure true) (hy : X.N[i]? = some y := by rfl) (hyl : X.env.scope.names.lookup y = some .local := by rfl)
    (hv : (tgSlots t).all (fun j => decide (j ∈ own.map (·.2))) = true := by rfl) (hs : ∀ x, foldedSetIterable iter X.env x = pure x := by intro _; rfl) :
    PSv X (.Assign [.Name y py] (.ListComp elt [⟨tg, iter, ifs, 0⟩] scope pos) spos) (sSet [] i (eLc it (own.map (·.2)) t c fe)) := by
  refine imp_s (ps_setLc (wi := tIs X.K it) (g := tG X.K t) (tt := tT X.K c) (te := tE X.K fe) hc hN hy hyl hsw hi ok hg ht he hs) fun D σ H ⟨N, H0, ρ, L, o, sim, z, q⟩ => ?_
  unfold sSet at z
  obtain ⟨r, e1, z⟩ := bind_some z
  split at z
  · rename_i hc
    rw [Bool.and_eq_true, decide_eq_true_eq] at hc
    cases z
    refine lc_read (X := X) hv ?_
    refine one sim.h e1 fun v H1 F s1 n1 d1 p1 => ?_
    have hv : r.vw = false := by simpa using hc.1
    obtain ⟨L2, sim2, sub2⟩ := sim.set (r := ⟨r.d, r.l, r.al, none⟩) (fun _ z => nomatch z) s1 n1 d1 (p1.mono fun a z => ⟨⟨z.1.1, fun _ => z.1.2 hv⟩, z.2⟩) hc.2
    exact q _ H1 L2 sim2 (Frm.same s1 fun b z => (sub2 b z).imp id (n1 b))
  · cases z
end
end Ev

set_option Elab.async false
set_option linter.all false
set_option maxRecDepth 100000
set_option maxHeartbeats 4000000

namespace EvS
open PySem PySem.Spec L2
open PyProof.Rows hiding St
open SrtO (Srtd Stb Swo)

theorem lt_irr : ∀ ns : List Int, HT.lexLt ns ns = false
  | [] => rfl
  | n :: ns => by rw [HT.lexLt_cons, if_pos rfl]; exact lt_irr ns
theorem lt_asym : ∀ (a b : List Int), HT.lexLt a b = true → HT.lexLt b a = false
  | [], [], h => by cases h
  | [], _ :: _, _ => rfl
  | _ :: _, [], h => by cases h
  | x :: a, y :: b, h => by
    rw [HT.lexLt_cons] at h ⊢
    by_cases e : x = y
    · rw [if_pos e] at h
      rw [if_pos e.symm]
      exact lt_asym a b h
    · rw [if_neg e] at h
      rw [if_neg (fun z => e z.symm)]
      have := of_decide_eq_true h
      exact decide_eq_false (by omega)
theorem lt_neg_trans : ∀ (a b c : List Int), HT.lexLt a b = false → HT.lexLt b c = false → HT.lexLt a c = false
  | [], [], _, _, h => h
  | [], _ :: _, _, h, _ => by cases h
  | _ :: _, [], [], _, _ => rfl
  | _ :: _, [], _ :: _, _, h => by cases h
  | _ :: _, _ :: _, [], _, _ => rfl
  | x :: a, y :: b, z :: c, h1, h2 => by
    rw [HT.lexLt_cons] at h1 h2 ⊢
    by_cases e : x = y
    · rw [if_pos e] at h1
      by_cases e2 : y = z
      · rw [if_pos e2] at h2
        rw [if_pos (e.trans e2)]
        exact lt_neg_trans a b c h1 h2
      · rw [if_neg e2] at h2
        rw [if_neg (by rw [e]; exact e2), e]
        exact h2
    · rw [if_neg e] at h1
      have g1 := of_decide_eq_false h1
      by_cases e2 : y = z
      · rw [← e2, if_neg e]
        exact h1
      · rw [if_neg e2] at h2
        have g2 := of_decide_eq_false h2
        rw [if_neg (by omega)]
        exact decide_eq_false (by omega)
theorem swo_lex {α : Type} (k : α → List Int) : Swo fun v u => HT.lexLt (k v) (k u) :=
  ⟨fun x y h => lt_asym _ _ h, fun x y z h1 h2 => lt_neg_trans _ _ _ h2 h1⟩
section
variable {prog : Program} {w : World} {A : Around} {E : Value → Shared → Prop} {s : Shared} {Q : Bool → Shared → Prop}
theorem oneLt_i (c : Bool) {p q : Int} {t u : Tok} (h : Q (decide (p < q)) s) : wpAny (model prog w) A (oneLt' c (.int p t) (.int q u)) Q E s := by
  cases c with
  | true => exact oneLt_int h
  | false => exact PySem.W.kat_one _ _ (PyProof.Rows.lt_int (Q := PySem.W.BoolBack Q) h)
theorem lexL_ints {b : Bool} {xs ys : List Value} {ns ms : List Int} (i : Nat) (hx : IntsAre xs ns) (hy : IntsAre ys ms) (hl : ns.length = ms.length)
    (h : Q (HT.lexLt ns ms) s) : PySem.W.KatLex prog w A b false Q (xs.zip ys) i s := by
  induction hx generalizing ys ms i with
  | nil =>
    cases hy with
    | nil => exact PySem.W.kat_nil h
    | cons q u hy => simp at hl
  | @cons p t xs ns hx ih =>
    cases hy with
    | nil => simp at hl
    | @cons q u ys ms hy =>
      have hl' : ns.length = ms.length := by simpa using hl
      show PySem.W.KatLex prog w A b false Q ((Value.int p t, Value.int q u) :: xs.zip ys) i s
      refine PySem.W.kat_cons (wpAny_eqBool_int ?_)
      rw [HT.lexLt_cons] at h
      by_cases e : p = q
      · subst e
        rw [if_pos rfl] at h
        rw [beq_self_eq_true]
        refine PySem.W.kat_yes ?_
        first
          | exact ih (i + 1) hy hl' h
          | exact ih _ _ (i + 1) hy hl' h
      · rw [if_neg e] at h
        rw [show (p == q) = false from beq_eq_false_iff_ne.mpr e]
        exact PySem.W.kat_no (oneLt_i _ h)

def Tups (h : Heap) (d : Nat) (vs : List Value) (k : Value → List Int) : Prop := ∀ v ∈ vs, TS.TupInts h v (k v) ∧ (k v).length = d
theorem Tups.keeps {h h' : Heap} {d : Nat} {vs : List Value} {k : Value → List Int} (x : Tups h d vs k) (kp : ∀ b o, h.get? b = some o → o.cls = .type "tuple" → h'.get? b = some o) : Tups h' d vs k := fun v hv =>
  ⟨(x v hv).1.keeps kp, (x v hv).2⟩
theorem firsts {h : Heap} {d : Nat} {k : Value → List Int} (hd : 1 ≤ d) : ∀ vs : List Value, Tups h d vs k → ∃ fs, PySem.W.KatTups h vs fs ∧ fs.length = vs.length ∧ ∀ f, f ∈ fs → ∃ n t, f = Value.int n t
  | [], _ => ⟨[], PySem.W.KatTups.nil, rfl, fun f hf => by simp at hf⟩
  | v :: vs, x => by
    obtain ⟨fs, kt, hl, hi⟩ := firsts hd vs fun u hu => x u (List.mem_cons_of_mem _ hu)
    obtain ⟨⟨a, xs, e1, ⟨o, ho, hc, n, hdt⟩, i⟩, hn⟩ := x v (List.mem_cons_self ..)
    subst e1
    obtain ⟨y, ys, e⟩ : ∃ y ys, xs.toList = y :: ys := by
      cases q : xs.toList with
      | nil =>
        rw [q] at i
        have l := i.length
        rw [List.length_nil, hn] at l
        omega
      | cons y ys => exact ⟨y, ys, rfl⟩
    obtain ⟨m, t, hy⟩ := i.all y (by rw [e]; exact List.mem_cons_self ..)
    refine ⟨y :: fs, PySem.W.KatTups.cons ho hc hdt ?_ kt, by simp [hl], ?_⟩
    · have z := congrArg (fun l : List Value => l[0]?) e
      simpa using z
    · intro f hf
      rcases List.mem_cons.mp hf with rfl | hf
      · exact ⟨m, t, hy⟩
      · exact hi f hf
theorem tup_cmp {d : Nat} {vs : List Value} {k : Value → List Int} (hp : Tups s.heap d vs k) : SrtO.Cmp prog w A s (tuples' true) (fun p => p.1 ∈ vs) (SrtO.lt2 fun v u => HT.lexLt (k v) (k u)) := by
  intro p q hm hm'
  obtain ⟨⟨a, xs, e1, ⟨o, ho, hc, n, hdt⟩, i⟩, l1⟩ := hp _ hm
  obtain ⟨⟨a', ys, e2, ⟨o', ho', hc', n', hdt'⟩, i'⟩, l2⟩ := hp _ hm'
  show wpAny (model prog w) A (keyLt' (tuples' true) p.1 q.1) (fun r s' => s' = s ∧ r = HT.lexLt (k p.1) (k q.1)) (fun _ _ => False) s
  rw [e1] at i l1 ⊢
  rw [e2] at i' l2 ⊢
  refine PySem.W.kat_lt ho hdt ho' hdt' ?_
  have ez : decide (xs.size < ys.size) = false := by
    have z1 := i.length
    have z2 := i'.length
    rw [Array.length_toList] at z1 z2
    exact decide_eq_false (by omega)
  rw [ez]
  exact lexL_ints 0 i i' (by omega) ⟨rfl, rfl⟩
theorem tups_sortableO {d : Nat} (hd : 1 ≤ d) {a : Addr} {vs : List Value} {k : Value → List Int} (h0 : 0 < vs.length) (hp : Tups s.heap d vs k) (ha : ∀ o, s.heap.get? a = some o → o.cls ≠ .type "tuple") : SrtO.SortableO prog w A s a vs fun v u => HT.lexLt (k v) (k u) := by
  intro h' keep
  have hp' : Tups h' d vs k := hp.keeps fun b o e c => keep b o (fun z => by subst z; exact ha o e c) e
  obtain ⟨fs, h1, h2, h3⟩ := firsts hd vs hp'
  refine ⟨tuples' true, fun Q E hq => ?_, tup_cmp (s := { s with heap := h' }) hp'⟩
  refine PySem.W.kat_kind (T := .type "int") h1 (by omega) (fun f hm => ?_) (by rfl) ?_
  · obtain ⟨x, t, rfl⟩ := h3 f hm
    exact PySem.W.Looks.now
  · have e : (Value.type "int" != Value.type "tuple") = true := by first | decide +kernel | rfl | decide
    rw [e]
    exact hq
theorem sorted_tupsO {d : Nat} (hd : 1 ≤ d) {l : Addr} {vs : List Value} {k : Value → List Int} {Q : Value → Shared → Prop} (hl : s.heap.IsList l vs.toArray) (hz : vs.length ≤ sizeLine) (hp : Tups s.heap d vs k)
    (h : ∀ (h' : Heap) (d : Addr) (out : List Value), Srtd (fun v u => HT.lexLt (k v) (k u)) out → Stb (fun v u => HT.lexLt (k v) (k u)) out vs → (∀ b o, s.heap.get? b = some o → h'.get? b = some o) → s.heap.objs.size ≤ d → (∃ n, h'.get? d = some (seqObj "list" out.toArray n)) → Q (.ref d) { s with heap := h' }) :
    wpAny (model prog w) A (call (.builtin "sorted") [.ref l]) Q E s := by
  refine SrtO.sorted_ord (swo_lex k) hl hz (fun h2 h₁ a ha kk => ?_) fun out hs hb => ?_
  · refine tups_sortableO (s := { s with heap := h₁ }) hd (by omega) (hp.keeps fun b o e _ => (kk b o e).2) fun o e => ?_
    have e' : some o = some (seqObj "list" vs.toArray 0) := e.symm.trans ha
    cases e'
    intro c
    exact absurd (Value.type.inj c) (by decide)
  · exact h _ _ out hs hb (fun b o e => PyProof.Rows.sortedAll_old e) (Nat.le_succ _) (PyProof.Rows.sortedAll_at s.heap vs out.toArray)
end

def rSortedL (K : PySem.W.Frag) : List V → Hp → VK → Prop := fun vs H Q => ∃ (a : Addr) (xs : List V) (k : V → List Int) (d : Nat), 1 ≤ d ∧ vs = [V.ref a] ∧ SqL K H a xs ∧ (∀ x ∈ xs, ∃ t, x = V.ref t ∧ H t = some (.tup ((k x).map V.int)) ∧ (k x).length = d) ∧
  ∀ ys p, Srtd (fun x y => HT.lexLt (k x) (k y)) ys → Stb (fun x y => HT.lexLt (k x) (k y)) ys xs → H p = none → Q (.ref p) (upd H p (.lst ys))
theorem cr_sortedL {X : Cx} : CallR X (.builtin "sorted") (rSortedL X.K) := by
  intro pins s σ H vs us Q I r h
  obtain ⟨a, xs, k, d, hd, rfl, hs, hx, q⟩ := h
  obtain ⟨its, rv, hl, hz⟩ := I.list hs
  obtain ⟨u, rfl, ru⟩ := vals1 r
  obtain rfl : u = Value.ref a := ru
  obtain ⟨e1, e2⟩ := refs_back rv fun x m => by
    obtain ⟨t, e, _⟩ := hx x m
    exact ⟨t, e⟩
  refine sorted_tupsO (k := fun u => k (backV u)) hd hl.isList (by rw [← rv.length]; exact hz) (fun v hv => ?_) fun h' d out h1 h2 kp hd hn => ?_
  · obtain ⟨t, rfl⟩ := e2 v hv
    have hm : V.ref t ∈ xs := by rw [e1]; exact List.mem_map.mpr ⟨_, hv, rfl⟩
    obtain ⟨t', e, ht, hlen⟩ := hx _ hm
    cases e
    obtain ⟨_, its2, r2, o, ho, hc, n, hdt⟩ := I.hok _ _ ht
    exact ⟨⟨t, its2.toArray, rfl, ⟨o, ho, hc, n, hdt⟩, Vals.ints r2⟩, hlen⟩
  · have h3 : ∀ u ∈ out, ∃ a, u = Value.ref a := fun u hu => e2 u (h2.perm.mem_iff.mp hu)
    obtain ⟨n, hn⟩ := hn
    have hb : Stb (fun x y => HT.lexLt (k x) (k y)) (out.map backV) xs := by
      rw [e1]
      exact SrtO.Stb.map (swo_lex k) backV h2
    refine ⟨.ref d, upd H d (.lst (out.map backV)), I.laid (t' := s.toks) kp hd ⟨?_, out, n, vals_back h3, hn⟩, rfl, q _ d (SrtO.srtd_map h1) hb (I.hok.fresh hd)⟩
    rw [hb.len]
    exact hz
end EvS

set_option Elab.async false
set_option linter.all false
set_option maxRecDepth 100000

namespace Ev
open PySem PySem.Spec L2
open PyProof.Rows hiding St


def whole : D → Bool
  | .lst ds => immAll ds
  | _ => false
def res (al vw : Bool) (z : Ret) : Rv := if imm z.1 = true then rA z.1 else if (whole z.1 && decide (z.2 = .top)) = true then ⟨z.1, .full, false, false⟩ else ⟨z.1, z.2, al, vw⟩
section
variable {K : PySem.W.Frag} {S : Addr → Prop} {N : Nw} {W : List Addr} {H H1 : Hp} {F : List Addr} {v : V} {Q : VK}
theorem Rp.whole {d : D} (r : Rp K S H .top v d F) (h : whole d = true) : ∀ S', Rp K S' H .full v d F := fun S' => by
  cases r with
  | nd1 h0 hn h1 h2 =>
    cases hn with
    | lst =>
      have e := h2.shr0
      subst e
      exact .nd1 (fun z => nomatch z) .lst h1 (h2.of_imm (by simpa only [Ev.whole] using h)).2
    | _ => cases h
  | fl => cases h
  | _ => cases h
theorem Post.res {z : Ret} {al vw : Bool} (q : Post K N W H (res al vw z) Q) (s : Same H H1) (new : ∀ a ∈ F, H a = none) (nd : F.Nodup) (hS : ∀ a, S a → SR N W al vw a) (rp : Rp K (fun a => S a ∧ a ∉ F) H1 z.2 v z.1 F) : Q v H1 := by
  unfold Ev.res at q
  split at q
  · rename_i hi
    exact q.atom s fun S => (rp.of_imm hi).2
  · split at q
    · rename_i hw
      rw [Bool.and_eq_true, decide_eq_true_eq] at hw
      rw [hw.2] at rp
      exact q v H1 F s new nd (rp.whole hw.1 _)
    · exact q v H1 F s new nd (rp.mono fun a z => ⟨hS a z.1, z.2⟩)
end

def Made (K : PySem.W.Frag) (S : Addr → Prop) (H : Hp) (z : Ret) (Q : VK) : Prop := ∀ v H' F, Same H H' → (∀ a ∈ F, H a = none) → F.Nodup → Rp K (fun a => S a ∧ a ∉ F) H' z.2 v z.1 F → Q v H'
def CallOk (X : Cx) (f : Value) (g : List D → Option Ret) : Prop :=
  ∃ r : List V → Hp → VK → Prop, CallR X f r ∧ ∀ (S : Addr → Prop) (H : Hp) (vs : List V) (ds : List D) (z : Ret) (Q : VK), Rps X.K S H .shr vs ds [] → g ds = some z → Made X.K S H z Q → r vs H Q
theorem CallOk.or {X : Cx} {f : Value} {g g' : List D → Option Ret} (h : CallOk X f g) (h' : CallOk X f g') : CallOk X f (fun ds => (g ds).or (g' ds)) := by
  obtain ⟨r, ho, hr⟩ := h
  obtain ⟨r', ho', hr'⟩ := h'
  refine ⟨_, ho.or ho', fun S H vs ds z Q p e q => ?_⟩
  have e : (g ds).or (g' ds) = some z := e
  cases hg : g ds with
  | some k =>
    rw [hg] at e
    cases e
    exact .inl (hr S H vs ds _ Q p hg q)
  | none =>
    rw [hg] at e
    exact .inr (hr' S H vs ds _ Q p e q)
def eBi (g : List D → Option Ret) (ga : EvA) : EvE := fun ρ => (ga ρ).bind fun rs => (g (rs.map (·.d))).map (res (rs.any (·.al)) (rs.any (·.vw)))
section
variable {X : Cx} {e : Expr} {es : List Expr} {ga : EvA} {fe fa fb : EvE} {p pos : Pos} {x : Str} {id T : String} {g : List D → Option Ret}
theorem bi_read {r : List V → Hp → VK → Prop} (hr : ∀ (S : Addr → Prop) (H : Hp) (vs : List V) (ds : List D) (z : Ret) (Q : VK), Rps X.K S H .shr vs ds [] → g ds = some z → Made X.K S H z Q → r vs H Q) {σ : St} {H : Hp} {Q : VK} (h : tE X.K (eBi g ga) σ H Q) : tA X.K ga σ H fun vs H1 => r vs H1 Q := by
  obtain ⟨N, H0, ρ, L, W, rr, sim, z, q⟩ := h
  unfold eBi at z
  obtain ⟨rs, e1, z⟩ := bind_some z
  obtain ⟨z', e2, z⟩ := Option.map_eq_some_iff.mp z
  subst z
  refine ⟨N, H0, ρ, L, W, rs, sim, e1, fun vs H1 T' s1 n1 d1 p1 => ?_⟩
  have hT : ∀ a ∈ T', N a ∧ a ∉ W := fun a m => ⟨sim.nw a (n1 a m), fun w => sim.th a w (n1 a m)⟩
  exact hr _ H1 vs _ z' Q (p1.give' hT (fun _ m => m) (fun r h => any_of (p := fun r : Rv => r.al) r h) (fun r h => any_of (p := fun r : Rv => r.vw) r h)) e2 fun v H2 F s2 n2 d2 p2 => q.res (s1.trans s2) (fun a m => s1.free (n2 a m)) d2 (fun a z => z) p2
theorem e_bi (ho : CallOk X (.builtin id) g) (hm : X.mg x = none) (hv : bootBuiltins x = some (.builtin id)) (ha : PAv X (e :: es) ga) (hg : Gl X x := by rfl) (hn : x ≠ "__name__" := by decide) (hdb : (x == ("__debug__" : Str)) = false := by decide)
    (he : starEach (e :: es) X.env = (false, eval e X.env) :: starEach es X.env := by rfl) (hpl : (backTo pos (starEach es X.env)).any (·.1) = false := by rfl) : PEv X (.Call (.Name x p) (e :: es) [] pos) (eBi g ga) := by
  obtain ⟨r, ho, hr⟩ := ho
  exact imp_e (pe_callB ho hg hm hv ha hn hdb he hpl) fun σ H Q h => bi_read hr h
theorem e_ty (ho : CallOk X (.type T) g) (hm : X.mg x = none) (hv : bootBuiltins x = some (.type T)) (ha : PAv X (e :: es) ga) (hg : Gl X x := by rfl) (hn : x ≠ "__name__" := by decide) (hdb : (x == ("__debug__" : Str)) = false := by decide)
    (he : starEach (e :: es) X.env = (false, eval e X.env) :: starEach es X.env := by rfl) (hpl : (backTo pos (starEach es X.env)).any (·.1) = false := by rfl) : PEv X (.Call (.Name x p) (e :: es) [] pos) (eBi g ga) := by
  obtain ⟨r, ho, hr⟩ := ho
  exact imp_e (pe_callTy ho hg hm hv ha hn hdb he hpl) fun σ H Q h => bi_read hr h
end
theorem Made.atom {K : PySem.W.Frag} {S : Addr → Prop} {H : Hp} {d : D} {l : Lv} {v : V} {Q : VK} (q : Made K S H (d, l) Q) (r : ∀ S, Rp K S H l v d []) : Q v H := q v H [] (Same.refl H) (fun _ z => nomatch z) .nil (r _)
theorem Made.lst {K : PySem.W.Frag} {S : Addr → Prop} {H : Hp} {ds : List D} {vs : List V} {Q : VK} (q : Made K S H (.lst ds, .top) Q) (r : Rps K S H .shr vs ds []) : ∀ p, H p = none → Q (.ref p) (upd H p (.lst vs)) := fun p np =>
  q _ _ [p] (same_upd np) (fun a m => List.mem_singleton.mp m ▸ np) nodup1 (.nd1 (fun z => nomatch z) .lst upd_same ((r.trk.same (same_upd np)).mono fun a z => ⟨z.1, fun m => z.2 (List.mem_singleton.mp m ▸ np)⟩))
theorem Rps.inv1 {K : PySem.W.Frag} {S : Addr → Prop} {H : Hp} {vs : List V} {d : D} (r : Rps K S H .shr vs [d] []) : ∃ v, vs = [v] ∧ Rp K S H .shr v d [] := by
  generalize hF : ([] : List Addr) = F at r
  cases r with
  | cons h1 h2 =>
    have e1 := h1.shr0
    subst e1
    cases h2
    exact ⟨_, rfl, h1⟩
theorem Rps.inv2 {K : PySem.W.Frag} {S : Addr → Prop} {H : Hp} {vs : List V} {d e : D} (r : Rps K S H .shr vs [d, e] []) : ∃ v w, vs = [v, w] ∧ Rp K S H .shr v d [] ∧ Rp K S H .shr w e [] := by
  generalize hF : ([] : List Addr) = F at r
  cases r with
  | cons h1 h2 =>
    have e1 := h1.shr0
    have e2 := h2.shr0
    subst e1 e2
    obtain ⟨w, rfl, h3⟩ := h2.inv1
    exact ⟨_, w, rfl, h1, h3⟩
theorem Rp.lst_shr {K : PySem.W.Frag} {S : Addr → Prop} {H : Hp} {v : V} {ds : List D} (r : Rp K S H .shr v (.lst ds) []) : ∃ a vs, v = .ref a ∧ H a = some (.lst vs) ∧ S a ∧ Rps K S H .shr vs ds [] := by
  cases r with
  | nd0 h h1 h2 h3 => cases h; exact ⟨_, _, rfl, h1.lst, h2, h3⟩

def itemsOf : D → Option (List D)
  | .lst ds => some ds
  | .fl ds => some ds
  | .tup ds => some ds
  | _ => none
theorem items_rp {K : PySem.W.Frag} {S : Addr → Prop} {H : Hp} {v : V} {d : D} {ds : List D} (r : Rp K S H .shr v d []) (h : itemsOf d = some ds) : ∃ a vs, v = .ref a ∧ (SqL K H a vs ∨ SqT K H a vs) ∧ Rps K S H .shr vs ds [] := by
  cases d with
  | lst xs => cases h; obtain ⟨a, vs, rfl, h1, _, h3⟩ := r.lst_shr; exact ⟨a, vs, rfl, .inl (SqL.of h1), h3⟩
  | fl xs => cases h; obtain ⟨a, vs, rfl, h1, h3, _⟩ := r.fl_inv; exact ⟨a, vs, rfl, .inl h1.sq, h3⟩
  | tup xs => cases h; obtain ⟨a, vs, rfl, h1, h3⟩ := r.tup_inv; exact ⟨a, vs, rfl, .inr (SqT.of h1), h3⟩
  | _ => cases h
def seqOf : D → Option (List D)
  | .lst ds => some ds
  | .fl ds => some ds
  | _ => none
theorem seq_rp {K : PySem.W.Frag} {S : Addr → Prop} {H : Hp} {v : V} {d : D} {ds : List D} (r : Rp K S H .shr v d []) (h : seqOf d = some ds) : ∃ a vs, v = .ref a ∧ SqL K H a vs ∧ Rps K S H .shr vs ds [] := by
  cases d with
  | lst xs => cases h; obtain ⟨a, vs, rfl, h1, _, h3⟩ := r.lst_shr; exact ⟨a, vs, rfl, SqL.of h1, h3⟩
  | fl xs => cases h; obtain ⟨a, vs, rfl, h1, h3, _⟩ := r.fl_inv; exact ⟨a, vs, rfl, h1.sq, h3⟩
  | _ => cases h


def bList : List D → Option Ret
  | [d] => (itemsOf d).map fun ds => (.lst ds, .top)
  | _ => none
def bAbs : List D → Option Ret
  | [.int i] => some (.int (if i < 0 then -i else i), .full)
  | _ => none
def bMax2 : List D → Option Ret
  | [.int i, .int j] => some (.int (if j > i then j else i), .full)
  | _ => none
def bMin2 : List D → Option Ret
  | [.int i, .int j] => some (.int (if j < i then j else i), .full)
  | _ => none
def bSum : List D → Option Ret
  | [d] => ((seqOf d).bind intsOf).map fun ns => (.int ns.sum, .full)
  | _ => none
def blOf : D → Option Bool
  | .bl b => some b
  | _ => none
def blsOf : List D → Option (List Bool)
  | [] => some []
  | d :: ds => (blOf d).bind fun i => (blsOf ds).map (i :: ·)
theorem blsOf_some : ∀ {ds : List D} {ns : List Bool}, blsOf ds = some ns → ds = ns.map .bl
  | [], _, h => by cases h; rfl
  | d :: ds, ns, h => by
    unfold blsOf at h
    obtain ⟨i, e1, h⟩ := bind_some h
    obtain ⟨m, e2, h⟩ := Option.map_eq_some_iff.mp h
    subst h
    rw [blsOf_some e2]
    cases d <;> first | (cases e1; rfl) | cases e1
def bAll : List D → Option Ret
  | [.lst ds] => (blsOf ds).map fun bs => (.bl (bs.all id), .full)
  | _ => none
def bAny : List D → Option Ret
  | [.lst ds] => (blsOf ds).map fun bs => (.bl (bs.any id), .full)
  | _ => none
def bInt : List D → Option Ret
  | [.int i] => some (.int i, .full)
  | [.bl k] => some (.int (if k then 1 else 0), .full)
  | _ => none

def isort {α : Type} (lt : α → α → Bool) : List α → List α
  | [] => []
  | x :: xs => insF lt x (isort lt xs)
where insF {α : Type} (lt : α → α → Bool) (x : α) : List α → List α
  | [] => [x]
  | y :: ys => if lt y x = true then y :: insF lt x ys else x :: y :: ys
def rowOf : D → Option (List Int)
  | .tup ds => intsOf ds
  | _ => none
def rowsOf : List D → Option (List (List Int))
  | [] => some []
  | d :: ds => (rowOf d).bind fun i => (rowsOf ds).map (i :: ·)
def dRow (r : List Int) : D := .tup (r.map .int)
theorem rowsOf_some : ∀ {ds : List D} {ns : List (List Int)}, rowsOf ds = some ns → ds = ns.map dRow
  | [], _, h => by cases h; rfl
  | d :: ds, ns, h => by
    unfold rowsOf at h
    obtain ⟨i, e1, h⟩ := bind_some h
    obtain ⟨m, e2, h⟩ := Option.map_eq_some_iff.mp h
    subst h
    rw [rowsOf_some e2]
    cases d with
    | tup xs => rw [show xs = i.map .int from intsOf_some e1]; rfl
    | _ => cases e1
abbrev sortI (ns : List Int) : List Int := isort (fun a b => decide (a < b)) ns
abbrev sortR (rs : List (List Int)) : List (List Int) := isort HT.lexLt rs
def bSortedI : List D → Option Ret
  | [d] => ((seqOf d).bind intsOf).map fun ns => (.lst ((sortI ns).map .int), .top)
  | _ => none
def sameLen : List (List Int) → Bool
  | [] => true
  | r :: rs => decide (1 ≤ r.length) && rs.all fun q => decide (q.length = r.length)
def bSortedR : List D → Option Ret
  | [d] => (seqOf d).bind fun ds => (rowsOf ds).bind fun rs => if sameLen rs = true then some (.lst ((sortR rs).map dRow), .top) else none
  | _ => none
section
open SrtO (Srtd Stb Swo)
theorem insF_perm {α : Type} {lt : α → α → Bool} (x : α) : ∀ l : List α, (isort.insF lt x l).Perm (x :: l)
  | [] => List.Perm.refl _
  | y :: ys => by
    unfold isort.insF
    split
    · exact ((insF_perm x ys).cons y).trans (List.Perm.swap x y ys)
    · exact List.Perm.refl _
theorem isort_perm {α : Type} {lt : α → α → Bool} : ∀ l : List α, (isort lt l).Perm l
  | [] => List.Perm.refl _
  | x :: xs => (insF_perm x _).trans ((isort_perm xs).cons x)
theorem insF_srtd {α : Type} {lt : α → α → Bool} (O : Swo lt) (x : α) : ∀ {l : List α}, Srtd lt l → Srtd lt (isort.insF lt x l)
  | [], _ => List.pairwise_singleton _ _
  | y :: ys, h => by
    unfold isort.insF
    have hh := List.pairwise_cons.mp h
    split
    · rename_i hy
      refine List.pairwise_cons.mpr ⟨fun z hz => ?_, insF_srtd O x hh.2⟩
      rcases List.mem_cons.mp ((insF_perm x ys).mem_iff.mp hz) with e | hz
      · rw [e]; exact O.asym _ _ hy
      · exact hh.1 z hz
    · rename_i hy
      have hy : lt y x = false := by simpa using hy
      refine List.pairwise_cons.mpr ⟨fun z hz => ?_, h⟩
      rcases List.mem_cons.mp hz with e | hz
      · rw [e]; exact hy
      · exact O.tr x y z hy (hh.1 z hz)
theorem isort_srtd {α : Type} {lt : α → α → Bool} (O : Swo lt) : ∀ l : List α, Srtd lt (isort lt l)
  | [] => List.Pairwise.nil
  | x :: xs => insF_srtd O x (isort_srtd O xs)
theorem insF_cls {α : Type} {lt : α → α → Bool} (O : Swo lt) (x z : α) : ∀ {l : List α}, Srtd lt l → (isort.insF lt x l).filter (SrtO.eqv lt z) = (x :: l).filter (SrtO.eqv lt z)
  | [], _ => rfl
  | y :: ys, h => by
    unfold isort.insF
    have hh := List.pairwise_cons.mp h
    split
    · rename_i hy
      have ih := insF_cls O x z hh.2
      have hxy : ¬ (SrtO.eqv lt z x = true ∧ SrtO.eqv lt z y = true) := fun ⟨a, b⟩ => by
        obtain ⟨a1, a2⟩ := SrtO.eqv_iff.mp a
        obtain ⟨b1, b2⟩ := SrtO.eqv_iff.mp b
        have := O.tr x z y a1 b2
        rw [hy] at this
        cases this
      rcases SrtO.bcase (SrtO.eqv lt z x) with q | q
      · have q' : SrtO.eqv lt z y = false := by
          rcases SrtO.bcase (SrtO.eqv lt z y) with p | p
          · exact absurd ⟨q, p⟩ hxy
          · exact p
        rw [List.filter_cons_of_neg (by rw [q']; decide), ih, List.filter_cons_of_pos q, List.filter_cons_of_pos q, List.filter_cons_of_neg (by rw [q']; decide)]
      · rw [List.filter_cons_of_neg (a := x) (by rw [q]; decide)] at ih
        rw [List.filter_cons_of_neg (a := x) (by rw [q]; decide)]
        rcases SrtO.bcase (SrtO.eqv lt z y) with p | p
        · rw [List.filter_cons_of_pos p, List.filter_cons_of_pos p, ih]
        · rw [List.filter_cons_of_neg (a := y) (by rw [p]; decide), List.filter_cons_of_neg (a := y) (by rw [p]; decide), ih]
    · rfl
theorem isort_stb {α : Type} {lt : α → α → Bool} (O : Swo lt) : ∀ l : List α, Stb lt (isort lt l) l
  | [] => Stb.refl []
  | x :: xs => by
    have ih := isort_stb O xs
    refine ⟨isort_perm _, fun z => ?_⟩
    show (isort.insF lt x (isort lt xs)).filter _ = _
    rw [insF_cls O x z (isort_srtd O xs)]
    rcases SrtO.bcase (SrtO.eqv lt z x) with q | q
    · rw [List.filter_cons_of_pos q, List.filter_cons_of_pos q, ih.cls z]
    · rw [List.filter_cons_of_neg (by rw [q]; decide), List.filter_cons_of_neg (by rw [q]; decide), ih.cls z]
theorem swo_int : Swo (fun a b : Int => decide (a < b)) := ⟨fun x y h => by
    have := of_decide_eq_true h
    exact decide_eq_false (by omega), fun x y z h1 h2 => by
    have h1 := of_decide_eq_false h1
    have h2 := of_decide_eq_false h2
    exact decide_eq_false (by omega)⟩
theorem stb_int {a b : List Int} (h : a.Perm b) : Stb (fun a b : Int => decide (a < b)) a b := by
  refine ⟨h, fun z => ?_⟩
  have e : ∀ l : List Int, l.filter (SrtO.eqv (fun a b : Int => decide (a < b)) z) = l.filter fun x => decide (x = z) := fun l => by
    congr 1
    funext x
    unfold SrtO.eqv
    by_cases q : x = z
    · subst q; simp
    · rw [decide_eq_false q]
      have : z < x ∨ x < z := by omega
      rcases this with t | t <;> simp [t]
  rw [e, e]
  have f : ∀ l : List Int, l.filter (fun x => decide (x = z)) = List.replicate (l.count z) z := fun l => by
    induction l with
    | nil => rfl
    | cons x l ih =>
      by_cases q : x = z
      · subst q; simp [ih, List.replicate_succ]
      · simp [q, ih, List.count_cons]
  rw [f, f, h.count_eq]
theorem sortI_uniq {a b : List Int} (h : a.Perm b) (hs : a.Pairwise (· ≤ ·)) : a = sortI b := by
  have s1 : Srtd (fun a b : Int => decide (a < b)) a := hs.imp fun {x y} h => decide_eq_false (by omega)
  exact SrtO.stb_uniq swo_int s1 (isort_srtd swo_int b) ⟨h.trans (isort_perm b).symm, fun z => ((stb_int h).cls z).trans ((isort_stb swo_int b).cls z).symm⟩
end
theorem Rps.mem {K : PySem.W.Frag} {S : Addr → Prop} {H : Hp} {rs : List (List Int)} : ∀ {vs : List V} {F : List Addr}, Rps K S H .shr vs (rs.map dRow) F → Paired (fun v r => ∃ a, v = V.ref a ∧ H a = some (.tup (r.map V.int))) vs rs := by
  induction rs with
  | nil => intro vs F h; cases h; exact .nil
  | cons r rs ih =>
    intro vs F h
    cases h with
    | cons h1 h2 =>
      obtain ⟨a, us, rfl, e, r1⟩ := Rp.tup_inv h1
      obtain ⟨rfl, _⟩ := r1.ints
      exact .cons ⟨a, rfl, e⟩ (ih h2)

def keyV (H : Hp) : V → List Int
  | .ref a => match H a with
    | some (.tup vs) => vs.filterMap fun v => match v with | .int i => some i | _ => none
    | _ => []
  | _ => []
theorem keyV_at {H : Hp} {a : Addr} {r : List Int} (h : H a = some (.tup (r.map V.int))) : keyV H (.ref a) = r := by
  unfold keyV
  simp only [h]
  rw [List.filterMap_map]
  exact List.filterMap_some
theorem paired_key {H : Hp} : ∀ {vs : List V} {rs : List (List Int)}, Paired (fun v r => ∃ a, v = V.ref a ∧ H a = some (.tup (r.map V.int))) vs rs → vs.map (keyV H) = rs ∧ ∀ v ∈ vs, ∃ a, v = V.ref a ∧ H a = some (.tup ((keyV H v).map V.int))
  | _, _, .nil => ⟨rfl, fun _ z => nomatch z⟩
  | _, _, .cons ⟨a, e, h⟩ t => by
    obtain ⟨i1, i2⟩ := paired_key t
    subst e
    refine ⟨by rw [List.map_cons, keyV_at h, i1], fun v hv => ?_⟩
    rcases List.mem_cons.mp hv with e | hv
    · rw [e, keyV_at h]; exact ⟨a, rfl, h⟩
    · exact i2 v hv
theorem sameLen_all {rs : List (List Int)} (h : sameLen rs = true) : ∃ d, 1 ≤ d ∧ ∀ r ∈ rs, r.length = d := by
  cases rs with
  | nil => exact ⟨1, Nat.le_refl _, fun _ z => nomatch z⟩
  | cons r rs =>
    unfold sameLen at h
    rw [Bool.and_eq_true, decide_eq_true_eq] at h
    refine ⟨r.length, h.1, fun q hq => ?_⟩
    rcases List.mem_cons.mp hq with e | hq
    · rw [e]
    · exact of_decide_eq_true (List.all_eq_true.mp h.2 q hq)
theorem rps_rows {K : PySem.W.Frag} {S : Addr → Prop} {H : Hp} : ∀ {vs : List V}, (∀ v ∈ vs, ∃ a, v = V.ref a ∧ H a = some (.tup ((keyV H v).map V.int))) → Rps K S H .shr vs ((vs.map (keyV H)).map dRow) []
  | [], _ => .nil
  | v :: vs, h => by
    obtain ⟨a, e, ha⟩ := h v List.mem_cons_self
    have r := rps_rows (K := K) (S := S) (vs := vs) fun u hu => h u (List.mem_cons_of_mem _ hu)
    refine Rps.cons (F := []) (G := []) ?_ r
    subst e
    refine .tup ha ?_
    generalize keyV H (V.ref a) = ns
    induction ns with
    | nil => exact .nil
    | cons n ns ih => exact Rps.cons (F := []) (G := []) .int ih
theorem rps_ints {K : PySem.W.Frag} {S : Addr → Prop} {H : Hp} {l : Lv} : ∀ ns : List Int, Rps K S H l (ns.map V.int) (ns.map .int) []
  | [] => .nil
  | n :: ns => Rps.cons (F := []) (G := []) .int (rps_ints ns)
section
variable {X : Cx}
theorem k_sortedI : CallOk X (.builtin "sorted") bSortedI := ⟨_, cr_sortedI, fun S H vs ds z Q r e q => by
  unfold bSortedI at e
  split at e
  · rename_i d
    obtain ⟨ns, e1, e⟩ := Option.map_eq_some_iff.mp e
    subst e
    obtain ⟨xs, e2, e3⟩ := bind_some e1
    obtain ⟨v, rfl, r1⟩ := r.inv1
    obtain ⟨a, us, rfl, h1, h2⟩ := seq_rp r1 e2
    rw [intsOf_some e3] at h2
    obtain ⟨rfl, _⟩ := h2.ints
    refine ⟨a, ns, rfl, h1, fun ns' p pm pw np => ?_⟩
    rw [sortI_uniq pm pw]
    exact q.lst (rps_ints _) p np
  · cases e⟩
theorem k_sortedR : CallOk X (.builtin "sorted") bSortedR := ⟨_, EvS.cr_sortedL, fun S H vs ds z Q r e q => by
  unfold bSortedR at e
  split at e
  · rename_i d
    obtain ⟨xs, e2, e⟩ := bind_some e
    obtain ⟨rs, e3, e⟩ := bind_some e
    split at e
    · rename_i hl
      cases e
      obtain ⟨v, rfl, r1⟩ := r.inv1
      obtain ⟨a, us, rfl, h1, h2⟩ := seq_rp r1 e2
      rw [rowsOf_some e3] at h2
      obtain ⟨k1, k2⟩ := paired_key (Rps.mem h2)
      obtain ⟨d, hd, hlen⟩ := sameLen_all hl
      refine ⟨a, us, keyV H, d, hd, rfl, h1, fun x hx => ?_, fun ys p hs hb np => ?_⟩
      · obtain ⟨t, e, ht⟩ := k2 x hx
        exact ⟨t, e, ht, hlen _ (by rw [← k1]; exact List.mem_map_of_mem hx)⟩
      · have eo : ys.map (keyV H) = sortR rs := by
          refine SrtO.stb_uniq (EvS.swo_lex id) (SrtO.srtd_map hs) (isort_srtd (EvS.swo_lex id) rs) ?_
          have z1 := SrtO.Stb.map (EvS.swo_lex id) (keyV H) hb
          rw [k1] at z1
          have z2 := isort_stb (EvS.swo_lex (α := List Int) id) rs
          exact ⟨z1.perm.trans z2.perm.symm, fun x => (z1.cls x).trans (z2.cls x).symm⟩
        have hy : ∀ v ∈ ys, ∃ a, v = V.ref a ∧ H a = some (.tup ((keyV H v).map V.int)) := fun v hv => k2 v (hb.perm.mem_iff.mp hv)
        have z := rps_rows (K := X.K) (S := S) hy
        rw [eo] at z
        exact q.lst z p np
    · cases e
  · cases e⟩

def keysI : List (Key × D) → Option (List Int)
  | [] => some []
  | (.inl i, _) :: kd => (keysI kd).map (i :: ·)
  | (.inr _, _) :: _ => none
theorem keysI_some : ∀ {kd : List (Key × D)} {ks : List Int}, keysI kd = some ks → kd.map (·.1) = ks.map Sum.inl
  | [], _, h => by cases h; rfl
  | (.inl i, d) :: kd, ks, h => by
    unfold keysI at h
    obtain ⟨m, e, h⟩ := Option.map_eq_some_iff.mp h
    subst h
    rw [List.map_cons, keysI_some e]
    rfl
  | (.inr _, _) :: _, _, h => by cases h
def bSortedD : List D → Option Ret
  | [.dk kd] => (keysI kd).bind fun ks => if ks.length < 64 then some (.lst ((sortI ks).map .int), .top) else none
  | _ => none
theorem k_sortedD (hc : X.calm = true) : CallOk X (.builtin "sorted") bSortedD := ⟨_, call_sortedDI hc, fun S H vs ds z Q r e q => by
  unfold bSortedD at e
  split at e
  · rename_i kd
    obtain ⟨ks, e1, e⟩ := bind_some e
    split at e
    · rename_i hl
      cases e
      obtain ⟨v, rfl, r1⟩ := r.inv1
      obtain ⟨a, kv, G, rfl, h1, h2, _⟩ := r1.dk_inv
      refine ⟨a, kv, ks, rfl, h1, h2.trans (keysI_some e1), hl, fun ys p pm pw np => ?_⟩
      rw [sortI_uniq pm pw]
      exact q.lst (rps_ints _) p np
    · cases e
  · cases e⟩
abbrev bSorted : List D → Option Ret := fun ds => (bSortedD ds).or ((bSortedI ds).or (bSortedR ds))
theorem k_sorted (hc : X.calm = true) : CallOk X (.builtin "sorted") bSorted := (k_sortedD hc).or (k_sortedI.or k_sortedR)
theorem k_list : CallOk X (.type "list") bList := ⟨_, call_list_of, fun S H vs ds z Q r e q => by
  unfold bList at e
  split at e
  · rename_i d
    obtain ⟨xs, e2, e⟩ := Option.map_eq_some_iff.mp e
    subst e
    obtain ⟨v, rfl, r1⟩ := r.inv1
    obtain ⟨a, us, rfl, h1, h2⟩ := items_rp r1 e2
    exact ⟨a, us, rfl, h1, fun l nl => q.lst h2 l nl⟩
  · cases e⟩
theorem k_abs : CallOk X (.builtin "abs") bAbs := ⟨_, call_abs, fun S H vs ds z Q r e q => by
  unfold bAbs at e
  split at e
  · cases e
    obtain ⟨v, rfl, r1⟩ := r.inv1
    obtain ⟨rfl, _⟩ := r1.int_inv
    exact ⟨_, rfl, q.atom fun _ => .int⟩
  · cases e⟩
theorem k_max2 (hc : X.calm = true) : CallOk X (.builtin "max") bMax2 := ⟨_, call_max2 hc, fun S H vs ds z Q r e q => by
  unfold bMax2 at e
  split at e
  · cases e
    obtain ⟨v, w, rfl, r1, r2⟩ := r.inv2
    obtain ⟨rfl, _⟩ := r1.int_inv
    obtain ⟨rfl, _⟩ := r2.int_inv
    exact ⟨_, _, rfl, q.atom fun _ => .int⟩
  · cases e⟩
theorem k_min2 (hc : X.calm = true) : CallOk X (.builtin "min") bMin2 := ⟨_, call_min2 hc, fun S H vs ds z Q r e q => by
  unfold bMin2 at e
  split at e
  · cases e
    obtain ⟨v, w, rfl, r1, r2⟩ := r.inv2
    obtain ⟨rfl, _⟩ := r1.int_inv
    obtain ⟨rfl, _⟩ := r2.int_inv
    exact ⟨_, _, rfl, q.atom fun _ => .int⟩
  · cases e⟩
theorem k_sum (hc : X.calm = true) : CallOk X (.builtin "sum") bSum := ⟨_, cr_sum hc, fun S H vs ds z Q r e q => by
  unfold bSum at e
  split at e
  · rename_i d
    obtain ⟨ns, e1, e⟩ := Option.map_eq_some_iff.mp e
    subst e
    obtain ⟨xs, e2, e3⟩ := bind_some e1
    obtain ⟨v, rfl, r1⟩ := r.inv1
    obtain ⟨a, us, rfl, h1, h2⟩ := seq_rp r1 e2
    rw [intsOf_some e3] at h2
    obtain ⟨rfl, _⟩ := h2.ints
    exact ⟨a, ns, rfl, h1, q.atom fun _ => .int⟩
  · cases e⟩
theorem Rps.bls {K : PySem.W.Frag} {S : Addr → Prop} {H : Hp} {l : Lv} : ∀ {vs : List V} {ns : List Bool} {F : List Addr}, Rps K S H l vs (ns.map .bl) F → vs = ns.map V.bl
  | _, [], _, .nil => rfl
  | _, n :: ns, _, .cons h1 h2 => by
    obtain ⟨rfl, e1⟩ := Rp.bl_inv h1
    rw [Rps.bls h2]
    rfl
theorem k_all (hc : X.calm = true) : CallOk X (.builtin "all") bAll := ⟨_, cr_all hc, fun S H vs ds z Q r e q => by
  unfold bAll at e
  split at e
  · rename_i d
    obtain ⟨ns, e1, e⟩ := Option.map_eq_some_iff.mp e
    subst e
    obtain ⟨v, rfl, r1⟩ := r.inv1
    obtain ⟨a, us, rfl, h1, _, h2⟩ := r1.lst_shr
    rw [blsOf_some e1] at h2
    have := h2.bls
    subst this
    exact ⟨a, ns, rfl, SqL.of h1, q.atom fun _ => .bl⟩
  · cases e⟩
theorem k_any (hc : X.calm = true) : CallOk X (.builtin "any") bAny := ⟨_, cr_any hc, fun S H vs ds z Q r e q => by
  unfold bAny at e
  split at e
  · rename_i d
    obtain ⟨ns, e1, e⟩ := Option.map_eq_some_iff.mp e
    subst e
    obtain ⟨v, rfl, r1⟩ := r.inv1
    obtain ⟨a, us, rfl, h1, _, h2⟩ := r1.lst_shr
    rw [blsOf_some e1] at h2
    have := h2.bls
    subst this
    exact ⟨a, ns, rfl, SqL.of h1, q.atom fun _ => .bl⟩
  · cases e⟩
theorem k_int : CallOk X (.type "int") bInt := ⟨_, call_int1, fun S H vs ds z Q r e q => by
  unfold bInt at e
  split at e
  · cases e
    obtain ⟨v, rfl, r1⟩ := r.inv1
    obtain ⟨rfl, _⟩ := r1.int_inv
    exact .inl ⟨_, rfl, q.atom fun _ => .int⟩
  · cases e
    obtain ⟨v, rfl, r1⟩ := r.inv1
    obtain ⟨rfl, _⟩ := r1.bl_inv
    exact .inr ⟨_, rfl, q.atom fun _ => .int⟩
  · cases e⟩
end
end Ev

set_option Elab.async false
set_option linter.all false
set_option maxRecDepth 100000

namespace Ev
open PySem PySem.Spec L2
open PyProof.Rows hiding St

section
variable {X : Cx} {e e2 o : Expr} {es : List Expr} {ga : EvA} {fe fa fb : EvE} {p pos apos cpos : Pos} {x : Str} {id T : String}

def MtOk (X : Cx) (T id : String) (g : D → List D → Option Ret) : Prop :=
  ∃ r : V → List V → Hp → VK → Prop, MtR X id r ∧ ∀ (S : Addr → Prop) (H : Hp) (v : V) (d : D) (vs : List V) (ds : List D) (z : Ret) (Q : VK), Rp X.K S H .shr v d [] → Rps X.K S H .shr vs ds [] → g d ds = some z → Made X.K S H z Q → r v vs H Q

def tyN : D → Option String
  | .non => some "NoneType" | .bl _ => some "bool" | .int _ => some "int" | .str _ => some "str"
  | .tup _ => some "tuple" | .lst _ => some "list" | .fl _ => some "list" | .dk _ => some "dict"
  | _ => none
def rcv : String → D → Bool
  | "list", .lst _ => true
  | "list", .fl _ => true
  | "str", .str _ => true
  | _, _ => false
theorem rcv_ty {K : PySem.W.Frag} {S : Addr → Prop} {H : Hp} {l : Lv} {v : V} {d : D} {F : List Addr} {T : String} (r : Rp K S H l v d F) (h : rcv T d = true) : tyV K T v H := by
  unfold rcv at h
  split at h
  · obtain ⟨a, vs, G, rfl, h1, _⟩ := r.lst_inv; exact .inl ⟨rfl, vs, SqL.of h1⟩
  · obtain ⟨a, vs, rfl, h1, _⟩ := r.fl_inv; exact .inl ⟨rfl, vs, h1.sq⟩
  · obtain ⟨rfl, _⟩ := r.str_inv; rfl
  · cases h
def eMt (T : String) (g : D → List D → Option Ret) (fo : EvE) (ga : EvA) : EvE := fun ρ => (fo ρ).bind fun x => if rcv T x.d = true then (ga ρ).bind fun rs => (g x.d (rs.map (·.d))).map (res (x.al || rs.any (·.al)) (x.vw || rs.any (·.vw))) else none
theorem mt_read {r : V → List V → Hp → VK → Prop} {g : D → List D → Option Ret} {fo : EvE} (hr : ∀ (S : Addr → Prop) (H : Hp) (v : V) (d : D) (vs : List V) (ds : List D) (z : Ret) (Q : VK), Rp X.K S H .shr v d [] → Rps X.K S H .shr vs ds [] → g d ds = some z → Made X.K S H z Q → r v vs H Q) {σ : St} {H : Hp} {Q : VK}
    (h : tE X.K (eMt T g fo ga) σ H Q) : tBM X.K T r (tE X.K fo) (tA X.K ga) σ H Q := by
  obtain ⟨N, H0, ρ, L, W, rr, sim, z, q⟩ := h
  unfold eMt at z
  obtain ⟨x, e0, z⟩ := bind_some z
  split at z
  · rename_i hT
    obtain ⟨rs, e1, z⟩ := bind_some z
    obtain ⟨z', e2, z⟩ := Option.map_eq_some_iff.mp z
    subst z
    refine one sim e0 fun v H1 F s1 n1 d1 p1 => ⟨rcv_ty p1 hT, ?_⟩
    refine ⟨N, H0, ρ, L, W ++ F, rs, sim.hold s1 n1 d1 p1.own_mut, e1, fun vs H2 T' s2 n2 d2 p2 => ?_⟩
    have hF : ∀ a ∈ F, N a ∧ a ∉ W := fun a m => ⟨sim.nw a (n1 a m), fun w => sim.th a w (n1 a m)⟩
    have hT' : ∀ a ∈ T', N a ∧ a ∉ W ++ F := fun a m => ⟨sim.nw a (s1.free (n2 a m)), fun w => (sim.hold s1 n1 d1 p1.own_mut).th a w (n2 a m)⟩
    have q1 : Rp X.K (SR N W (x.al || rs.any (·.al)) (x.vw || rs.any (·.vw))) H2 .shr v x.d [] := (p1.same s2).give (fun a z => ⟨z.1.1.up (fun e => by simp [e]), fun e => z.1.2 (by simp at e; exact e.1)⟩) fun a m => ⟨.new (hF a m).1, fun _ => (hF a m).2⟩
    have q2 := p2.give' (al := rs.any (·.al)) (vw := rs.any (·.vw)) hT' (fun _ m => m) (fun r h => any_of (p := fun r : Rv => r.al) r h) (fun r h => any_of (p := fun r : Rv => r.vw) r h)
    refine hr _ H2 v x.d vs _ z' Q q1 (q2.mono fun a z => ⟨z.1.up (fun e => by simp [e]), fun e m => z.2 (by simp only [Bool.or_eq_false_iff] at e; exact e.2) (List.mem_append_left _ m)⟩) e2 fun u H3 G s3 n3 d3 p3 => q.res (s1.trans (s2.trans s3)) (fun a m => s1.free (s2.free (n3 a m))) d3 (fun a z => z) p3
  · cases z
theorem e_mt {g : D → List D → Option Ret} {fo : EvE} (ho : MtOk X T id g) (pa : PlainAttrs T) (slot : Slot T x id) (hty : typeOf (.builtin id) = pure (.type "method_descriptor")) (hr : PEv X o fo) (ha : PAv X (e :: es) ga)
    (hbase : attributeBase o x X.env (eval o X.env) = eval o X.env := by rfl)
    (hfew : ((backTo cpos (starEach (e :: es) X.env)).all (fun x => !x.1) && (backToKw cpos (keywordEach [] X.env)).all (fun x => x.1.isSome)
      && decide ((e :: es).length + ([] : List Keyword).length + (if ([] : List Keyword).isEmpty then 0 else 1) < 30)) = true := by rfl)
    (hline : (apos.endLine == cpos.line) = true := by rfl) (hs : starEach (e :: es) X.env = (false, eval e X.env) :: starEach es X.env := by rfl) (hplain : (backTo cpos (starEach es X.env)).any (·.1) = false := by rfl) :
    PEv X (.Call (.Attribute o x apos) (e :: es) [] cpos) (eMt T g fo ga) := by
  obtain ⟨r, hm, hr'⟩ := ho
  exact imp_e (pe_bm pa slot hty hm hr ha hbase hfew hline hs hplain) fun σ H Q h => mt_read hr' h

def mIndex : D → List D → Option Ret
  | .lst ds, [d] => if (shp 8 d && shps 7 ds) = true then (ds.findIdx? fun z => deq z d).map fun j => (.int (j : Nat), .full) else none
  | _, _ => none
theorem m_index (hu : X.A.units + 65 < cLine) : MtOk X "list" "list.index" mIndex := ⟨_, mt_indexD hu, fun S H v d vs ds z Q r1 r2 e q => by
  unfold mIndex at e
  split at e
  · rename_i ds y
    split at e
    · rename_i hs
      rw [Bool.and_eq_true] at hs
      obtain ⟨j, ej, e⟩ := Option.map_eq_some_iff.mp e
      subst e
      obtain ⟨w, rfl, r3⟩ := r2.inv1
      obtain ⟨a, us, rfl, h1, _⟩ := r1.lst_shr
      have p3 := r1.dp (shp_lst hs.2)
      have s3 := shaped_of (shp_lst hs.2)
      simp only [pd] at p3 s3
      obtain ⟨hj, hp, hno⟩ := List.findIdx?_eq_some_iff_getElem.mp ej
      refine ⟨a, w, pd y, pds ds, j, pd ds[j], rfl, rfl, p3, r3.dp hs.1, s3, shaped_of hs.1, by rw [pds_map, List.getElem?_map, List.getElem?_eq_getElem hj]; rfl, hp, fun m z' hm hz => ?_, q.atom fun _ => .int⟩
      rw [pds_map, List.getElem?_map, List.getElem?_eq_getElem (by omega)] at hz
      cases hz
      have := hno m hm
      simpa [deq] using this
    · cases e
  · cases e⟩


def eIsi (T : String) (fe : EvE) : EvE := fun ρ => (fe ρ).bind fun x => (tyN x.d).bind fun tn => (kitB tn T).map rB
theorem ty_rp {K : PySem.W.Frag} {S : Addr → Prop} {H : Hp} {l : Lv} {v : V} {d : D} {F : List Addr} {tn : String} (r : Rp K S H l v d F) (h : tyN d = some tn) : TyX K H v (.type tn) := by
  cases d with
  | non => cases h; obtain ⟨rfl, _⟩ := r.non_inv; exact .base .non
  | bl b => cases h; obtain ⟨rfl, _⟩ := r.bl_inv; exact .base (.bl _)
  | int i => cases h; obtain ⟨rfl, _⟩ := r.int_inv; exact .base (.int _)
  | str x => cases h; obtain ⟨rfl, _⟩ := r.str_inv; exact .base (.str _)
  | tup ds => cases h; obtain ⟨a, vs, rfl, h1, _⟩ := r.tup_inv; exact .base (.tup h1)
  | lst ds => cases h; obtain ⟨a, vs, G, rfl, h1, _⟩ := r.lst_inv; exact .base (.lst h1)
  | fl ds =>
    cases h
    obtain ⟨a, vs, rfl, h1, _⟩ := r.fl_inv
    rcases h1 with ⟨o, h1⟩ | ⟨o, its, n, h1, h2, _⟩
    · exact .base (.frz h1)
    · exact .kList h1 h2
  | dk kd =>
    cases h
    obtain ⟨a, kv, G, rfl, h1, _⟩ := r.dk_inv
    rcases h1 with h1 | ⟨o, h1⟩
    · exact .base (.dK h1)
    · exact .fDict h1
  | _ => cases h
theorem e_isi {t : Str} {p1 p2 : Pos} (T : String) (hm : X.mg "isinstance" = none) (hmT : X.mg t = none) (hvT : bootBuiltins t = some (.type T)) (he : PEv X e fe) (hg : Gl X "isinstance" := by rfl) (hgT : Gl X t := by rfl) (hnT : t ≠ "__name__" := by decide) (hdT : (t == ("__debug__" : Str)) = false := by decide)
    (hs1 : starEach [e, .Name t p2] X.env = (false, eval e X.env) :: starEach [.Name t p2] X.env := by rfl) (hs2 : starEach [.Name t p2] X.env = (false, eval (.Name t p2) X.env) :: starEach [] X.env := by rfl)
    (hpl : (backTo pos (starEach [.Name t p2] X.env)).any (·.1) = false := by rfl) : PEv X (.Call (.Name "isinstance" p1) [e, .Name t p2] [] pos) (eIsi T fe) := by
  have hv : bootBuiltins "isinstance" = some (.builtin "isinstance") := PyProof.Rows.boot_isinstance
  refine imp_e (pe_callB call_isi hg hm hv (pa_cons he (pa_cons (pe_bltn (v := .ty T) hgT hmT hvT rfl hnT hdT) pa_nil hs2) hs1) (by decide) (by decide) hs1 hpl) fun σ H Q ⟨N, H0, ρ, L, W, rr, sim, z, q⟩ => ?_
  unfold eIsi at z
  obtain ⟨x, e1, z⟩ := bind_some z
  obtain ⟨tn, e2, z⟩ := bind_some z
  obtain ⟨b, e3, z⟩ := Option.map_eq_some_iff.mp z
  subst z
  refine one sim e1 fun v H1 F s1 n1 d1 p1 => ?_
  exact ⟨v, .ty T, .type tn, .type T, b, rfl, .ty T, ty_rp p1 e2, kit_ty e3, q.bl s1⟩


def cutL {α : Type} (xs : List α) (lo hi : Option Int) : List α := (xs.drop (HT.sIx xs.length 0 lo)).take (HT.sIx xs.length xs.length hi - HT.sIx xs.length 0 lo)
abbrev EvO := Env → Option (Option Int)
def oNone : EvO := fun _ => some none
def oSome (fe : EvE) : EvO := fun ρ => (fe ρ).bind fun x => (intOf x.d).map some
def tO (K : PySem.W.Frag) (f : EvO) : TO := fun σ H Q => ∃ N H0 ρ L W o, SimH K N H0 ρ σ H L W ∧ f ρ = some o ∧ ∀ H', Same H H' → Q o H'
abbrev POv (X : Cx) (e : Option Expr) (f : EvO) : Prop := PO X e (tO X.K f)
theorem imp_o {e : Option Expr} {t t' : TO} (h : PO X e t) (i : ∀ σ H Q, t' σ H Q → t σ H Q) : PO X e t' := ⟨fun p s σ H Q I w => h.run p s σ H Q I (i σ H Q w)⟩
theorem o_none : POv X none oNone := imp_o po_none fun σ H Q ⟨N, H0, ρ, L, W, k, sim, z, q⟩ => by cases z; exact q H (Same.refl H)
theorem o_some (he : PEv X e fe) : POv X (some e) (oSome fe) := imp_o (po_some he) fun σ H Q ⟨N, H0, ρ, L, W, k, sim, z, q⟩ => by
  unfold oSome at z
  obtain ⟨x, e1, z⟩ := bind_some z
  obtain ⟨i, e2, z⟩ := Option.map_eq_some_iff.mp z
  subst z
  refine one sim e1 fun v H1 F s1 n1 d1 p1 => ?_
  have : x.d = .int i := by
    cases q : x.d <;> rw [q] at e2 <;> first | (cases e2; rfl) | cases e2
  rw [this] at p1
  obtain ⟨rfl, _⟩ := p1.int_inv
  exact ⟨i, rfl, q H1 s1⟩

def cutD (d : D) (lo hi : Option Int) : Option Ret := match d with
  | .lst ds => some (.lst (cutL ds lo hi), .top)
  | .fl ds => some (.lst (cutL ds lo hi), .top)
  | .tup ds => if HT.sIx ds.length 0 lo = 0 ∧ HT.sIx ds.length ds.length hi = ds.length then none else some (.tup (cutL ds lo hi), .shr)
  | _ => none
def eSl (fe : EvE) (fl fh : EvO) : EvE := fun ρ => (fe ρ).bind fun x => (fl ρ).bind fun lo => (fh ρ).bind fun hi => (cutD x.d lo hi).map (res x.al x.vw)
theorem cutV_eq (xs : List V) (lo hi : Option Int) : cutV xs lo hi = cutL xs lo hi := rfl
theorem Rps.cut {K : PySem.W.Frag} {S : Addr → Prop} {H : Hp} {vs : List V} {ds : List D} (r : Rps K S H .shr vs ds []) (lo hi : Option Int) : Rps K S H .shr (cutV vs lo hi) (cutL ds lo hi) [] := by
  unfold cutV cutL
  rw [r.len]
  exact (r.drop _).take _
theorem e_sl {lo hi : Option Expr} {fl fh : EvO} {p2 : Pos} (he : PEv X e fe) (hl : POv X lo fl) (hh : POv X hi fh) : PEv X (.Subscript e (.Slice lo hi none p2) pos) (eSl fe fl fh) := by
  refine imp_e (pe_slice (sl_list.or sl_tup) he hl hh) fun σ H Q ⟨N, H0, ρ, L, W, rr, sim, z, q⟩ => ?_
  unfold eSl at z
  obtain ⟨x, e1, z⟩ := bind_some z
  obtain ⟨l, e2, z⟩ := bind_some z
  obtain ⟨h, e3, z⟩ := bind_some z
  obtain ⟨z', e4, z⟩ := Option.map_eq_some_iff.mp z
  subst z
  refine one sim e1 fun v H1 F s1 n1 d1 p1 => ⟨N, H0, ρ, L, W, l, sim.same s1, e2, fun H2 s2 => ⟨N, H0, ρ, L, W, h, (sim.same s1).same s2, e3, fun H3 s3 => ?_⟩⟩
  have hF : ∀ a ∈ F, N a ∧ a ∉ W := fun a m => ⟨sim.nw a (n1 a m), fun w => sim.th a w (n1 a m)⟩
  have s23 := s2.trans s3
  have s13 := s1.trans s23
  have r := (p1.same s23).give (S' := SR N W x.al x.vw) (fun a z => z.1) fun a m => ⟨.new (hF a m).1, fun _ => (hF a m).2⟩
  have fin : Made X.K (SR N W x.al x.vw) H3 z' Q := fun u H4 G s4 n4 d4 p4 => q.res (s13.trans s4) (fun a m => s13.free (n4 a m)) d4 (fun a z => z) p4
  unfold cutD at e4
  split at e4
  · rename_i ds hd
    cases e4
    rw [hd] at r
    obtain ⟨a, vs, rfl, h1, _, h3⟩ := r.lst_shr
    exact .inl ⟨a, vs, rfl, SqL.of h1, fun p np => fin.lst (h3.cut l h) p np⟩
  · rename_i ds hd
    cases e4
    rw [hd] at r
    obtain ⟨a, vs, rfl, h1, h3, _⟩ := r.fl_inv
    exact .inl ⟨a, vs, rfl, h1.sq, fun p np => fin.lst (h3.cut l h) p np⟩
  · rename_i ds hd
    split at e4
    · cases e4
    · rename_i hno
      cases e4
      rw [hd] at r
      obtain ⟨a, vs, rfl, h1, h3⟩ := r.tup_inv
      refine .inr ⟨a, vs, rfl, SqT.of h1, by rw [h3.len]; exact hno, fun p np => fin _ _ [] (same_upd np) (fun _ z => nomatch z) .nil (.tup upd_same (((h3.cut l h).same (same_upd np)).mono fun a z => ⟨z, fun m => nomatch m⟩))⟩
  · cases e4

def eRev (fe : EvE) : EvE := fun ρ => (fe ρ).bind fun x => (seqOf x.d).map fun ds => res x.al x.vw (.lst ds.reverse, .top)
theorem Rps.rev {K : PySem.W.Frag} {S : Addr → Prop} {H : Hp} : ∀ {vs : List V} {ds : List D} {F : List Addr}, Rps K S H .shr vs ds F → Rps K S H .shr vs.reverse ds.reverse []
  | _, _, _, .nil => .nil
  | _, _, _, .cons h1 h2 => by
    have e1 := h1.shr0
    subst e1
    rw [List.reverse_cons, List.reverse_cons]
    exact Rps.app (F := []) (G := []) (Rps.rev h2) (Rps.cons (F := []) (G := []) h1 .nil)
theorem e_rev {k : Nat} {p1 p2 p3 : Pos} (he : PEv X e fe) : PEv X (.Subscript e (.Slice none none (some (.UnaryOp .USub (.Constant (.int 1) k p1) p2)) p3) pos) (eRev fe) := by
  refine imp_e (pe_revL he) fun σ H Q ⟨N, H0, ρ, L, W, rr, sim, z, q⟩ => ?_
  unfold eRev at z
  obtain ⟨x, e1, z⟩ := bind_some z
  obtain ⟨ds, e2, z⟩ := Option.map_eq_some_iff.mp z
  subst z
  refine one sim e1 fun v H1 F s1 n1 d1 p1 => ?_
  have hF : ∀ a ∈ F, N a ∧ a ∉ W := fun a m => ⟨sim.nw a (n1 a m), fun w => sim.th a w (n1 a m)⟩
  have r := p1.give (S' := SR N W x.al x.vw) (fun a z => z.1) fun a m => ⟨.new (hF a m).1, fun _ => (hF a m).2⟩
  obtain ⟨a, vs, rfl, h1, h2⟩ := seq_rp r e2
  have fin : Made X.K (SR N W x.al x.vw) H1 (.lst ds.reverse, .top) Q := fun u H4 G s4 n4 d4 p4 => q.res (s1.trans s4) (fun a m => s1.free (n4 a m)) d4 (fun a z => z) p4
  exact ⟨a, vs, rfl, h1, fun p np => fin.lst h2.rev p np⟩


def eCat (fa fb : EvE) : EvE := fun ρ => (fa ρ).bind fun x => (fb ρ).bind fun y => match x.d, y.d with
  | .lst xs, .lst ys => if xs.length + ys.length ≤ 1000000 then some (res (x.al || y.al) (x.vw || y.vw) (.lst (xs ++ ys), .top)) else none
  | _, _ => none

def ePlus (fa fb : EvE) : EvE := fun ρ => (eAdd fa fb ρ).or (eCat fa fb ρ)
theorem mil {n : Nat} (h : n ≤ 1000000) : n ≤ sizeLine := Nat.le_trans h (by rw [sizeLine_eq]; decide)
theorem e_plus (ha : PEv X e fa) (hb : PEv X e2 fb) : PEv X (.BinOp e .Add e2 pos) (ePlus fa fb) := by
  refine imp_e (pe_op (op_add.or op_cat) ha hb) fun σ H Q ⟨N, H0, ρ, L, W, rr, sim, z, q⟩ => ?_
  unfold ePlus at z
  cases h1 : eAdd fa fb ρ with
  | some k =>
    rw [h1] at z
    cases z
    obtain ⟨x, y, i, j, e1, e2, d1, d2, hc, rfl⟩ := eOp_some h1
    refine two sim e1 e2 fun v w H2 F G s _ _ _ _ _ p1 p2 => ?_
    rw [d1] at p1
    rw [d2] at p2
    obtain ⟨rfl, _⟩ := p1.int_inv
    obtain ⟨rfl, _⟩ := p2.int_inv
    exact .inl ⟨i, j, rfl, rfl, q.int s⟩
  | none =>
    rw [h1] at z
    have z : eCat fa fb ρ = some rr := z
    unfold eCat at z
    obtain ⟨x, e1, z⟩ := bind_some z
    obtain ⟨y, e2, z⟩ := bind_some z
    split at z
    · rename_i xs ys hx hy
      split at z
      · rename_i hl
        cases z
        refine two sim e1 e2 fun v w H2 F G s n1 n2 _ _ _ p1 p2 => ?_
        have hF : ∀ a ∈ F, N a ∧ a ∉ W := fun a m => ⟨sim.nw a (n1 a m), fun w => sim.th a w (n1 a m)⟩
        have hG : ∀ a ∈ G, N a ∧ a ∉ W := fun a m => ⟨sim.nw a (n2 a m), fun w => sim.th a w (n2 a m)⟩
        have r1 := p1.give (S' := SR N W (x.al || y.al) (x.vw || y.vw)) (fun a z => ⟨z.1.1.up (fun e => by simp [e]), fun e => z.1.2 (by simp at e; exact e.1)⟩) fun a m => ⟨.new (hF a m).1, fun _ => (hF a m).2⟩
        have r2 := p2.give (S' := SR N W (x.al || y.al) (x.vw || y.vw)) (fun a z => ⟨z.1.1.up (fun e => by simp [e]), fun e m => z.1.2 (by simp at e; exact e.2) (List.mem_append_left _ m)⟩) fun a m => ⟨.new (hG a m).1, fun _ => (hG a m).2⟩
        rw [hx] at r1
        rw [hy] at r2
        obtain ⟨a, vs, rfl, h1, _, h3⟩ := r1.lst_shr
        obtain ⟨b, us, rfl, h4, _, h6⟩ := r2.lst_shr
        have fin : Made X.K (SR N W (x.al || y.al) (x.vw || y.vw)) H2 (.lst (xs ++ ys), .top) Q := fun u H4 G s4 n4 d4 p4 => q.res (s.trans s4) (fun a m => s.free (n4 a m)) d4 (fun a z => z) p4
        exact .inr ⟨a, b, vs, us, rfl, rfl, h1, h4, mil (by rw [h3.len, h6.len]; exact hl), fun p np => fin.lst (h3.app h6) p np⟩
      · cases z
    · cases z


def rngC (lo c : Int) (n : Nat) : List (D × Bool) := (List.range n).map fun (i : Nat) => (D.int (lo + (i : Int) * c), false)
theorem rngC_get {lo c : Int} {n i : Nat} {d : D} {al : Bool} (h : (rngC lo c n)[i]? = some (d, al)) : i < n ∧ d = .int (lo + (i : Int) * c) ∧ al = false := by
  unfold rngC at h
  rw [List.getElem?_map] at h
  obtain ⟨j, e1, e2⟩ := Option.map_eq_some_iff.mp h
  obtain ⟨h1, h2⟩ := List.getElem?_eq_some_iff.mp e1
  rw [List.getElem_range] at h2
  subst h2
  cases e2
  exact ⟨by simpa using h1, rfl, rfl⟩
theorem yld_rngC {K : PySem.W.Frag} {N : Nw} {W : List Addr} {H1 : Hp} {lo c : Int} {n : Nat} : Yld K N W H1 (Itc lo c n) (rngC lo c n) where
  go := fun i d al H2 e k => (rngC_get e).1
  yld := fun i d al H2 x H3 e k y => by
    obtain ⟨h1, rfl, rfl⟩ := rngC_get e
    obtain ⟨e1, e2⟩ := y
    subst e1 e2
    exact ⟨Same.refl _, .int⟩
  stop := fun H2 k => by
    show n ≤ (rngC lo c n).length
    unfold rngC
    rw [List.length_map, List.length_range]
    exact Nat.le_refl _

def iRangeC (ga : EvA) : EvI := fun ρ => (ga ρ).bind fun (rs : List Rv) => match (rs.map Rv.d : List D) with
  | [.int i, .int j, .int 2] => if (-1000000 < i ∧ i < 1000000) ∧ -1000000 < j ∧ j < 1000000 then some (rngC i 2 (((j - i).toNat + 1) / 2)) else none
  | _ => none
theorem rgc2 {i j : Int} (hi : -1000000 < i ∧ i < 1000000) (h0 : -1000000 < j) (h1 : j < 1000000) : RgC i j 2 (((j - i).toNat + 1) / 2) := by
  refine ⟨by decide, by decide, ?_, ?_⟩
  · unfold Builtin.Range.small Builtin.Range.rangeSize
    simp only [Builtin.Range.rangeFitsLong, Bool.and_eq_true, Bool.or_eq_true, decide_eq_true_eq, beq_iff_eq, show (2 : Int) > 0 by decide, if_true]
    split <;> omega
  · unfold Builtin.Range.rangeSize
    rw [if_pos (by decide)]
    split <;> omega
theorem i_range3 {tg a b c : Expr} (hm : X.mg "range" = none) (ha : PAv X [a, b, c] ga) (hl : ∀ ρ rs, ga ρ = some rs → rs.length = 3) (hg : Gl X "range" := by rfl) (hs : starEach [a, b, c] X.env = (false, eval a X.env) :: starEach [b, c] X.env := by rfl) (hpl : (backTo pos (starEach [b, c] X.env)).any (·.1) = false := by rfl) :
    PIv X tg (.Call (.Name "range" p) [a, b, c] [] pos) (iRangeC ga) := by
  refine imp_i (pi_range3 hg hm ha hs hpl) fun σ H R ⟨N, H0, ρ, L, W, items, sim, z, q⟩ => ?_
  unfold iRangeC at z
  obtain ⟨rs, e1, z⟩ := bind_some z
  refine ⟨N, H0, ρ, L, W, rs, sim, e1, fun vs H1 T s1 n1 d1 p1 => ?_⟩
  split at z
  · rename_i i j hd
    split at z
    · rename_i hc
      cases z
      have := p1.ints (ns := [i, j, 2]) hd
      subst this
      exact ⟨i, j, 2, _, rfl, rgc2 hc.1 hc.2.1 hc.2.2, q _ H1 s1 yld_rngC⟩
    · cases z
  · cases z


def numbered (al : Bool) : Nat → List D → List (D × Bool)
  | _, [] => []
  | k, d :: ds => (.tup [.int (k : Nat), d], al) :: numbered al (k + 1) ds
theorem numbered_get {al : Bool} : ∀ {ds : List D} {k i : Nat} {d : D} {al' : Bool}, (numbered al k ds)[i]? = some (d, al') → ∃ x, ds[i]? = some x ∧ d = .tup [.int ((k + i : Nat)), x] ∧ al' = al
  | [], _, _, _, _, h => by simp [numbered] at h
  | x :: ds, k, 0, d, al', h => by
    simp [numbered] at h
    exact ⟨x, rfl, h.1.symm, h.2.symm⟩
  | x :: ds, k, i + 1, d, al', h => by
    obtain ⟨y, e1, e2, e3⟩ := numbered_get (ds := ds) (k := k + 1) (i := i) (by simpa [numbered] using h)
    exact ⟨y, by simpa using e1, by rw [e2]; congr 3; omega, e3⟩
theorem numbered_len {al : Bool} : ∀ (ds : List D) (k : Nat), (numbered al k ds).length = ds.length
  | [], _ => rfl
  | x :: ds, k => by show (numbered al (k + 1) ds).length + 1 = _; rw [numbered_len ds (k + 1)]; rfl
def iEnumV (ga : EvA) : EvI := fun ρ => (ga ρ).bind fun (rs : List Rv) => match rs with
  | [x] => if x.vw = true then none else (seqOf x.d).map (numbered x.al 0)
  | _ => none
theorem Rps.at_ {K : PySem.W.Frag} {S : Addr → Prop} {H : Hp} {vs : List V} {ds : List D} {i : Nat} {d : D} (r : Rps K S H .shr vs ds []) (h : ds[i]? = some d) : ∃ v, vs[i]? = some v ∧ Rp K S H .shr v d [] := by
  obtain ⟨v, G, e, rp, sub⟩ := r.get h
  have hG : G = [] := rp.shr0
  subst hG
  exact ⟨v, e, rp⟩

theorem seq_stays {K : PySem.W.Frag} {N : Nw} {W : List Addr} {H1 : Hp} {v : V} {d : D} {ds : List D} {al : Bool} (hm : ∀ b ∈ W, Mut (H1 b)) (r : Rp K (SR N W al false) H1 .shr v d []) (h : seqOf d = some ds) : ∃ a vs, v = .ref a ∧ (∀ H2, Kept H1 W H2 → SqL K H2 a vs) ∧ Rps K (SR N W al false) H1 .shr vs ds [] := by
  cases d with
  | lst xs =>
    cases h
    obtain ⟨a, vs, rfl, h1, h2, h3⟩ := r.lst_shr
    exact ⟨a, vs, rfl, fun H2 k => SqL.of (k _ _ h1 (h2.2 rfl)), h3⟩
  | fl xs =>
    cases h
    obtain ⟨a, vs, rfl, h1, h3, _⟩ := r.fl_inv
    refine ⟨a, vs, rfl, fun H2 k => ?_, h3⟩
    rcases h1 with ⟨o, h1⟩ | h1
    · refine .inl (.inr ⟨o, k _ _ h1 fun w => ?_⟩)
      have := hm a w
      rw [h1] at this
      exact this
    · exact .inr h1
  | _ => cases h
theorem item_stays {K : PySem.W.Frag} {N : Nw} {W : List Addr} {H1 H2 : Hp} {v : V} {d : D} {al : Bool} (hm : ∀ b ∈ W, Mut (H1 b)) (rp : Rp K (SR N W al false) H1 .shr v d []) (k : Kept H1 W H2) : Rp K (fun a => SR N W al false a ∧ H1 a ≠ none) H2 .shr v d [] := by
  have z := (rp.trk.mono (S' := fun a => (AlN N al a ∧ H1 a ≠ none) ∧ a ∉ W) fun a z => ⟨⟨z.1.1, z.2⟩, z.1.2 rfl⟩).kept hm k
  exact z.mono fun a z => ⟨⟨z.1.1, fun _ => z.2⟩, z.1.2⟩
theorem i_enum {tpos : Pos} {elts : List Expr} {kk : Nat} (hm : X.mg "enumerate" = none) (ha : PAv X [e] ga) (hg : Gl X "enumerate" := by rfl) (hs : starEach [e] X.env = [(false, eval e X.env)] := by rfl) : PIv X (.Tuple elts kk tpos) (.Call (.Name "enumerate" p) [e] [] pos) (iEnumV ga) := by
  refine imp_i (pi_enum hg hm ha hs) fun σ H R ⟨N, H0, ρ, L, W, items, sim, z, q⟩ => ?_
  unfold iEnumV at z
  obtain ⟨rs, e1, z⟩ := bind_some z
  split at z
  · rename_i x
    split at z
    · cases z
    · rename_i hv
      have hv : x.vw = false := by simpa using hv
      obtain ⟨ds, e2, z⟩ := Option.map_eq_some_iff.mp z
      subst z
      refine arg1 sim e1 fun v H1 F s1 n1 d1 p1 => ?_
      have hF : ∀ a ∈ F, N a ∧ a ∉ W := fun a m => ⟨sim.nw a (n1 a m), fun w => sim.th a w (n1 a m)⟩
      have muW : ∀ b ∈ W, Mut (H1 b) := fun b z => mut_same (sim.mu b z) s1
      have r := p1.give (S' := SR N W x.al false) (fun a z => ⟨z.1.1, fun _ => z.1.2 hv⟩) fun a m => ⟨.new (hF a m).1, fun _ => (hF a m).2⟩
      obtain ⟨a, vs, rfl, hst, h2⟩ := seq_stays muW r e2
      refine ⟨a, vs, rfl, hst H1 fun _ _ e _ => e, q _ H1 s1 ⟨fun i d al H2 ei k => ?_, fun i d al H2 y H3 ei k hy => ?_, fun H2 k => ?_⟩⟩
      · obtain ⟨u, e3, _, _⟩ := numbered_get ei
        obtain ⟨w, e4, _⟩ := h2.at_ e3
        exact ⟨vs, w, hst H2 k, e4⟩
      · obtain ⟨u, e3, rfl, rfl⟩ := numbered_get ei
        obtain ⟨w, e4, rp⟩ := h2.at_ e3
        obtain ⟨T, w', rfl, nT, rfl, hw⟩ := hy
        have := hw vs (hst H2 k)
        rw [e4] at this
        cases this
        refine ⟨same_upd nT, .tup upd_same ?_⟩
        have z := item_stays muW rp k
        refine Rps.cons (F := []) (G := []) (by rw [Nat.zero_add]; exact .int) (Rps.cons (F := []) (G := []) (z.same (same_upd nT)) .nil)
      · exact ⟨vs, hst H2 k, by rw [numbered_len, h2.len]; exact Nat.le_refl _⟩
  · cases z
def zipD (al : Bool) : List D → List D → List (D × Bool)
  | x :: xs, y :: ys => (.tup [x, y], al) :: zipD al xs ys
  | _, _ => []
theorem zipD_get {al : Bool} : ∀ {xs ys : List D} {i : Nat} {d : D} {al' : Bool}, (zipD al xs ys)[i]? = some (d, al') → ∃ x y, xs[i]? = some x ∧ ys[i]? = some y ∧ d = .tup [x, y] ∧ al' = al
  | [], _, _, _, _, h => by simp [zipD] at h
  | _ :: _, [], _, _, _, h => by simp [zipD] at h
  | x :: xs, y :: ys, 0, d, al', h => by
    simp [zipD] at h
    exact ⟨x, y, rfl, rfl, h.1.symm, h.2.symm⟩
  | x :: xs, y :: ys, i + 1, d, al', h => by
    obtain ⟨u, v, h1, h2, h3⟩ := zipD_get (xs := xs) (ys := ys) (i := i) (by simpa [zipD] using h)
    exact ⟨u, v, by simpa using h1, by simpa using h2, h3⟩
theorem zipD_len {al : Bool} : ∀ (xs ys : List D), (zipD al xs ys).length = min xs.length ys.length
  | [], _ => by simp [zipD]
  | _ :: _, [] => by simp [zipD]
  | x :: xs, y :: ys => by show (zipD al xs ys).length + 1 = _; rw [zipD_len xs ys, List.length_cons, List.length_cons]; omega
def iZipV (ga : EvA) : EvI := fun ρ => (ga ρ).bind fun (rs : List Rv) => match rs with
  | [x, y] => if (x.vw || y.vw) = true then none else (seqOf x.d).bind fun xs => (seqOf y.d).map fun ys => zipD (x.al || y.al) xs ys
  | _ => none
theorem i_zip {tpos : Pos} {elts : List Expr} {kk : Nat} (hm : X.mg "zip" = none) (ha : PAv X [e, e2] ga) (hg : Gl X "zip" := by rfl) (hs : starEach [e, e2] X.env = (false, eval e X.env) :: starEach [e2] X.env := by rfl) (hpl : (backTo pos (starEach [e2] X.env)).any (·.1) = false := by rfl) : PIv X (.Tuple elts kk tpos) (.Call (.Name "zip" p) [e, e2] [] pos) (iZipV ga) := by
  refine imp_i (pi_zip hg hm ha hs hpl) fun σ H R ⟨N, H0, ρ, L, W, items, sim, z, q⟩ => ?_
  unfold iZipV at z
  obtain ⟨rs, e1, z⟩ := bind_some z
  split at z
  · rename_i x y
    split at z
    · cases z
    · rename_i hv
      have hv : x.vw = false ∧ y.vw = false := by simpa using hv
      obtain ⟨xs, e2, z⟩ := bind_some z
      obtain ⟨ys, e3, z⟩ := Option.map_eq_some_iff.mp z
      subst z
      refine ⟨N, H0, ρ, L, W, [x, y], sim, e1, fun us H1 T s1 n1 d1 p1 => ?_⟩
      have hT : ∀ a ∈ T, N a ∧ a ∉ W := fun a m => ⟨sim.nw a (n1 a m), fun w => sim.th a w (n1 a m)⟩
      have muW : ∀ b ∈ W, Mut (H1 b) := fun b z => mut_same (sim.mu b z) s1
      have r := p1.give (al := x.al || y.al) hT (fun _ m => m) (by simp [hv.1, hv.2]) (fun r hr h => by
        rcases List.mem_cons.mp hr with e | hr
        · rw [← e, h]; rfl
        · rw [← List.mem_singleton.mp hr, h]; simp)
      obtain ⟨v, w, rfl, r1, r2⟩ := Rps.inv2 r
      obtain ⟨a, vs, rfl, hs1, h2⟩ := seq_stays muW r1 e2
      obtain ⟨b, ws, rfl, hs2, h3⟩ := seq_stays muW r2 e3
      refine ⟨a, b, vs, ws, rfl, hs1 H1 fun _ _ e _ => e, hs2 H1 fun _ _ e _ => e, q _ H1 s1 ⟨fun i d al H2 ei k => ?_, fun i d al H2 y H3 ei k hy => ?_, fun H2 k => ?_⟩⟩
      · obtain ⟨u, u', e4, e5, _⟩ := zipD_get ei
        obtain ⟨p1, q1, _⟩ := h2.at_ e4
        obtain ⟨p2, q2, _⟩ := h3.at_ e5
        exact ⟨vs, ws, p1, p2, hs1 H2 k, hs2 H2 k, q1, q2⟩
      · obtain ⟨u, u', e4, e5, rfl, rfl⟩ := zipD_get ei
        obtain ⟨p1, q1, rp1⟩ := h2.at_ e4
        obtain ⟨p2, q2, rp2⟩ := h3.at_ e5
        obtain ⟨T, x', y', rfl, nT, rfl, hw1, hw2⟩ := hy
        have := hw1 vs (hs1 H2 k)
        rw [q1] at this
        cases this
        have := hw2 ws (hs2 H2 k)
        rw [q2] at this
        cases this
        refine ⟨same_upd nT, .tup upd_same ?_⟩
        exact Rps.cons (F := []) (G := []) ((item_stays muW rp1 k).same (same_upd nT)) (Rps.cons (F := []) (G := []) ((item_stays muW rp2 k).same (same_upd nT)) .nil)
      · refine ⟨vs, ws, hs1 H2 k, hs2 H2 k, ?_⟩
        rw [zipD_len, h2.len, h3.len]
        omega
  · cases z
end

section
variable {K : PySem.W.Frag} {N : Nw} {H0 H H1 : Hp} {ρ : Env} {σ : St} {L : List Addr}
theorem Sim.mut {i : Nat} {s : Sv} (sim : Sim K N H0 ρ σ H L) (e : ρ[i]? = some (some s)) :
    ∃ v G, σ[i]? = some (some v) ∧ Rp K (SR N L s.al false) H s.l v s.d G ∧ G.Nodup ∧ (∀ b ∈ G, b ∈ L) ∧
      ∀ {H1 : Hp} {a : Addr} {o : HO} {s' : Sv} {G' T : List Addr}, Same H H1 → a ∈ G → Mut (some o) → (∀ b ∈ T, H b = none ∧ Mut (upd H1 a o b)) → (∀ b ∈ G', b ∈ G ∨ b ∈ T) → G'.Nodup → (s'.pn = s.pn ∨ s'.pn = none) →
        Rp K (fun b => AlN N s'.al b ∧ (b ∉ L ∨ b ∈ G) ∧ b ∉ T ∧ b ∉ G' ) (upd H1 a o) s'.l v s'.d G' →
        ∃ L', Sim K N H0 (ρ.set i (some s')) σ (upd H1 a o) L' ∧ Frm H L (upd H1 a o) L' := by
  obtain ⟨F1, G, F2, eL, get, p⟩ := sim.sl.at_ (List.getElem?_eq_some_iff.mp e).1
  obtain ⟨v, ev, hpn, rp⟩ := get s e
  have hnd := sim.nd
  rw [eL] at hnd
  have hG : ∀ b ∈ G, b ∈ L := fun b z => by rw [eL]; simp [z]
  have hnd' := hnd
  rw [List.nodup_append, List.nodup_append] at hnd
  obtain ⟨n1, ⟨n2, n3, n4⟩, n5⟩ := hnd
  have out : ∀ b ∈ G, b ∉ F1 ++ F2 := fun b hb z => by
    rcases List.mem_append.mp z with z | z
    · exact n5 b z b (by simp [hb]) rfl
    · exact n4 b hb b z rfl
  refine ⟨v, G, ev, rp, n2, hG, fun {H1 a o s' G' T} sm ha m hT hG' nG' hp' rp' => ?_⟩
  have hp2 : ∀ k, s'.pn = some k → v = .ref (N.p k) := fun k z => hp'.elim (fun y => hpn k (y ▸ z)) fun y => by rw [y] at z; cases z
  have haL := hG a ha
  have tr : H a ≠ none := sim.th a haL
  have sub : ∀ b, b ∈ F1 ++ (G' ++ F2) → b ∈ L ∨ H b = none := fun b z => by
    rw [eL]
    rcases List.mem_append.mp z with z | z
    · simp [z]
    · rcases List.mem_append.mp z with z | z
      · exact (hG' b z).elim (fun y => by simp [y]) fun y => .inr (hT b y).1
      · simp [z]
  have neq : ∀ b, b ∉ L → b ≠ a := fun b z y => z (y ▸ haL)
  have kp : ∀ al, Keeps (SR N L al false) (F1 ++ F2) H (upd H1 a o) := fun al b u eb q => by
    have : b ≠ a := fun y => by
      subst y
      rcases q with q | q | ⟨xs, rfl⟩ | ⟨o', u', rfl⟩
      · exact q.2 rfl haL
      · exact out b ha q
      · have := sim.mu b haL; rw [eb] at this; exact this
      · have := sim.mu b haL; rw [eb] at this; exact this
    rw [upd_ne this]
    exact sm b u eb
  have z := p (L1 := F1 ++ (G' ++ F2)) (H1 := upd H1 a o) (v := v) (s := s') (G' := G') kp (fun b z t w => (sub b w).elim z t) hp2 (rp'.mono fun b z => ⟨z.1, fun _ w => by
    rcases List.mem_append.mp w with w | w
    · rcases z.2.1 with y | y
      · exact y (by rw [eL]; simp [w])
      · exact out b y (by simp [w])
    · rcases List.mem_append.mp w with w | w
      · exact z.2.2.2 w
      · rcases z.2.1 with y | y
        · exact y (by rw [eL]; simp [w])
        · exact out b y (by simp [w])⟩)
  have eσ : σ.set i (some v) = σ := by
    obtain ⟨h1, h2⟩ := List.getElem?_eq_some_iff.mp ev
    rw [← h2, List.set_getElem_self]
  rw [eσ] at z
  refine ⟨F1 ++ (G' ++ F2), ⟨fun b u eb n => ?_, fun b eb => ?_, ?_, fun b w => ?_, fun b w => ?_, z⟩, ⟨fun b u eb n => ?_, fun b eb => ?_, sub⟩⟩
  · rw [upd_ne (fun y => n (by rw [y]; exact sim.ln a haL))]
    exact sm b u (sim.kp b u eb n)
  · by_cases y : b = a
    · rw [y]; exact sim.ln a haL
    · rw [upd_ne y] at eb; exact sim.nw b (sm.free eb)
  · rw [List.nodup_append, List.nodup_append]
    have inL : ∀ b, b ∈ F1 ∨ b ∈ F2 → H b ≠ none := fun b z => sim.th b (by rw [eL]; rcases z with z | z <;> simp [z])
    refine ⟨n1, ⟨nG', n3, fun b hb c hc y => ?_⟩, fun b hb c hc y => ?_⟩
    · subst y
      exact (hG' b hb).elim (fun y => out b y (by simp [hc])) fun y => inL b (.inr hc) (hT b y).1
    · subst y
      rcases List.mem_append.mp hc with hc | hc
      · exact (hG' b hc).elim (fun y => out b y (by simp [hb])) fun y => inL b (.inl hb) (hT b y).1
      · exact n5 b hb b (by simp [hc]) rfl
  · exact (sub b w).elim (sim.ln b) (sim.nw b)
  · by_cases y : b = a
    · rw [y, upd_same]; exact m
    · rw [upd_ne y]
      rcases List.mem_append.mp w with w | w
      · exact mut_same (sim.mu b (by rw [eL]; simp [w])) sm
      · rcases List.mem_append.mp w with w | w
        · rcases hG' b w with w | w
          · exact mut_same (sim.mu b (hG b w)) sm
          · have := (hT b w).2
            rw [upd_ne y] at this
            exact this
        · exact mut_same (sim.mu b (by rw [eL]; simp [w])) sm
  · rw [upd_ne (neq b n)]; exact sm b u eb
  · by_cases y : b = a
    · rw [y, upd_same] at eb; cases eb
    · rw [upd_ne y] at eb; exact .inl (sm.free eb)
end
end Ev

set_option Elab.async false
set_option linter.all false
set_option maxRecDepth 100000

namespace Ev
open PySem PySem.Spec L2
open PyProof.Rows hiding St


def keepLv (l l' : Lv) : Lv := if l = .full ∧ l' = .full then .full else .top
section
variable {K : PySem.W.Frag} {N : Nw} {H0 H H1 : Hp} {ρ : Env} {σ : St} {L : List Addr}

theorem Sim.relist {i : Nat} {sl : Lv} {sa : Bool} {sp : Option Nat} {ds : List D} (sim : Sim K N H0 ρ σ H L) (e : ρ[i]? = some (some ⟨.lst ds, sl, sa, sp⟩)) (hl : sl ≠ .shr) :
    ∃ a vs, σ[i]? = some (some (.ref a)) ∧ H a = some (.lst vs) ∧ vs.length = ds.length ∧
      ∀ {H1 : Hp} {us : List V} {rs : List Rv} {T : List Addr} {ws : List V} {es : List D} (pick : ∀ {S : Addr → Prop} {l : Lv} {F G : List Addr}, Rps K S H1 l vs ds F → Rps K S H1 l us (rs.map (·.d)) G → (F ++ G).Nodup → ∃ F', Rps K S H1 l ws es F' ∧ (∀ b ∈ F', b ∈ F ++ G) ∧ F'.Nodup),
        Same H H1 → (∀ b ∈ T, H b = none) → T.Nodup → RpL K N L T H1 us rs T → rs.all (fun r => !r.vw) = true →
        ∃ L', Sim K N H0 (ρ.set i (some ⟨.lst es, keepLv sl (if rs.all (fun r => !r.vw && decide (r.l = .full)) = true then .full else .top), sa || rs.any (·.al), sp⟩)) σ (upd H1 a (.lst ws)) L' ∧ Frm H L (upd H1 a (.lst ws)) L' := by
  obtain ⟨v, G, ev, rp, nG, hG, go⟩ := sim.mut e
  cases rp with
  | nd1 h0 hn ha r =>
    rename_i a o vs ds' F
    cases hn
    refine ⟨a, _, ev, ha, r.len, fun {H1 us rs T ws es} pick sm nT dT rl hvw => ?_⟩
    have hN : ∀ b ∈ a :: F, N b := fun b z => sim.ln b (hG b z)
    have aT : a ∉ T := fun z => by have := nT a z; rw [ha] at this; cases this
    have nFd := List.nodup_cons.mp nG
    have Tout : ∀ b ∈ T, b ∉ L := fun b z w => sim.th b w (nT b z)
    have trT : ∀ b ∈ T, Mut (H1 b) := by
      have : ∀ {vs : List V} {rs : List Rv} {F : List Addr}, RpL K N L T H1 vs rs F → ∀ a ∈ F, Mut (H1 a) := by
        intro vs rs F h
        induction h with
        | nil => exact fun _ z => nomatch z
        | cons h1 h2 ih => exact fun a z => (List.mem_append.mp z).elim (h1.own_mut a) (ih a)
      exact this rl
    have updH : ∀ {S : Addr → Prop} {l : Lv} {ws : List V} {es : List D} {F' : List Addr}, Rps K S H1 l ws es F' → (∀ b, S b → b ≠ a) → a ∉ F' → Rps K S (upd H1 a (.lst ws)) l ws es F' := fun r hS hF => r.keep fun b u eb q => by
      have : b ≠ a := fun y => by
        subst y
        have e1 := sm _ _ ha
        rcases q with q | q | ⟨xs, rfl⟩ | ⟨o', u', rfl⟩
        · exact hS _ q rfl
        · exact hF q
        · rw [e1] at eb; cases eb
        · rw [e1] at eb; cases eb
      rw [upd_ne this]
      exact eb
    by_cases hk : sl = .full ∧ rs.all (fun r => !r.vw && decide (r.l = .full)) = true
    · have hk2 : keepLv sl (if rs.all (fun r => !r.vw && decide (r.l = .full)) = true then .full else .top) = .full := by
        unfold keepLv
        rw [if_pos ⟨hk.1, if_pos hk.2⟩]
      rw [hk2]
      rw [hk.1] at r
      have r1 : Rps K (fun b => AlN N (sa || rs.any (·.al)) b ∧ (b ∉ L ∨ b ∈ a :: F) ∧ b ∉ T ∧ b ∉ a :: F) H1 .full _ ds F := ((r.trk.same sm).mono fun b z => ⟨z.1.1.up (fun e => by have e : sa = true := e; rw [e]; rfl), .inl (z.1.2 rfl), fun w => z.2 (nT b w), fun w => z.1.2 rfl (hG b w)⟩)
      have r2 : Rps K (fun b => AlN N (sa || rs.any (·.al)) b ∧ (b ∉ L ∨ b ∈ a :: F) ∧ b ∉ T ∧ b ∉ a :: F) H1 .full us (rs.map (·.d)) T := (rl.full (al := rs.any (·.al)) hk.2 al_any).mono fun b z => ⟨z.1.1.up (fun e => by rw [e]; cases sa <;> rfl), .inl (z.1.2 rfl), z.2, fun w => z.1.2 rfl (hG b w)⟩
      have dFT : (F ++ T).Nodup := by
        rw [List.nodup_append]
        exact ⟨nFd.2, dT, fun b hb c hc y => Tout c hc (y ▸ hG b (List.mem_cons_of_mem _ hb))⟩
      obtain ⟨F', r3, sub, nF'⟩ := pick r1 r2 dFT
      have aF' : a ∉ F' := fun z => (List.mem_append.mp (sub a z)).elim nFd.1 aT
      exact go (s' := ⟨_, _, _, sp⟩) (G' := a :: F') (T := T) sm List.mem_cons_self trivial (fun b z => ⟨nT b z, by rw [upd_ne (fun y => aT (by rw [← y]; exact z))]; exact trT b z⟩) (fun b z => (List.mem_cons.mp z).elim (fun y => .inl (by rw [y]; exact List.mem_cons_self)) fun z => (List.mem_append.mp (sub b z)).imp (List.mem_cons_of_mem _) id) (List.nodup_cons.mpr ⟨aF', nF'⟩) (.inl rfl)
        (.nd1 (fun z => nomatch z) .lst upd_same ((updH r3 (fun b z y => z.2.2.2 (by rw [y]; exact List.mem_cons_self)) aF').mono fun b z => ⟨z.1, z.2.1, z.2.2.1, fun w => (List.mem_cons.mp w).elim (fun y => z.2.2.2 (by rw [y]; exact List.mem_cons_self)) fun w => (List.mem_append.mp (sub b w)).elim (fun w => z.2.2.2 (List.mem_cons_of_mem _ w)) z.2.2.1⟩))
    · have hk2 : keepLv sl (if rs.all (fun r => !r.vw && decide (r.l = .full)) = true then .full else .top) = .top := by
        unfold keepLv
        refine if_neg fun z => hk ⟨z.1, ?_⟩
        by_cases q : rs.all (fun r => !r.vw && decide (r.l = .full)) = true
        · exact q
        · rw [if_neg q] at z; exact absurd z.2 (fun z => nomatch z)
      rw [hk2]
      have r1 : Rps K (fun b => AlN N (sa || rs.any (·.al)) b ∧ (b ∉ L ∨ b ∈ a :: F) ∧ b ≠ a) H1 .shr _ ds [] := (r.trk.same sm).give (fun b z => ⟨z.1.1.up (fun e => by have e : sa = true := e; rw [e]; rfl), .inl (z.1.2 rfl), fun y => z.1.2 rfl (by rw [y]; exact hG a List.mem_cons_self)⟩) fun b z => ⟨.new (hN b (List.mem_cons_of_mem _ z)), .inr (List.mem_cons_of_mem _ z), fun y => nFd.1 (y ▸ z)⟩
      have r2 : Rps K (fun b => AlN N (sa || rs.any (·.al)) b ∧ (b ∉ L ∨ b ∈ a :: F) ∧ b ≠ a) H1 .shr us (rs.map (·.d)) [] := (rl.give (al := rs.any (·.al)) (fun b z => ⟨sim.nw b (nT b z), Tout b z⟩) (fun _ z => z) hvw al_any).mono fun b z => ⟨z.1.up (fun e => by rw [e]; cases sa <;> rfl), .inl (z.2 rfl), fun y => z.2 rfl (by rw [y]; exact hG a List.mem_cons_self)⟩
      obtain ⟨F', r3, sub, nF'⟩ := pick r1 r2 .nil
      have e3 := r3.shr0
      subst e3
      exact go (s' := ⟨_, _, _, sp⟩) (G' := [a]) (T := []) sm List.mem_cons_self trivial (fun _ z => nomatch z) (fun b z => .inl (by rw [List.mem_singleton.mp z]; exact List.mem_cons_self)) nodup1 (.inl rfl)
        (.nd1 (fun z => nomatch z) .lst upd_same ((updH r3 (fun b z y => z.2.2 y) (fun z => nomatch z)).mono fun b z => ⟨z.1, z.2.1, (fun w => nomatch w), fun w => z.2.2 (List.mem_singleton.mp w)⟩))
  | nd0 hn h1 h2 h3 => exact absurd rfl hl
end

abbrev LOp := ∀ {α : Type}, (α → Option Int) → List α → List α → Option (List α)
def sLop (f : LOp) (fz : List Nat) (i : Nat) (ga : EvA) : EvS := fun ρ => match (frzs fz ρ)[i]? with
  | some (some s) => match s.d with
    | .lst ds => if decide (s.l = .shr) || decide (1000000 < ds.length) then none else (ga (frzs fz ρ)).bind fun rs => if rs.all (fun r => !r.vw) = true then (f intOf ds (rs.map (·.d))).map fun es => .nx ((frzs fz ρ).set i (some ⟨.lst es, keepLv s.l (if rs.all (fun r => !r.vw && decide (r.l = .full)) = true then .full else .top), s.al || rs.any (·.al), s.pn⟩)) else none
    | _ => none
  | _ => none
def intV : V → Option Int
  | .int i => some i
  | _ => none

structure LopOk (X : Cx) (id : String) (f : LOp) : Prop where
  ok : ∃ r : V → List V → Hp → VK → Prop, MtR X id r ∧ ∀ (H : Hp) (a : Addr) (vs us ws : List V) (Q : VK), H a = some (.lst vs) → vs.length ≤ 1000000 → f intV vs us = some ws → Q .non (upd H a (.lst ws)) → r (.ref a) us H Q
  pick : ∀ {K : PySem.W.Frag} {S : Addr → Prop} {H : Hp} {l : Lv} {vs us : List V} {ds es zs : List D} {F G : List Addr}, Rps K S H l vs ds F → Rps K S H l us es G → (F ++ G).Nodup → f intOf ds es = some zs → ∃ ws F', f intV vs us = some ws ∧ Rps K S H l ws zs F' ∧ (∀ b ∈ F', b ∈ F ++ G) ∧ F'.Nodup
section
variable {X : Cx} {e o : Expr} {es : List Expr} {ga : EvA} {fe fa fb : EvE} {pos apos cpos npos : Pos} {x m : Str} {id : String} {f : LOp}
theorem s_lop (fz : List Nat) (i : Nat) (hf : LopOk X id f) (slot : Slot "list" m id) (hty : typeOf (.builtin id) = pure (.type "method_descriptor")) (ha : PAv X (e :: es) ga)
    (hN : X.N[i]? = some x := by rfl) (hv : Vis X.env.scope x := by first | exact Or.inl rfl | exact Or.inr (Or.inl rfl) | exact Or.inr (Or.inr rfl)) (hd : (x == ("__debug__" : Str)) = false := by decide) (hcd : (x == ("__classdict__" : Str)) = false := by decide)
    (hsw : swapsWith (.Call (.Attribute (.Name x npos) m apos) (e :: es) [] cpos) none pos.line X.env = pure false := by rfl)
    (hbase : attributeBase (.Name x npos) m X.env (eval (.Name x npos) X.env) = eval (.Name x npos) X.env := by rfl)
    (hfew : ((backTo cpos (starEach (e :: es) X.env)).all (fun x => !x.1) && (backToKw cpos (keywordEach [] X.env)).all (fun x => x.1.isSome)
      && decide ((e :: es).length + ([] : List Keyword).length + (if ([] : List Keyword).isEmpty then 0 else 1) < 30)) = true := by rfl)
    (hline : (apos.endLine == cpos.line) = true := by rfl) (hs : starEach (e :: es) X.env = (false, eval e X.env) :: starEach es X.env := by rfl) (hplain : (backTo cpos (starEach es X.env)).any (·.1) = false := by rfl) :
    PSv X (.Expr (.Call (.Attribute (.Name x npos) m apos) (e :: es) [] cpos) pos) (sLop f fz i ga) := by
  obtain ⟨r, hm, hr⟩ := hf.ok
  refine imp_s (ps_expr (pe_bm PySem.F.plainAttrs_list slot hty hm (pe_var hN hv hd hcd) ha hbase hfew hline hs hplain) hsw) fun D σ H ⟨N, H0, ρ, L0, o, sim0, z, q0⟩ => ?_
  unfold sLop at z
  obtain ⟨L, sim, subL⟩ := sim0.frzs fz
  have q := q0.at_ (H1 := H) (L1 := L) ⟨fun _ _ e _ => e, fun _ e => .inl e, fun b z => .inl (subL b z)⟩
  split at z
  · rename_i s es
    split at z
    · rename_i ds hd
      split at z
      · cases z
      · rename_i hc
        obtain ⟨sd, sl, sa, sp⟩ := s
        cases hd
        simp only [Bool.or_eq_true, decide_eq_true_eq, not_or, Nat.not_lt] at hc
        obtain ⟨rs, e1, z⟩ := bind_some z
        split at z
        · rename_i hvw
          obtain ⟨zs, e2, z⟩ := Option.map_eq_some_iff.mp z
          subst z
          obtain ⟨a, vs, ev, ha', hlen, go⟩ := sim.relist es hc.1
          refine ⟨.ref a, ev, .inl ⟨rfl, vs, SqL.of ha'⟩, N, H0, _, L, L, rs, sim.h, e1, fun us H1 T s1 n1 d1 p1 => ?_⟩
          obtain ⟨v, G, ev', rp, _⟩ := sim.sl.get es
          rw [ev] at ev'
          cases ev'
          obtain ⟨a', vs', G1, e3, h1, r1, _⟩ := rp.lst_inv
          cases e3
          rw [ha'] at h1
          cases h1
          have look1 := (r1.same s1).give (S' := fun _ => True) (fun _ _ => trivial) fun _ _ => trivial
          obtain ⟨ws, _, ew, _⟩ := hf.pick look1 p1.look .nil e2
          refine hr H1 a _ us ws _ (s1 a _ ha') (by rw [hlen]; exact hc.2) ew ?_
          obtain ⟨L', sim', fr⟩ := go (ws := ws) (es := zs) (fun q1 q2 q3 => by
            obtain ⟨ws', F', e4, r4, sub, nd⟩ := hf.pick q1 q2 q3 e2
            rw [ew] at e4
            cases e4
            exact ⟨F', r4, sub, nd⟩) s1 n1 d1 p1 hvw
          exact q _ _ L' sim' fr
        · cases z
    · cases z
  · cases z

def oApp : LOp := fun _ xs ys => match ys with
  | [y] => some (xs ++ [y])
  | _ => none
theorem mem_nodup {F G : List Addr} (h : (F ++ G).Nodup) : (∀ b ∈ F ++ G, b ∈ F ++ G) ∧ (F ++ G).Nodup := ⟨fun _ z => z, h⟩
theorem l_app : LopOk X "list.append" oApp where
  ok := ⟨_, mt_append, fun H a vs us ws Q h1 h2 h3 q => by
    unfold oApp at h3
    split at h3
    · cases h3
      exact ⟨a, vs, _, rfl, rfl, h1, Nat.lt_of_le_of_lt h2 (by rw [sizeLine_eq]; decide), q⟩
    · cases h3⟩
  pick := fun {K S H l vs us ds es zs F G} r1 r2 nd e => by
    unfold oApp at e
    split at e
    · rename_i y
      cases e
      cases r2 with
      | cons h1 h2 =>
        cases h2
        exact ⟨_, _, rfl, r1.app (.cons h1 .nil), fun _ z => z, nd⟩
    · cases e

def oIns : LOp := fun g xs ys => match ys with
  | [i, y] => (g i).bind fun k => if 0 ≤ k ∧ k < 1000000 then some (xs.take k.toNat ++ [y] ++ xs.drop k.toNat) else none
  | _ => none
theorem Rps.take' {K : PySem.W.Frag} {S : Addr → Prop} {H : Hp} {l : Lv} : ∀ {vs : List V} {ds : List D} {F : List Addr} (n : Nat), Rps K S H l vs ds F → ∃ F1 F2, F = F1 ++ F2 ∧ Rps K S H l (vs.take n) (ds.take n) F1 ∧ Rps K S H l (vs.drop n) (ds.drop n) F2
  | _, _, F, 0, h => ⟨[], F, rfl, .nil, h⟩
  | _, _, _, n + 1, .nil => ⟨[], [], rfl, .nil, .nil⟩
  | _, _, _, n + 1, .cons (F := F) h1 h2 => by
    obtain ⟨F1, F2, e, a, b⟩ := Rps.take' n h2
    exact ⟨F ++ F1, F2, by rw [e, List.append_assoc], .cons h1 a, b⟩
theorem l_ins : LopOk X "list.insert" oIns where
  ok := ⟨_, mt_insert, fun H a vs us ws Q h1 h2 h3 q => by
    unfold oIns at h3
    split at h3
    · rename_i i y
      obtain ⟨k, ek, h3⟩ := bind_some h3
      split at h3
      · rename_i hk
        cases h3
        have : i = .int k := by cases i <;> first | (cases ek; rfl) | cases ek
        subst this
        exact ⟨a, vs, k, y, rfl, rfl, h1, Nat.lt_of_le_of_lt h2 (by rw [sizeLine_eq]; decide), hk.1, by omega, q⟩
      · cases h3
    · cases h3⟩
  pick := fun {K S H l vs us ds es zs F G} r1 r2 nd e => by
    unfold oIns at e
    split at e
    · rename_i i y
      obtain ⟨k, ek, e⟩ := bind_some e
      split at e
      · rename_i hk
        cases e
        cases r2 with
        | cons h1 h2 =>
          cases h2 with
          | cons h3 h4 =>
            cases h4
            rename_i v1 F1 v2 F2
            obtain ⟨A, B, eF, t1, t2⟩ := r1.take' k.toNat
            have ei : i = .int k := by cases i <;> first | (cases ek; rfl) | cases ek
            subst ei
            obtain ⟨rfl, rfl⟩ := h1.int_inv
            refine ⟨_ ++ [v2] ++ _, (A ++ F2) ++ B, by simp only [oIns, intV, Option.bind_some, if_pos hk], ((t1.app (by have := Rps.cons h3 .nil; rw [List.append_nil] at this; exact this)).app t2), fun b z => ?_, ?_⟩
            · rw [eF]
              rcases List.mem_append.mp z with z | z
              · rcases List.mem_append.mp z with z | z <;> simp [z]
              · simp [z]
            · rw [eF] at nd
              have p : ((A ++ F2) ++ B).Perm ((A ++ B) ++ ([] ++ (F2 ++ []))) := by
                simp only [List.nil_append, List.append_nil, List.append_assoc]
                exact List.Perm.append_left A List.perm_append_comm
              exact p.nodup_iff.mpr nd
      · cases e
    · cases e
end
end Ev

set_option Elab.async false
set_option linter.all false
set_option maxRecDepth 100000

namespace Ev
open PySem PySem.Spec L2
open PyProof.Rows hiding St


structure Blts (mg : Str → Option Value) : Prop where
  len : mg "len" = none
  min : mg "min" = none
  max : mg "max" = none
  sum : mg "sum" = none
  sorted : mg "sorted" = none
  list : mg "list" = none
  range : mg "range" = none
  zip : mg "zip" = none
  enumerate : mg "enumerate" = none
  abs : mg "abs" = none
  int : mg "int" = none
  isinstance : mg "isinstance" = none
  bool : mg "bool" = none
  tuple : mg "tuple" = none
  str : mg "str" = none
  set : mg "set" = none
  all : mg "all" = none
  any : mg "any" = none
  reversed : mg "reversed" = none
  dict : mg "dict" = none
theorem bt_bool : bootBuiltins "bool" = some (.type "bool") := by decide +kernel
section
variable {X : Cx} {e e2 : Expr} {fe fa fb : EvE} {pos pos' : Pos} {x : Str}
theorem x_eq (hu : X.A.units + 65 < cLine) : CmpOk X .Eq gEq := c_eq (by omega)
theorem x_ne (hu : X.A.units + 65 < cLine) : CmpOk X .NotEq gNe := c_ne (by omega)
theorem x_lt (hu : X.A.units + 65 < cLine) : CmpOk X .Lt gLt := c_lt (by omega)
theorem x_le (hu : X.A.units + 65 < cLine) : CmpOk X .LtE gLe := c_le (by omega)
theorem x_ge (hu : X.A.units + 65 < cLine) : CmpOk X .GtE gGe := c_ge (by omega)
theorem x_gt (hu : X.A.units + 65 < cLine) : CmpOk X .Gt gGt := c_gt
theorem x_is (hu : X.A.units + 65 < cLine) : CmpOk X .Is gIs := c_is
theorem x_isnot (hu : X.A.units + 65 < cLine) : CmpOk X .IsNot gIsNot := c_isnot
theorem x_in (hu : X.A.units + 65 < cLine) : CmpOk X .In gIn := c_in hu
theorem x_nin (hu : X.A.units + 65 < cLine) : CmpOk X .NotIn gNin := c_nin hu
theorem x_ix (hu : X.A.units + 65 < cLine) (ha : PEv X e fa) (hb : PEv X e2 fb) (hs : PlainIx e2 := by exact fun _ _ => rfl) : PEv X (.Subscript e e2 pos) (eIx fa fb) := e_ix (by omega) ha hb hs

def sAug (g : Int → Int → Int) (i : Nat) (fe : EvE) : EvS := fun ρ => match ρ[i]? with
  | some (some s) => (fe ρ).bind fun r => match s.d, r.d with
    | .int a, .int b => some (.nx (ρ.set i (some ⟨.int (g a b), .full, false, none⟩)))
    | _, _ => none
  | _ => none
theorem s_augI {op : Operator} {g : Int → Int → Int} (i : Nat) (ho : PIp X op (ipI g)) (he : PEv X e fe) (hN : X.N.Nodup) (hi : X.N[i]? = some x := by rfl) (hx : Loc X.env.scope x := by first | exact Or.inl rfl | exact Or.inr rfl) (hf : X.fn x = true ∨ X.env.scope.names.lookup x = some .local := by first | exact .inl rfl | exact .inr rfl | assumption) :
    PSv X (.AugAssign (.Name x pos') op e pos) (sAug g i fe) := by
  refine imp_s (ps_aug hN hi hx he ho hf) fun D σ H ⟨N, H0, ρ, L, o, sim, z, q⟩ => ?_
  unfold sAug at z
  split at z
  · rename_i s es
    obtain ⟨r, e1, z⟩ := bind_some z
    split at z
    · rename_i a b ha hb
      cases z
      obtain ⟨v, G, ev, rp, sub⟩ := sim.sl.get es
      rw [ha] at rp
      obtain ⟨rfl, _⟩ := rp.int_inv
      refine ⟨.int a, ev, one sim.h e1 fun w H1 F s1 n1 d1 p1 => ?_⟩
      rw [hb] at p1
      obtain ⟨rfl, _⟩ := p1.int_inv
      obtain ⟨L2, sim2, sub2⟩ := sim.set (i := i) (v := .int (g a b)) (r := ⟨.int (g a b), .full, false, none⟩) (G := []) (fun _ z => nomatch z) s1 (fun _ z => nomatch z) .nil .int (List.getElem?_eq_some_iff.mp es).1
      exact ⟨a, b, rfl, rfl, q _ H1 L2 sim2 (Frm.same s1 fun b z => (sub2 b z).imp id fun z => nomatch z)⟩
    · cases z
  · cases z
theorem s_aadd (i : Nat) (he : PEv X e fe) (hN : X.N.Nodup) (hi : X.N[i]? = some x := by rfl) (hx : Loc X.env.scope x := by first | exact Or.inl rfl | exact Or.inr rfl) (hf : X.fn x = true ∨ X.env.scope.names.lookup x = some .local := by first | exact .inl rfl | exact .inr rfl | assumption) :
    PSv X (.AugAssign (.Name x pos') .Add e pos) (sAug (fun a b => a + b) i fe) := s_augI i ip_add he hN hi hx hf
theorem s_asub (i : Nat) (he : PEv X e fe) (hN : X.N.Nodup) (hi : X.N[i]? = some x := by rfl) (hx : Loc X.env.scope x := by first | exact Or.inl rfl | exact Or.inr rfl) (hf : X.fn x = true ∨ X.env.scope.names.lookup x = some .local := by first | exact .inl rfl | exact .inr rfl | assumption) :
    PSv X (.AugAssign (.Name x pos') .Sub e pos) (sAug (fun a b => a - b) i fe) := s_augI i ip_sub he hN hi hx hf
end
abbrev eShr := eOp (fun _ j => decide (0 ≤ j)) fun i j => .int (i / 2 ^ j.toNat)
abbrev eAnd2 := eOp cT fun i j => .int (Builtin.bitAnd i j)
def eDk : EvE := fun _ => some ⟨.dk [], .full, false, false⟩
def eDt : EvE := fun _ => some ⟨.dt [], .full, false, false⟩
def sBrk : EvS := fun ρ => some (.bk ρ)
def sCnt : EvS := fun ρ => some (.ct ρ)
def sRet0 : EvS := fun ρ => some (.rt ρ .non .full false)
theorem len1 {f : EvE} : ∀ ρ rs, aCons f aNil ρ = some rs → rs.length = 1 := aCons_len fun _ _ h => aNil_len h
theorem len2 {f g : EvE} : ∀ ρ rs, aCons f (aCons g aNil) ρ = some rs → rs.length = 2 := aCons_len len1
theorem len3 {f g h : EvE} : ∀ ρ rs, aCons f (aCons g (aCons h aNil)) ρ = some rs → rs.length = 3 := aCons_len len2
theorem len4 {f g h i : EvE} : ∀ ρ rs, aCons f (aCons g (aCons h (aCons i aNil))) ρ = some rs → rs.length = 4 := aCons_len len3
theorem len5 {f g h i j : EvE} : ∀ ρ rs, aCons f (aCons g (aCons h (aCons i (aCons j aNil)))) ρ = some rs → rs.length = 5 := aCons_len len4
theorem hu_room {k : Nat} {A : Around} (hr : Room k A) : A.units + 65 < cLine := by have := hr.un; omega

theorem fnD_of {P : Program} {w : World} {K : PySem.W.Frag} {mg : Str → Option Value} {base : Heap} {k n : Nat} {x : Str} {φ : List D → Option RetD} {f : Addr} {fd : FuncData} {ps : List Str} (F : FnOk P w K mg base CX0 k f fd ps (spD K n φ)) (hm : mg x = some (.ref f)) (hk : PySem.W.keepIn K (.ref f) = true) (hb : Binds K fd ps []) : FnD P w K mg base k x n φ := ⟨f, fd, ps, F, hm, hk, hb⟩
end Ev

set_option Elab.async false
set_option linter.all false
set_option maxRecDepth 100000

namespace Ev
open PySem PySem.Spec L2
open PyProof.Rows hiding St
section
variable {X : Cx}
def mCount : D → List D → Option Ret
  | .lst ds, [.int k] => (intsOf ds).map fun ns => (.int (ns.count k : Nat), .full)
  | _, _ => none
theorem m_count : MtOk X "list" "list.count" mCount := ⟨_, mt_lcount, fun S H v d vs ds z Q r1 r2 e q => by
  unfold mCount at e
  split at e
  · rename_i ds k
    obtain ⟨ns, ej, e⟩ := Option.map_eq_some_iff.mp e
    subst e
    have := intsOf_some ej
    subst this
    obtain ⟨w, rfl, r3⟩ := r2.inv1
    obtain ⟨rfl, _⟩ := r3.int_inv
    obtain ⟨a, us, rfl, h1, _, h3⟩ := r1.lst_shr
    have := h3.ints.1
    subst this
    exact ⟨a, ns, k, rfl, rfl, SqL.of h1, q.atom fun _ => .int⟩
  · cases e⟩
end
end Ev

set_option Elab.async false
set_option linter.all false
set_option maxRecDepth 100000

namespace Ev
open PySem PySem.Spec L2
open PyProof.Rows hiding St
section
variable {X : Cx} {st : Stmt} {f : EvS}
def sFz (z : List Nat) (f : EvS) : EvS := fun ρ => f (frzs z ρ)
theorem s_fz (z : List Nat) (h : PSv X st f) : PSv X st (sFz z f) := imp_s h fun D σ H ⟨N, H0, ρ, L, o, sim, e, q⟩ => by
  obtain ⟨L1, sim1, sub⟩ := sim.frzs z
  exact ⟨N, H0, frzs z ρ, L1, o, sim1, e, q.at_ (Frm.same (Same.refl H) fun b w => .inl (sub b w))⟩
end
end Ev

set_option Elab.async false
set_option linter.all false
set_option maxRecDepth 100000

namespace Ev
open PySem PySem.Spec L2
open PyProof.Rows hiding St


def dInts (ns : List Int) : List D := ns.map .int
@[simp] theorem map_int (ns : List Int) : ns.map D.int = dInts ns := rfl
def dPair (p : Int × Int) : D := .tup [.int p.1, .int p.2]
@[simp] theorem dInts_nil : dInts [] = [] := rfl
@[simp] theorem dInts_cons (n : Int) (ns : List Int) : dInts (n :: ns) = .int n :: dInts ns := rfl
@[simp] theorem dInts_len (ns : List Int) : (dInts ns).length = ns.length := List.length_map _
theorem dInts_app (a b : List Int) : dInts (a ++ b) = dInts a ++ dInts b := List.map_append
@[simp] theorem intsOf_d (ns : List Int) : intsOf (dInts ns) = some ns := intsOf_map ns
@[simp] theorem immAll_ints (ns : List Int) : immAll (dInts ns) = true := by
  induction ns with
  | nil => rfl
  | cons n ns ih => rw [dInts_cons, immAll, ih]; rfl
@[simp] theorem shps_ints (k : Nat) (ns : List Int) : shps k (dInts ns) = true := by
  induction ns with
  | nil => rfl
  | cons n ns ih => rw [dInts_cons, shps, ih]; simp [shp]
@[simp] theorem imm_pair (p : Int × Int) : imm (dPair p) = true := rfl
@[simp] theorem immAll_pairs (ps : List (Int × Int)) : immAll (ps.map dPair) = true := by
  induction ps with
  | nil => rfl
  | cons n ns ih => rw [List.map_cons, immAll, ih]; rfl
@[simp] theorem shp_pair (k : Nat) (p : Int × Int) : shp (k + 1) (dPair p) = true := by simp [dPair, shp, shps]
@[simp] theorem shps_pairs (k : Nat) (ps : List (Int × Int)) : shps (k + 1) (ps.map dPair) = true := by
  induction ps with
  | nil => rfl
  | cons n ns ih => rw [List.map_cons, shps, ih, shp_pair]; rfl
@[simp] theorem shps_pairs7 (ps : List (Int × Int)) : shps 7 (ps.map dPair) = true := shps_pairs 6 ps
theorem eqv_ints : ∀ a b : List Int, PyData.eqvAll (pds (dInts a)) (pds (dInts b)) = decide (a = b)
  | [], [] => by simp [pds, PyData.eqvAll]
  | [], _ :: _ => by simp [pds, PyData.eqvAll]
  | _ :: _, [] => by simp [pds, PyData.eqvAll]
  | x :: a, y :: b => by
    simp only [dInts_cons, pds, pd, PyData.eqvAll, PyData.eqv, eqv_ints a b]
    by_cases h : x = y <;> simp [h]
@[simp] theorem deq_int (a b : Int) : deq (.int a) (.int b) = decide (a = b) := by
  unfold deq
  simp only [pd, PyData.eqv]
  by_cases h : a = b <;> simp [h]
@[simp] theorem deq_ints (a b : List Int) : deq (.lst (dInts a)) (.lst (dInts b)) = decide (a = b) := by
  unfold deq
  simp only [pd, PyData.eqv]
  exact eqv_ints a b
@[simp] theorem deq_pair (p q : Int × Int) : deq (dPair p) (dPair q) = decide (p = q) := by
  unfold deq dPair
  simp only [pd, pds, PyData.eqv, PyData.eqvAll]
  obtain ⟨a, b⟩ := p
  obtain ⟨c, d⟩ := q
  by_cases h : a = c <;> by_cases h2 : b = d <;> simp [h, h2]
theorem eqv_pairs : ∀ a b : List (Int × Int), PyData.eqvAll (pds (a.map dPair)) (pds (b.map dPair)) = decide (a = b)
  | [], [] => by simp [pds, PyData.eqvAll]
  | [], _ :: _ => by simp [pds, PyData.eqvAll]
  | _ :: _, [] => by simp [pds, PyData.eqvAll]
  | x :: a, y :: b => by
    have h := deq_pair x y
    unfold deq at h
    simp only [List.map_cons, pds, PyData.eqvAll, eqv_pairs a b, h]
    by_cases h : x = y <;> simp [h]
@[simp] theorem deq_pairs (a b : List (Int × Int)) : deq (.lst (a.map dPair)) (.lst (b.map dPair)) = decide (a = b) := by
  unfold deq
  simp only [pd, PyData.eqv]
  exact eqv_pairs a b
theorem rowsOf_pairs : ∀ ps : List (Int × Int), rowsOf (ps.map dPair) = some (ps.map fun p => [p.1, p.2])
  | [] => rfl
  | p :: ps => by
    rw [List.map_cons, rowsOf, rowsOf_pairs ps]
    rfl


theorem forL_ind {α : Type} {t : Tg} {b : EvS} {f : α → D × Bool} {xs : List α} {ρ0 : Env} (P : List α → Env → Prop) (h0 : P [] ρ0)
    (hs : ∀ pre x post ρ, xs = pre ++ x :: post → P pre ρ → ∃ ρ1 ρ2, tgSet t (f x).1 (f x).2 ρ = some ρ1 ∧ (b ρ1 = some (.nx ρ2) ∨ b ρ1 = some (.ct ρ2)) ∧ P (pre ++ [x]) ρ2) :
    ∃ ρ', forL t b (xs.map f) ρ0 = some (.nx ρ') ∧ P xs ρ' := by
  have go : ∀ (post pre : List α) (ρ : Env), xs = pre ++ post → P pre ρ → ∃ ρ', forL t b (post.map f) ρ = some (.nx ρ') ∧ P xs ρ' := by
    intro post
    induction post with
    | nil => exact fun pre ρ e p => ⟨ρ, rfl, by rw [e, List.append_nil]; exact p⟩
    | cons x post ih =>
      intro pre ρ e p
      obtain ⟨ρ1, ρ2, e1, e2, p2⟩ := hs pre x post ρ e p
      obtain ⟨ρ', e3, p3⟩ := ih (pre ++ [x]) ρ2 (by rw [e, List.append_assoc]; rfl) p2
      refine ⟨ρ', ?_, p3⟩
      rw [List.map_cons]
      unfold forL
      rw [e1]
      rcases e2 with e2 | e2 <;> (simp only [Option.bind_some, e2]; exact e3)
  exact go xs [] ρ0 rfl h0
theorem pre_range {m : Nat} {pre post : List Nat} {x : Nat} (e : List.range m = pre ++ x :: post) : x = pre.length ∧ x < m := by
  have h : (List.range m)[pre.length]? = some x := by rw [e]; simp
  obtain ⟨h1, h2⟩ := List.getElem?_eq_some_iff.mp h
  rw [List.getElem_range] at h2
  rw [List.length_range] at h1
  omega

theorem forR_ind {t : Tg} {b : EvS} {lo : Int} {n : Nat} {ρ0 : Env} (P : Nat → Env → Prop) (h0 : P 0 ρ0)
    (hs : ∀ k ρ, k < n → P k ρ → ∃ ρ1 ρ2, tgSet t (.int (lo + (k : Int))) false ρ = some ρ1 ∧ (b ρ1 = some (.nx ρ2) ∨ b ρ1 = some (.ct ρ2)) ∧ P (k + 1) ρ2) :
    ∃ ρ', forL t b (iRng lo n) ρ0 = some (.nx ρ') ∧ P n ρ' := by
  obtain ⟨ρ', h, p⟩ := forL_ind (t := t) (b := b) (f := fun (i : Nat) => (D.int (lo + (i : Int)), false)) (xs := List.range n) (ρ0 := ρ0) (fun pre ρ => P pre.length ρ) h0 (fun pre x post ρ e p => by
    obtain ⟨rfl, hx⟩ := pre_range e
    obtain ⟨ρ1, ρ2, h1, h2, h3⟩ := hs _ ρ hx p
    exact ⟨ρ1, ρ2, h1, h2, by rw [List.length_append]; exact h3⟩)
  rw [List.length_range] at p
  exact ⟨ρ', h, p⟩
theorem forR0_ind {t : Tg} {b : EvS} {n : Nat} {ρ0 : Env} (P : Nat → Env → Prop) (h0 : P 0 ρ0)
    (hs : ∀ (k : Nat) ρ, k < n → P k ρ → ∃ ρ1 ρ2, tgSet t (.int (k : Int)) false ρ = some ρ1 ∧ (b ρ1 = some (.nx ρ2) ∨ b ρ1 = some (.ct ρ2)) ∧ P (k + 1) ρ2) :
    ∃ ρ', forL t b (iRng 0 n) ρ0 = some (.nx ρ') ∧ P n ρ' := forR_ind P h0 fun k ρ hk p => by rw [Int.zero_add]; exact hs k ρ hk p
theorem sFor_eq {fz : List Nat} {it : EvI} {t : Tg} {b : EvS} {ρ : Env} {items : List (D × Bool)} (h : it (frzs fz ρ) = some items) : sFor fz it t b ρ = forL t b items (frzs fz ρ) := by
  unfold sFor
  rw [h]
  rfl
theorem iRange_1 {f : EvE} {ρ : Env} {r : Rv} {n : Nat} (h : f ρ = some r) (hd : r.d = .int n) (hn : n ≤ 1000000000) : iRange (aCons f aNil) ρ = some (iRng 0 n) := by
  unfold iRange aCons aNil
  simp only [h, Option.bind_some, List.map_cons, List.map_nil, hd]
  rw [if_pos (by omega)]
  congr 2
theorem sSeq_nx {f g : EvS} {ρ ρ' : Env} (h : f ρ = some (.nx ρ')) : sSeq f g ρ = g ρ' := by
  unfold sSeq
  rw [h]
  rfl
theorem lcL_map {α : Type} {t : Tg} {c : EvT} {e : EvE} {f : α → D × Bool} {ρ : Env} (p : α → Bool) (g : α → Rv) : ∀ xs : List α,
    (∀ x ∈ xs, ∃ ρ1, tgSet t (f x).1 (f x).2 ρ = some ρ1 ∧ c ρ1 = some (p x) ∧ (p x = true → e ρ1 = some (g x) ∧ (g x).vw = false)) → lcL t c e ρ (xs.map f) = some ((xs.filter p).map g)
  | [], _ => rfl
  | x :: xs, h => by
    obtain ⟨ρ1, e1, e2, e3⟩ := h x List.mem_cons_self
    have ih := lcL_map p g xs fun y hy => h y (List.mem_cons_of_mem _ hy)
    rw [List.map_cons]
    unfold lcL
    rw [e1, ih]
    simp only [Option.bind_some, e2]
    cases hp : p x with
    | true =>
      obtain ⟨e4, e5⟩ := e3 hp
      simp [e4, e5, hp]
    | false => simp [hp]
theorem mkBig_full {α : Type} (g : α → D) (xs : List α) (h : xs.length ≤ 1000000) : mkBig (xs.map fun x => rA (g x)) = some ⟨.lst (xs.map g), .full, false, false⟩ := by
  unfold mkBig
  rw [List.length_map, if_pos h]
  have : (xs.map fun x => rA (g x)).all (fun r => !r.vw && decide (r.l = .full)) = true := by simp [rA]
  rw [if_pos this]
  have h2 : (xs.map fun x => rA (g x)).any (fun x => x.al) = false := by simp [rA]
  rw [h2, List.map_map]
  rfl


theorem ins_map {α β : Type} (f : α → β) (lt : β → β → Bool) (x : α) : ∀ l : List α, isort.insF lt (f x) (l.map f) = (isort.insF (fun a b => lt (f a) (f b)) x l).map f
  | [] => rfl
  | y :: ys => by
    rw [List.map_cons]
    unfold isort.insF
    by_cases h : lt (f y) (f x) = true
    · rw [if_pos h, if_pos h, ins_map f lt x ys, List.map_cons]
    · rw [if_neg h, if_neg h, List.map_cons, List.map_cons]
theorem isort_map {α β : Type} (f : α → β) (lt : β → β → Bool) : ∀ l : List α, isort lt (l.map f) = (isort (fun a b => lt (f a) (f b)) l).map f
  | [] => rfl
  | x :: l => by
    rw [List.map_cons]
    show isort.insF lt (f x) (isort lt (l.map f)) = _
    rw [isort_map f lt l, ins_map]
    rfl
def ltP (p q : Int × Int) : Bool := HT.lexLt [p.1, p.2] [q.1, q.2]
abbrev sortP (ps : List (Int × Int)) : List (Int × Int) := isort ltP ps
theorem bSorted_ints (ns : List Int) : bSorted [.lst (dInts ns)] = some (.lst (dInts (sortI ns)), .top) := by
  show (bSortedI [.lst (dInts ns)]).or _ = _
  have : bSortedI [.lst (dInts ns)] = some (.lst (dInts (sortI ns)), .top) := by
    unfold bSortedI
    simp only [seqOf, Option.bind_some, intsOf_d, Option.map_some]
    rfl
  rw [this]
  rfl
theorem sameLen_pairs : ∀ ps : List (Int × Int), sameLen (ps.map fun p => [p.1, p.2]) = true
  | [] => rfl
  | p :: ps => by
    unfold sameLen
    rw [List.map_cons]
    simp
theorem bSorted_pairs (ps : List (Int × Int)) : bSorted [.lst (ps.map dPair)] = some (.lst ((sortP ps).map dPair), .top) := by
  cases ps with
  | nil => rfl
  | cons p ps =>
    have h1 : bSortedI [.lst ((p :: ps).map dPair)] = none := rfl
    show (bSortedI [.lst ((p :: ps).map dPair)]).or (bSortedR [.lst ((p :: ps).map dPair)]) = _
    rw [h1]
    show bSortedR [.lst ((p :: ps).map dPair)] = _
    unfold bSortedR
    simp only [seqOf, Option.bind_some, rowsOf_pairs, sameLen_pairs, if_true]
    have : sortR ((p :: ps).map fun p => [p.1, p.2]) = (sortP (p :: ps)).map fun p => [p.1, p.2] := isort_map _ _ _
    rw [this, List.map_map]
    rfl
@[simp] theorem any_ints (ns : List Int) (a : Int) : ((dInts ns).any fun z => deq z (.int a)) = decide (a ∈ ns) := by
  induction ns with
  | nil => simp
  | cons n ns ih =>
    rw [dInts_cons, List.any_cons, ih, deq_int]
    by_cases h : n = a
    · simp [h]
    · simp [h]; exact fun z => absurd z.symm h
@[simp] theorem any_pairs (ns : List (Int × Int)) (a : Int × Int) : ((ns.map dPair).any fun z => deq z (dPair a)) = decide (a ∈ ns) := by
  induction ns with
  | nil => simp
  | cons n ns ih =>
    rw [List.map_cons, List.any_cons, ih, deq_pair]
    by_cases h : n = a
    · simp [h]
    · simp [h]; exact fun z => absurd z.symm h
theorem idx_ints (ns : List Int) (a : Int) : ((dInts ns).findIdx? fun z => deq z (.int a)) = ns.findIdx? fun z => decide (z = a) := by
  unfold dInts
  rw [List.findIdx?_map]
  congr 1
theorem idx_at {ns : List Int} (nd : ns.Nodup) {i : Nat} (h : i < ns.length) : (ns.findIdx? fun z => decide (z = ns[i])) = some i := by
  rw [List.findIdx?_eq_some_iff_getElem]
  refine ⟨h, by simp, fun j hj => ?_⟩
  simp only [decide_eq_true_eq]
  intro e
  have := (List.getElem_inj nd).mp e
  omega
theorem sortI_perm {a b : List Int} (h : a.Perm b) : sortI a = sortI b := by
  refine sortI_uniq ((isort_perm a).trans h) ?_
  exact (isort_srtd swo_int a).imp fun {x y} h => by have := of_decide_eq_false h; omega
theorem sortP_swo : SrtO.Swo ltP := ⟨fun x y h => EvS.lt_asym _ _ h, fun x y z h1 h2 => EvS.lt_neg_trans _ _ _ h2 h1⟩

theorem isort_sorted {α : Type} {lt : α → α → Bool} : ∀ {l : List α}, SrtO.Srtd lt l → isort lt l = l
  | [], _ => rfl
  | x :: l, h => by
    have hh := List.pairwise_cons.mp h
    show isort.insF lt x (isort lt l) = _
    rw [isort_sorted hh.2]
    cases l with
    | nil => rfl
    | cons y ys =>
      unfold isort.insF
      rw [if_neg (by rw [hh.1 y List.mem_cons_self]; exact Bool.false_ne_true)]
theorem sortP_idem (ps : List (Int × Int)) : sortP (sortP ps) = sortP ps := isort_sorted (isort_srtd sortP_swo ps)
theorem kit_ii : kitB "int" "int" = some true := by decide +kernel
theorem kit_ib : kitB "int" "bool" = some false := by decide +kernel
theorem kit_ll : kitB "list" "list" = some true := by decide +kernel
theorem kit_tt : kitB "tuple" "tuple" = some true := by decide +kernel
theorem atI_ints (ns : List Int) (k : Nat) (h : k < ns.length) : L2.atI (dInts ns) (k : Int) = some (.int ns[k]) := by
  unfold L2.atI ixN
  rw [dInts_len, if_pos (by omega), if_pos (by omega)]
  simp only [Option.bind_some, dInts, Int.toNat_natCast]
  rw [List.getElem?_map, List.getElem?_eq_getElem h]
  rfl
end Ev

set_option Elab.async false
set_option linter.all false
set_option maxRecDepth 100000

namespace Ev
open PySem PySem.Spec L2
open PyProof.Rows hiding St

section
variable {K : PySem.W.Frag} {S S' : Addr → Prop} {H : Hp} {l : Lv} {v : V} {F : List Addr}
theorem Rp.ins_inv {C : Addr} {fd : List (Str × D)} (p : Rp K S H l v (.ins C fd) F) : ∃ a dx fv G, v = .ref a ∧ H a = some (.ins C dx fv) ∧ fv.map (·.1) = fd.map (·.1) ∧ Rps K S H (ch l) (fv.map (·.2)) (fd.map (·.2)) G ∧ ∀ b ∈ G, b ∈ F := by
  cases p with
  | nd0 h h1 h2 h3 => cases h with | ins e => exact ⟨_, _, _, _, rfl, h1.ins, e, h3, fun _ z => z⟩
  | nd1 h0 h h1 h2 => cases h with | ins e => exact ⟨_, _, _, _, rfl, h1, e, h2, fun _ z => List.mem_cons_of_mem _ z⟩
theorem fld_rp : ∀ {kv : List (Str × V)} {kd : List (Str × D)} {F : List Addr} {f : Str} {d : D}, kv.map (·.1) = kd.map (·.1) → Rps K S H l (kv.map (·.2)) (kd.map (·.2)) F → kd.lookup f = some d →
    ∃ v G, kv.lookup f = some v ∧ Rp K S H l v d G ∧ ∀ b ∈ G, b ∈ F
  | [], [], _, f, d, _, _, h => by cases h
  | [], _ :: _, _, f, d, e, _, _ => by cases e
  | _ :: _, [], _, f, d, e, _, _ => by cases e
  | p :: kv, p' :: kd, F, f, d, e, r, h => by
    have e1 : p.1 = p'.1 := by have := congrArg List.head? e; simpa using this
    have e2 : kv.map (·.1) = kd.map (·.1) := by have := congrArg List.tail e; simpa using this
    have r : Rps K S H l (p.2 :: kv.map (·.2)) (p'.2 :: kd.map (·.2)) F := r
    obtain ⟨k1, v1⟩ := p
    obtain ⟨k2, d2⟩ := p'
    dsimp only at e1
    subst e1
    cases r with
    | cons h1 h2 =>
      rw [List.lookup_cons] at h ⊢
      cases hk : f == k1 with
      | true =>
        rw [hk] at h
        cases h
        exact ⟨v1, _, rfl, h1, fun _ z => List.mem_append_left _ z⟩
      | false =>
        rw [hk] at h
        obtain ⟨w, G, q1, q2, q3⟩ := fld_rp e2 h2 h
        exact ⟨w, G, q1, q2, fun b z => List.mem_append_right _ (q3 b z)⟩
theorem fld_none : ∀ {kv : List (Str × V)} {kd : List (Str × D)} {f : Str}, kv.map (·.1) = kd.map (·.1) → kd.lookup f = none → kv.lookup f = none
  | [], [], f, _, _ => rfl
  | [], _ :: _, f, e, _ => by cases e
  | _ :: _, [], f, e, _ => by cases e
  | p :: kv, p' :: kd, f, e, h => by
    have e1 : p.1 = p'.1 := by have := congrArg List.head? e; simpa using this
    have e2 : kv.map (·.1) = kd.map (·.1) := by have := congrArg List.tail e; simpa using this
    obtain ⟨k1, v1⟩ := p
    obtain ⟨k2, d2⟩ := p'
    dsimp only at e1
    subst e1
    rw [List.lookup_cons] at h ⊢
    cases hk : f == k1 with
    | true => rw [hk] at h; cases h
    | false =>
      rw [hk] at h
      exact fld_none e2 h
end

def eAt (C : Addr) (f : Str) (fe : EvE) : EvE := fun ρ => (fe ρ).bind fun x => match x.d with
  | .ins C' fd => if C' = C then (fd.lookup f).map (part x) else none
  | _ => none

def eMeth (C : Addr) (m : Str) (φ : List D → Option RetD) (fo : EvE) (ga : EvA) : EvE := fun ρ => (fo ρ).bind fun x => match x.d with
  | .ins C' fd => if C' = C ∧ (fd.lookup m).isNone = true then (ga ρ).bind fun rs => (φ (x.d :: rs.map (·.d))).map (mkR (x.al || rs.any (·.al)) (x.vw || rs.any (·.vw))) else none
  | _ => none
section
variable {X : Cx} {k n : Nat} {C fa : Addr} {f m : Str} {e o : Expr} {es : List Expr} {fe fo : EvE} {ga : EvA} {pos apos : Pos} {fd : FuncData} {ps : List Str} {φ : List D → Option RetD}
theorem e_at (c : Cls X.K C) (n : NoAttr X.K C f) (he : PEv X e fe) (hb : attributeBase e f X.env (eval e X.env) = eval e X.env := by rfl) : PEv X (.Attribute e f pos) (eAt C f fe) := by
  refine imp_e (pe_fld he hb) fun σ H Q ⟨N, H0, ρ, L, W, r, sim, z, q⟩ => ?_
  unfold eAt at z
  obtain ⟨x, e1, z2⟩ := bind_some z
  clear z
  have z := z2
  clear z2
  split at z
  · rename_i C' fd hd
    split at z
    · rename_i hC
      subst hC
      obtain ⟨d, e2, z⟩ := Option.map_eq_some_iff.mp z
      subst z
      refine one sim e1 fun v H1 F s1 n1 d1 p1 => ?_
      have new : ∀ a ∈ F, N a ∧ a ∉ W := fun a m => ⟨sim.nw a (n1 a m), fun w => sim.th a w (n1 a m)⟩
      have p2 := p1
      rw [hd] at p2
      obtain ⟨a, dx, fv, G, rfl, h1, h2, h3, h4⟩ := p2.ins_inv
      obtain ⟨u, G2, e3, rp, sub⟩ := fld_rp h2 h3 e2
      exact ⟨a, C', dx, fv, u, rfl, h1, c, n, e3, part_out q s1 new (fun a z => z.1) rp fun b z => h4 b (sub b z)⟩
    · cases z
  · cases z
theorem e_meth {pl : Sem Bool} (c : Cls X.K C) (hm : Meth X.K C m fa) (F : FnOk X.prog X.w X.K X.mg X.base CX0 k fa fd ps (spD X.K n φ)) (hb : Binds X.K fd ps []) (hr : Room k X.A) (ho : PEv X o fo) (ha : PAv X (e :: es) ga) (hl : ∀ ρ rs, ga ρ = some rs → rs.length + 1 = n)
    (hst : starEach (e :: es) X.env = (false, eval e X.env) :: starEach es X.env := by rfl) (hpl : (backTo pos (starEach es X.env)).any (·.1) = false := by rfl)
    (ht : eval (.Call (.Attribute o m apos) (e :: es) [] pos) X.env = (do
      let ov ← eval o X.env
      standAt apos.atName
      let (f, first) ← holding [ov] (getMethod ov m pl)
      callWith pos f first (backTo pos (starEach (e :: es) X.env)) (backToKw pos (keywordEach [] X.env))) := by rfl) :
    PEv X (.Call (.Attribute o m apos) (e :: es) [] pos) (eMeth C m φ fo ga) := by
  refine imp_e (pe_meth ho c hm F hr hb .nil pass0 ha hst hpl ht) fun σ H Q ⟨N, H0, ρ, L, W, r, sim, z, q⟩ => ?_
  unfold eMeth at z
  obtain ⟨x, e0, z2⟩ := bind_some z
  clear z
  have z := z2
  clear z2
  split at z
  · rename_i C' fds hd
    split at z
    · rename_i hC
      obtain ⟨hC, hno⟩ := hC
      subst hC
      obtain ⟨rs, e1, z2⟩ := bind_some z
      clear z
      obtain ⟨r', e2, z⟩ := Option.map_eq_some_iff.mp z2
      subst z
      refine one sim e0 fun v H1 F s1 n1 d1 p1 => ?_
      have p0 := p1
      rw [hd] at p0
      obtain ⟨a, dx, fv, G, rfl, h1, h2, h3, h4⟩ := p0.ins_inv
      refine ⟨a, dx, fv, rfl, h1, fld_none h2 (Option.isNone_iff_eq_none.mp hno), ?_⟩
      refine ⟨N, H0, ρ, L, W ++ F, rs, sim.hold s1 n1 d1 p1.own_mut, e1, fun vs H2 T s2 n2 d2 p2 => ?_⟩
      show spD X.K n φ (V.ref a :: (vs ++ [])) H2 Q _
      rw [List.append_nil]
      have hF : ∀ a ∈ F, N a ∧ a ∉ W := fun a m => ⟨sim.nw a (n1 a m), fun w => sim.th a w (n1 a m)⟩
      have hT : ∀ a ∈ T, N a ∧ a ∉ W := fun a m => ⟨sim.nw a (s1.free (n2 a m)), fun w => sim.th a w (s1.free (n2 a m))⟩
      have hT2 : ∀ a ∈ T, N a ∧ a ∉ W ++ F := fun a m => ⟨(hT a m).1, fun w => (List.mem_append.mp w).elim (hT a m).2 fun w => by have := p1.own_trk a w; exact this (n2 a m)⟩
      have q1 := p2.give' (al := x.al || rs.any (·.al)) (vw := x.vw || rs.any (·.vw)) hT2 (fun _ m => m) (fun r h e => by rw [any_of (p := fun r : Rv => r.al) r h e, Bool.or_true]) (fun r h e => by rw [any_of (p := fun r : Rv => r.vw) r h e, Bool.or_true])
      refine ⟨by rw [List.length_cons, p2.len]; exact hl ρ rs e1, SR N W (x.al || rs.any (·.al)) (x.vw || rs.any (·.vw)), x.d :: rs.map (·.d), r', Rps.cons (F := []) (G := []) ((p1.same s2).give (fun a z => ⟨z.1.1.up (fun e => by rw [e]; rfl), fun e => z.1.2 (by simp only [Bool.or_eq_false_iff] at e; exact e.1)⟩) fun a m => ⟨.new (hF a m).1, fun _ => (hF a m).2⟩) (q1.mono fun a z => ⟨z.1, fun e w => z.2 e (List.mem_append_left _ w)⟩), e2, fun u H3 G3 s3 n3 d3 p3 => ?_⟩
      exact q.ret (s1.trans (s2.trans s3)) (fun a z => s1.free (s2.free (n3 a z))) d3 (fun a z => ⟨z.1.imp (fun y => ⟨sim.nw a (s1.free (s2.free y)), fun w => sim.th a w (s1.free (s2.free y))⟩) id, z.2⟩) p3
    · cases z
  · cases z
theorem e_meth0 {pl : Sem Bool} (c : Cls X.K C) (hm : Meth X.K C m fa) (F : FnOk X.prog X.w X.K X.mg X.base CX0 k fa fd ps (spD X.K 1 φ)) (hb : Binds X.K fd ps []) (hr : Room k X.A) (ho : PEv X o fo)
    (ht : eval (.Call (.Attribute o m apos) [] [] pos) X.env = (do
      let ov ← eval o X.env
      standAt apos.atName
      let (f, first) ← holding [ov] (getMethod ov m pl)
      callWith pos f first (backTo pos (starEach [] X.env)) (backToKw pos (keywordEach [] X.env))) := by rfl) :
    PEv X (.Call (.Attribute o m apos) [] [] pos) (eMeth C m φ fo aNil) := by
  refine imp_e (pe_meth0 ho c hm F hr hb .nil pass0 ht) fun σ H Q ⟨N, H0, ρ, L, W, r, sim, z, q⟩ => ?_
  unfold eMeth at z
  obtain ⟨x, e0, z2⟩ := bind_some z
  clear z
  have z := z2
  clear z2
  split at z
  · rename_i C' fds hd
    split at z
    · rename_i hC
      obtain ⟨hC, hno⟩ := hC
      subst hC
      obtain ⟨rs, e1, z2⟩ := bind_some z
      clear z
      obtain ⟨r', e2, z⟩ := Option.map_eq_some_iff.mp z2
      subst z
      cases e1
      refine one sim e0 fun v H1 F s1 n1 d1 p1 => ?_
      have p0 := p1
      rw [hd] at p0
      obtain ⟨a, dx, fv, G, rfl, h1, h2, h3, h4⟩ := p0.ins_inv
      refine ⟨a, dx, fv, rfl, h1, fld_none h2 (Option.isNone_iff_eq_none.mp hno), ?_⟩
      have hF : ∀ a ∈ F, N a ∧ a ∉ W := fun a m => ⟨sim.nw a (n1 a m), fun w => sim.th a w (n1 a m)⟩
      refine ⟨rfl, SR N W (x.al || false) (x.vw || false), [x.d], r', Rps.cons (F := []) (G := []) (p1.give (fun a z => ⟨z.1.1.up (fun e => by rw [e]; rfl), fun e => z.1.2 (by simpa using e)⟩) fun a m => ⟨.new (hF a m).1, fun _ => (hF a m).2⟩) .nil, e2, fun u H3 G3 s3 n3 d3 p3 => ?_⟩
      exact q.ret (s1.trans s3) (fun a z => s1.free (n3 a z)) d3 (fun a z => ⟨z.1.imp (fun y => ⟨sim.nw a (s1.free y), fun w => sim.th a w (s1.free y)⟩) id, z.2⟩) p3
    · cases z
  · cases z
end
end Ev

set_option Elab.async false
set_option linter.all false
set_option maxRecDepth 100000

namespace Ev
open PySem PySem.Spec L2
open PyProof.Rows hiding St


def kids : D → List D
  | .lst ds => ds
  | .dk kd => kd.map (·.2)
  | .dt kd => kd.map (·.2)
  | .ins _ fd => fd.map (·.2)
  | .obj _ _ fd => fd.map (·.2)
  | .tup ds => ds
  | _ => []
def setSnd {κ α : Type} : List (κ × α) → Nat → α → List (κ × α)
  | [], _, _ => []
  | p :: r, 0, d => (p.1, d) :: r
  | p :: r, j + 1, d => p :: setSnd r j d
theorem setSnd_keys {κ α : Type} : ∀ (r : List (κ × α)) (j : Nat) (d : α), (setSnd r j d).map (·.1) = r.map (·.1)
  | [], _, _ => rfl
  | p :: r, 0, d => rfl
  | p :: r, j + 1, d => by
    show p.1 :: (setSnd r j d).map (·.1) = _
    rw [setSnd_keys r j d]
    rfl
theorem setSnd_vals {κ α : Type} : ∀ (r : List (κ × α)) (j : Nat) (d : α), (setSnd r j d).map (·.2) = (r.map (·.2)).set j d
  | [], _, _ => rfl
  | p :: r, 0, d => rfl
  | p :: r, j + 1, d => by
    show p.2 :: (setSnd r j d).map (·.2) = _
    rw [setSnd_vals r j d]
    rfl
def setKid : D → Nat → D → D
  | .lst ds, j, d => .lst (ds.set j d)
  | .dk kd, j, d => .dk (setSnd kd j d)
  | .dt kd, j, d => .dt (setSnd kd j d)
  | .ins C fd, j, d => .ins C (setSnd fd j d)
  | .obj C dx fd, j, d => .obj C dx (setSnd fd j d)
  | .tup ds, j, d => .tup (ds.set j d)
  | x, _, _ => x
def dAt : D → List Nat → Option D
  | d, [] => some d
  | d, j :: p => (kids d)[j]?.bind fun e => dAt e p
def dSet (d : D) : List Nat → D → D
  | [], d' => d'
  | j :: p, d' => match (kids d)[j]? with
    | some e => setKid d j (dSet e p d')
    | none => d
section
variable {K : PySem.W.Frag} {S S' : Addr → Prop} {H H' : Hp}
theorem node_kids {d : D} {o : HO} {vs : List V} {ds : List D} (n : Node d o vs ds) : ds = kids d := by
  cases n <;> rfl
theorem node_set {d : D} {o : HO} {vs : List V} {ds : List D} (n : Node d o vs ds) (j : Nat) (d' : D) : Node (setKid d j d') o vs (ds.set j d') := by
  cases n with
  | lst => exact .lst
  | dk e =>
    have := Node.dk (kv := _) (kd := setSnd _ j d') (e.trans (setSnd_keys _ j d').symm)
    rw [setSnd_vals] at this
    exact this
  | dt e =>
    have := Node.dt (kv := _) (kd := setSnd _ j d') (e.trans (setSnd_keys _ j d').symm)
    rw [setSnd_vals] at this
    exact this
  | ins e =>
    rename_i C dx fv fd
    have := Node.ins (C := C) (dx := dx) (fv := fv) (fd := setSnd fd j d') (e.trans (setSnd_keys _ j d').symm)
    rw [setSnd_vals] at this
    exact this
  | obj e =>
    rename_i C dx fv fd
    have := Node.obj (C := C) (dx := dx) (fv := fv) (fd := setSnd fd j d') (e.trans (setSnd_keys _ j d').symm)
    rw [setSnd_vals] at this
    exact this

theorem Rps.hole {l : Lv} : ∀ {vs : List V} {ds : List D} {F : List Addr} {j : Nat} {e : D}, Rps K S H l vs ds F → ds[j]? = some e →
    ∃ u A G B, F = A ++ (G ++ B) ∧ vs[j]? = some u ∧ Rp K S H l u e G ∧
      ∀ {S' : Addr → Prop} {H' : Hp} {e' : D} {G' : List Addr}, (∀ a, S a → S' a) → Keeps S (A ++ B) H H' → Rp K S' H' l u e' G' → Rps K S' H' l vs (ds.set j e') (A ++ (G' ++ B))
  | _, _, _, _, _, .nil, h => by simp at h
  | _, _, _, 0, _, .cons (F := F) (G := G) h1 h2, h => by
    simp at h
    subst h
    refine ⟨_, [], F, G, rfl, rfl, h1, fun {S' H' e' G'} hS k r => ?_⟩
    exact Rps.cons (F := G') (G := G) r ((h2.keep k).mono hS)
  | _, _, _, j + 1, _, .cons (F := F) (G := G) h1 h2, h => by
    obtain ⟨u, A, G1, B, e1, e2, r, q⟩ := Rps.hole (j := j) h2 (by simpa using h)
    subst e1
    refine ⟨u, F ++ A, G1, B, by simp, by simpa using e2, r, fun {S' H' e' G'} hS k r' => ?_⟩
    have h3 := q hS (k.sub fun b z => by simp at z ⊢; exact z.elim (fun z => .inr (.inl z)) fun z => .inr (.inr z)) r'
    have h4 := (h1.keep (k.sub fun b z => by simp [z])).mono hS
    have := Rps.cons h4 h3
    rw [List.append_assoc]
    exact this

theorem Rp.hole : ∀ {p : List Nat} {v : V} {d : D} {F : List Addr} {e : D}, Rp K S H .full v d F → dAt d p = some e → F.Nodup →
    ∃ u A G B, F = A ++ (G ++ B) ∧ Rp K S H .full u e G ∧
      ∀ {S' : Addr → Prop} {H' : Hp} {e' : D} {G' : List Addr}, (∀ a, S a → S' a) → Keeps S (A ++ B) H H' → Rp K S' H' .full u e' G' → Rp K S' H' .full v (dSet d p e') (A ++ (G' ++ B))
  | [], v, d, F, e, r, h, _ => by
    cases h
    exact ⟨v, [], F, [], by simp, r, fun {S' H' e' G'} _ _ r' => by simpa [dSet] using r'⟩
  | j :: p, v, d, F, e, r, h, nd => by
    unfold dAt at h
    obtain ⟨dj, e1, h⟩ := bind_some h
    have h9 := h
    cases r with
    | nd1 h0 hn ha hr =>
      rename_i a o vs ds F1
      have hk := node_kids hn
      rw [← hk] at e1
      obtain ⟨u, A, G, B, eF, eu, ru, q⟩ := hr.hole e1
      have nG : G.Nodup := by
        have := (List.nodup_cons.mp nd).2
        rw [eF, List.nodup_append, List.nodup_append] at this
        exact this.2.1.1
      obtain ⟨u2, A2, G2, B2, eG, r2, q2⟩ := Rp.hole (p := p) ru h nG
      refine ⟨u2, a :: (A ++ A2), G2, B2 ++ B, by rw [eF, eG]; simp, r2, fun {S' H' e' G'} hS k r' => ?_⟩
      have r3 := q2 hS (k.sub fun b z => by simp at z ⊢; rcases z with z | z <;> simp [z]) r'
      have r4 := q hS (k.sub fun b z => by simp at z ⊢; rcases z with z | z <;> simp [z]) r3
      have hs : dSet d (j :: p) e' = setKid d j (dSet dj p e') := by
        rw [dSet, ← hk, e1]
      rw [hs]
      have r5 := Rp.nd1 (K := K) (S := S') h0 (node_set hn j (dSet dj p e')) (k a o ha (.inr (.inl (by simp)))) r4
      have : a :: (A ++ A2) ++ (G' ++ (B2 ++ B)) = a :: (A ++ ((A2 ++ (G' ++ B2)) ++ B)) := by simp
      rw [this]
      exact r5
    | tup h1 h2 =>
      rename_i a vs ds
      obtain ⟨u, A, G, B, eF, eu, ru, q⟩ := h2.hole (show ds[j]? = some dj from e1)
      have nG : G.Nodup := by
        have := nd
        rw [eF, List.nodup_append, List.nodup_append] at this
        exact this.2.1.1
      obtain ⟨u2, A2, G2, B2, eG, r2, q2⟩ := Rp.hole (p := p) ru h9 nG
      refine ⟨u2, A ++ A2, G2, B2 ++ B, by rw [eF, eG]; simp, r2, fun {S' H' e' G'} hS k r' => ?_⟩
      have r3 := q2 hS (k.sub fun b z => by simp at z ⊢; rcases z with z | z <;> simp [z]) r'
      have r4 := q hS (k.sub fun b z => by simp at z ⊢; rcases z with z | z <;> simp [z]) r3
      have hs : dSet (.tup ds) (j :: p) e' = setKid (.tup ds) j (dSet dj p e') := by
        rw [dSet, e1]
      rw [hs]
      have r5 := Rp.tup (K := K) (S := S') (k a _ h1 (.inr (.inr (.inl ⟨_, rfl⟩)))) r4
      have : A ++ A2 ++ (G' ++ (B2 ++ B)) = A ++ ((A2 ++ (G' ++ B2)) ++ B) := by simp
      rw [this]
      exact r5
    | fl h1 h2 => simp [kids] at e1
    | _ => simp [kids] at e1
end
end Ev

set_option Elab.async false
set_option linter.all false
set_option maxRecDepth 100000

namespace Ev
open PySem PySem.Spec L2
open PyProof.Rows hiding St

def kidsO : HO → List V
  | .lst vs => vs
  | .dK kv => kv.map (·.2)
  | .dT kv => kv.map (·.2)
  | .ins _ _ fv => fv.map (·.2)
  | .tup vs => vs
  | _ => []

inductive AtV (H : Hp) : V → List Nat → V → Prop
  | nil {v : V} : AtV H v [] v
  | cons {a : Addr} {o : HO} {j : Nat} {p : List Nat} {u w : V} : H a = some o → (kidsO o)[j]? = some u → AtV H u p w → AtV H (.ref a) (j :: p) w
theorem AtV.fn {H : Hp} : ∀ {v : V} {p : List Nat} {u w : V}, AtV H v p u → AtV H v p w → u = w
  | _, _, _, _, .nil, .nil => rfl
  | _, _, _, _, .cons h1 h2 h3, .cons g1 g2 g3 => by
    rw [h1] at g1
    cases g1
    rw [h2] at g2
    cases g2
    exact h3.fn g3
theorem AtV.snoc {H : Hp} {a : Addr} {o : HO} {j : Nat} {w : V} (ha : H a = some o) (hj : (kidsO o)[j]? = some w) : ∀ {v : V} {p : List Nat}, AtV H v p (.ref a) → AtV H v (p ++ [j]) w
  | _, _, .nil => .cons ha hj .nil
  | _, _, .cons h1 h2 h3 => .cons h1 h2 (AtV.snoc ha hj h3)
theorem AtV.same {H H' : Hp} (s : Same H H') : ∀ {v : V} {p : List Nat} {u : V}, AtV H v p u → AtV H' v p u
  | _, _, _, .nil => .nil
  | _, _, _, .cons h1 h2 h3 => .cons (s _ _ h1) h2 (AtV.same s h3)
section
variable {K : PySem.W.Frag} {S S' : Addr → Prop} {H H' : Hp}
theorem node_kidsO {d : D} {o : HO} {vs : List V} {ds : List D} (n : Node d o vs ds) : vs = kidsO o := by
  cases n <;> rfl

theorem Rp.way : ∀ {p : List Nat} {v : V} {d : D} {F : List Addr} {e : D}, Rp K S H .full v d F → dAt d p = some e → F.Nodup →
    ∃ u A G B, F = A ++ (G ++ B) ∧ Rp K S H .full u e G ∧ AtV H v p u ∧
      ∀ {S' : Addr → Prop} {H' : Hp} {e' : D} {G' : List Addr}, (∀ a, S a → S' a) → Keeps S (A ++ B) H H' → Rp K S' H' .full u e' G' → Rp K S' H' .full v (dSet d p e') (A ++ (G' ++ B))
  | [], v, d, F, e, r, h, _ => by
    cases h
    exact ⟨v, [], F, [], by simp, r, .nil, fun {S' H' e' G'} _ _ r' => by simpa [dSet] using r'⟩
  | j :: p, v, d, F, e, r, h, nd => by
    unfold dAt at h
    obtain ⟨dj, e1, h⟩ := bind_some h
    have h9 := h
    cases r with
    | nd1 h0 hn ha hr =>
      rename_i a o vs ds F1
      have hk := node_kids hn
      have hkO := node_kidsO hn
      rw [← hk] at e1
      obtain ⟨u, A, G, B, eF, eu, ru, q⟩ := hr.hole e1
      have nG : G.Nodup := by
        have := (List.nodup_cons.mp nd).2
        rw [eF, List.nodup_append, List.nodup_append] at this
        exact this.2.1.1
      obtain ⟨u2, A2, G2, B2, eG, r2, w2, q2⟩ := Rp.way (p := p) ru h nG
      refine ⟨u2, a :: (A ++ A2), G2, B2 ++ B, by rw [eF, eG]; simp, r2, .cons ha (by rw [← hkO]; exact eu) w2, fun {S' H' e' G'} hS k r' => ?_⟩
      have r3 := q2 hS (k.sub fun b z => by simp at z ⊢; rcases z with z | z <;> simp [z]) r'
      have r4 := q hS (k.sub fun b z => by simp at z ⊢; rcases z with z | z <;> simp [z]) r3
      have hs : dSet d (j :: p) e' = setKid d j (dSet dj p e') := by
        rw [dSet, ← hk, e1]
      rw [hs]
      have r5 := Rp.nd1 (K := K) (S := S') h0 (node_set hn j (dSet dj p e')) (k a o ha (.inr (.inl (by simp)))) r4
      have : a :: (A ++ A2) ++ (G' ++ (B2 ++ B)) = a :: (A ++ ((A2 ++ (G' ++ B2)) ++ B)) := by simp
      rw [this]
      exact r5
    | tup h1 h2 =>
      rename_i a vs ds
      obtain ⟨u, A, G, B, eF, eu, ru, q⟩ := h2.hole (show ds[j]? = some dj from e1)
      have nG : G.Nodup := by
        have := nd
        rw [eF, List.nodup_append, List.nodup_append] at this
        exact this.2.1.1
      obtain ⟨u2, A2, G2, B2, eG, r2, w2, q2⟩ := Rp.way (p := p) ru h9 nG
      refine ⟨u2, A ++ A2, G2, B2 ++ B, by rw [eF, eG]; simp, r2, .cons h1 eu w2, fun {S' H' e' G'} hS k r' => ?_⟩
      have r3 := q2 hS (k.sub fun b z => by simp at z ⊢; rcases z with z | z <;> simp [z]) r'
      have r4 := q hS (k.sub fun b z => by simp at z ⊢; rcases z with z | z <;> simp [z]) r3
      have hs : dSet (.tup ds) (j :: p) e' = setKid (.tup ds) j (dSet dj p e') := by
        rw [dSet, e1]
      rw [hs]
      have r5 := Rp.tup (K := K) (S := S') (k a _ h1 (.inr (.inr (.inl ⟨_, rfl⟩)))) r4
      have : A ++ A2 ++ (G' ++ (B2 ++ B)) = A ++ ((A2 ++ (G' ++ B2)) ++ B) := by simp
      rw [this]
      exact r5
    | fl h1 h2 => simp [kids] at e1
    | _ => simp [kids] at e1
end
abbrev EvP := Env → Option (Nat × List Nat × D)
def PathOk (f : EvP) : Prop := ∀ ρ i p d, f ρ = some (i, p, d) → ∃ s : Sv, ρ[i]? = some (some s) ∧ s.l = .full ∧ dAt s.d p = some d
def tP (K : PySem.W.Frag) (f : EvP) : TE := fun σ H Q => ∃ N H0 ρ L W i p d, SimH K N H0 ρ σ H L W ∧ f ρ = some (i, p, d) ∧ ∀ u H1, Same H H1 → (∀ v0, σ[i]? = some (some v0) → AtV H1 v0 p u) → Q u H1
structure PPv (X : Cx) (e : Expr) (f : EvP) : Prop where
  run : PE X e (tP X.K f)
  ok : PathOk f
def pName (i : Nat) : EvP := fun ρ => match ρ[i]? with
  | some (some s) => if s.l = .full then some (i, [], s.d) else none
  | _ => none
section
variable {X : Cx} {e e2 : Expr} {fp : EvP} {fe : EvE} {pos : Pos}
theorem p_name (i : Nat) {x : Str} (hN : X.N[i]? = some x := by rfl) (hv : Vis X.env.scope x := by first | exact Or.inl rfl | exact Or.inr (Or.inl rfl) | exact Or.inr (Or.inr rfl)) (hd : (x == ("__debug__" : Str)) = false := by decide)
    (hcd : (x == ("__classdict__" : Str)) = false := by decide) : PPv X (.Name x pos) (pName i) where
  run := imp_e (pe_var hN hv hd hcd) fun σ H Q ⟨N, H0, ρ, L, W, j, p, d, sim, z, q⟩ => by
    unfold pName at z
    split at z
    · rename_i s es
      split at z
      · cases z
        obtain ⟨v, G, ev, rp, _⟩ := sim.sl.get es
        refine ⟨v, ev, q v H (Same.refl H) fun v0 e0 => ?_⟩
        rw [ev] at e0
        cases e0
        exact .nil
      · cases z
    · cases z
  ok := fun ρ j p d z => by
    unfold pName at z
    split at z
    · rename_i s es
      split at z
      · rename_i hl
        cases z
        exact ⟨s, es, hl, rfl⟩
      · cases z
    · cases z
theorem SimH.way {K : PySem.W.Frag} {N : Nw} {H0 H : Hp} {ρ : Env} {σ : St} {L W : List Addr} {i : Nat} {p : List Nat} {s : Sv} {e : D} (sim : SimH K N H0 ρ σ H L W) (es : ρ[i]? = some (some s)) (hl : s.l = .full) (hd : dAt s.d p = some e) :
    ∃ v0 u S G, σ[i]? = some (some v0) ∧ AtV H v0 p u ∧ Rp K S H .full u e G := by
  obtain ⟨F1, G, F2, eL, get, _⟩ := sim.sl.at_ (List.getElem?_eq_some_iff.mp es).1
  obtain ⟨v, ev, _, rp⟩ := get s es
  have nG : G.Nodup := by
    have := sim.ndl
    rw [eL, List.nodup_append, List.nodup_append] at this
    exact this.2.1.1
  rw [hl] at rp
  obtain ⟨u, A, G2, B, eG, r2, w, _⟩ := rp.way hd nG
  exact ⟨v, u, _, G2, ev, w, r2⟩
theorem dAt_snoc : ∀ {p : List Nat} {d e e' : D} {j : Nat}, dAt d p = some e → (kids e)[j]? = some e' → dAt d (p ++ [j]) = some e'
  | [], d, e, e', j, h, hj => by
    cases h
    show ((kids d)[j]?.bind fun e => dAt e []) = _
    rw [hj]
    rfl
  | i :: p, d, e, e', j, h, hj => by
    unfold dAt at h
    obtain ⟨d1, e1, h⟩ := bind_some h
    show ((kids d)[i]?.bind fun e => dAt e (p ++ [j])) = _
    rw [e1]
    exact dAt_snoc h hj
theorem fld_at : ∀ {fv : List (Str × V)} {fd : List (Str × D)} {f : Str} {j : Nat}, fv.map (·.1) = fd.map (·.1) → (fd.findIdx? fun q => q.1 == f) = some j → ∃ v, fv.lookup f = some v ∧ (fv.map (·.2))[j]? = some v
  | [], [], f, j, _, h => by simp at h
  | [], _ :: _, f, j, e, _ => by cases e
  | _ :: _, [], f, j, e, _ => by cases e
  | p :: fv, p' :: fd, f, j, e, h => by
    have e1 : p.1 = p'.1 := by have := congrArg List.head? e; simpa using this
    have e2 : fv.map (·.1) = fd.map (·.1) := by have := congrArg List.tail e; simpa using this
    obtain ⟨k1, v1⟩ := p
    obtain ⟨k2, d2⟩ := p'
    dsimp only at e1
    subst e1
    rw [List.findIdx?_cons] at h
    rw [List.lookup_cons]
    by_cases hk : k1 = f
    · subst hk
      simp at h
      subst h
      exact ⟨v1, by simp, rfl⟩
    · have h1 : (k1 == f) = false := by simpa using hk
      have h2 : (f == k1) = false := by simpa using fun z => hk z.symm
      rw [h1] at h
      rw [h2]
      simp at h
      obtain ⟨j', hj, rfl⟩ := h
      obtain ⟨v, q1, q2⟩ := fld_at e2 (by simpa using hj)
      exact ⟨v, q1, by simpa using q2⟩
def pFld (C : Addr) (f : Str) (fp : EvP) : EvP := fun ρ => (fp ρ).bind fun z => match z.2.2 with
  | .ins C' fd => if C' = C then (fd.findIdx? fun q => q.1 == f).bind fun j => (kids z.2.2)[j]?.map fun e => (z.1, z.2.1 ++ [j], e) else none
  | _ => none
theorem pFld_some {C : Addr} {f : Str} {ρ : Env} {i : Nat} {p : List Nat} {d : D} (z : pFld C f fp ρ = some (i, p, d)) : ∃ p0 fd j, fp ρ = some (i, p0, .ins C fd) ∧ (fd.findIdx? fun q => q.1 == f) = some j ∧ (kids (.ins C fd))[j]? = some d ∧ p = p0 ++ [j] := by
  unfold pFld at z
  obtain ⟨⟨i0, p0, d0⟩, e1, z1⟩ := bind_some z
  clear z
  split at z1
  · rename_i C' fd hd
    dsimp only at hd
    subst hd
    split at z1
    · rename_i hC
      subst hC
      obtain ⟨j, e2, z2⟩ := bind_some z1
      obtain ⟨e, e3, e4⟩ := Option.map_eq_some_iff.mp z2
      cases e4
      exact ⟨p0, fd, j, e1, e2, e3, rfl⟩
    · cases z1
  · cases z1
theorem p_fld {C : Addr} {f : Str} (c : Cls X.K C) (n : NoAttr X.K C f) (h : PPv X e fp) (hb : attributeBase e f X.env (eval e X.env) = eval e X.env := by rfl) : PPv X (.Attribute e f pos) (pFld C f fp) where
  run := imp_e (pe_fld h.run hb) fun σ H Q ⟨N, H0, ρ, L, W, i, p, d, sim, z, q⟩ => by
    obtain ⟨p0, fd, j, e1, e2, e3, rfl⟩ := pFld_some z
    obtain ⟨s, es, hl, hd⟩ := h.ok ρ i p0 _ e1
    obtain ⟨v0, u', S, G, ev, w, r⟩ := sim.way es hl hd
    refine ⟨N, H0, ρ, L, W, i, p0, _, sim, e1, fun u H1 s1 at1 => ?_⟩
    have w1 := at1 v0 ev
    have := w1.fn (w.same s1)
    subst this
    obtain ⟨a, dx, fv, G1, rfl, h1, h2, _, _⟩ := r.ins_inv
    obtain ⟨v, q1, q2⟩ := fld_at h2 e2
    refine ⟨a, C, dx, fv, v, rfl, s1 a _ h1, c, n, q1, q v H1 s1 fun v1 e0 => ?_⟩
    rw [ev] at e0
    cases e0
    exact w1.snoc (s1 a _ h1) q2
  ok := fun ρ i p d z => by
    obtain ⟨p0, fd, j, e1, e2, e3, rfl⟩ := pFld_some z
    obtain ⟨s, es, hl, hd⟩ := h.ok ρ i p0 _ e1
    exact ⟨s, es, hl, dAt_snoc hd e3⟩
end
end Ev

set_option Elab.async false
set_option linter.all false
set_option maxRecDepth 100000

namespace Ev
open PySem PySem.Spec L2
open PyProof.Rows hiding St

def isNd : D → Bool
  | .lst _ => true | .dk _ => true | .dt _ => true | .ins _ _ => true | .obj _ _ _ => true
  | _ => false
theorem Rp.node {K : PySem.W.Frag} {S : Addr → Prop} {H : Hp} {u : V} {e : D} {G : List Addr} (r : Rp K S H .full u e G) (h : isNd e = true) : ∃ a o vs ds F, u = .ref a ∧ G = a :: F ∧ H a = some o ∧ Node e o vs ds ∧ Rps K S H .full vs ds F := by
  cases r with
  | nd1 h0 hn h1 h2 => exact ⟨_, _, _, _, _, rfl, rfl, h1, hn, h2⟩
  | _ => simp [isNd] at h
theorem node_mut {e : D} {o : HO} {vs : List V} {ds : List D} (n : Node e o vs ds) : Mut (some o) := by
  cases n <;> trivial
theorem Sim.store {K : PySem.W.Frag} {N : Nw} {H0 H : Hp} {ρ : Env} {σ : St} {L : List Addr} {i : Nat} {p : List Nat} {s : Sv} {e : D} (sim : Sim K N H0 ρ σ H L) (es : ρ[i]? = some (some s)) (hl : s.l = .full) (hd : dAt s.d p = some e) (hn : isNd e = true) :
    ∃ v0 a o vs ds F, σ[i]? = some (some v0) ∧ AtV H v0 p (.ref a) ∧ H a = some o ∧ Node e o vs ds ∧ (∃ S, Rps K S H .full vs ds F) ∧
      ∀ {H1 : Hp} {w : V} {dw : D} {al : Bool} {T : List Addr} {o' : HO} {e' : D}, Same H H1 → (∀ b ∈ T, H b = none) → T.Nodup → Rp K (fun b => SR N L al false b ∧ b ∉ T) H1 .full w dw T → Mut (some o') →
        (∀ {S : Addr → Prop} {H' : Hp}, Rps K S H' .full vs ds F → Rp K S H' .full w dw T → (F ++ T).Nodup → ∃ vs' ds' F', Node e' o' vs' ds' ∧ Rps K S H' .full vs' ds' F' ∧ (∀ b ∈ F', b ∈ F ++ T) ∧ F'.Nodup) →
        ∃ L', Sim K N H0 (ρ.set i (some ⟨dSet s.d p e', .full, s.al || al, s.pn⟩)) σ (upd H1 a o') L' ∧ Frm H L (upd H1 a o') L' := by
  obtain ⟨v, G, ev, rp, nG, hG, go⟩ := sim.mut es
  rw [hl] at rp
  obtain ⟨u, A, G2, B, eG, r2, w2, q2⟩ := rp.trk.way hd nG
  obtain ⟨a, o, vs, ds, F, rfl, rfl, ha, hnd, hr⟩ := r2.node hn
  refine ⟨v, a, o, vs, ds, F, ev, w2, ha, hnd, ⟨_, hr⟩, fun {H1 w dw al T o' e'} sm hT nT rw mo pick => ?_⟩
  have nG' := nG
  rw [eG, List.nodup_append, List.nodup_append] at nG'
  obtain ⟨nA, ⟨naF, nB, dFB⟩, dA⟩ := nG'
  have naF' := List.nodup_cons.mp naF
  have inG : ∀ b, b ∈ A ++ (a :: F ++ B) → b ∈ G := fun b z => by rw [eG]; exact z
  have aG : a ∈ G := inG a (by simp)
  have aL := hG a aG
  have TL : ∀ b ∈ T, b ∉ L := fun b z y => sim.th b y (hT b z)
  have aT : a ∉ T := fun z => TL a z aL
  have up : ∀ b x, b ≠ a → H1 b = some x → upd H1 a o' b = some x := fun b x n h => by rw [upd_ne n]; exact h
  -- what holds of the shared ones
  have hS1 : ∀ b, (SR N L s.al false b ∧ H b ≠ none) → b ≠ a := fun b z y => z.1.2 rfl (y ▸ aL)
  have k1 : Keeps (fun b => SR N L s.al false b ∧ H b ≠ none) (A ++ B) H (upd H1 a o') := fun b x hb q => by
    have : b ≠ a := fun y => by
      subst y
      rw [ha] at hb
      cases hb
      rcases q with q | q | ⟨xs, rfl⟩ | ⟨o2, u2, rfl⟩
      · exact hS1 b q rfl
      · rcases List.mem_append.mp q with q | q
        · exact dA b q b (by simp) rfl
        · exact dFB b (by simp) b q rfl
      · cases hnd
      · cases hnd
    exact up b x this (sm _ _ hb)
  have k2 : Keeps (fun b => SR N L s.al false b ∧ H b ≠ none) F H (upd H1 a o') := fun b x hb q => by
    have : b ≠ a := fun y => by
      subst y
      rw [ha] at hb
      cases hb
      rcases q with q | q | ⟨xs, rfl⟩ | ⟨o2, u2, rfl⟩
      · exact hS1 b q rfl
      · exact naF'.1 q
      · cases hnd
      · cases hnd
    exact up b x this (sm _ _ hb)
  have k3 : Keeps (fun b => SR N L al false b ∧ b ∉ T) T H1 (upd H1 a o') := fun b x hb q => by
    have : b ≠ a := fun y => by
      subst y
      rw [sm _ _ ha] at hb
      cases hb
      rcases q with q | q | ⟨xs, rfl⟩ | ⟨o2, u2, rfl⟩
      · exact q.1.2 rfl aL
      · exact aT q
      · cases hnd
      · cases hnd
    exact up b x this hb
  have nFT : (F ++ T).Nodup := by
    rw [List.nodup_append]
    exact ⟨naF'.2, nT, fun b hb c hc y => TL c hc (y ▸ hG b (inG b (by simp [hb])))⟩
  let S' : Addr → Prop := fun b => AlN N (s.al || al) b ∧ (b ∉ L ∨ b ∈ G) ∧ b ∉ T ∧ b ∉ G
  have h1 : ∀ b, (SR N L s.al false b ∧ H b ≠ none) → S' b := fun b z => ⟨z.1.1.up (fun e => by simp [e]), .inl (z.1.2 rfl), fun y => z.2 (hT b y), fun y => z.1.2 rfl (hG b y)⟩
  have h2 : ∀ b, (SR N L al false b ∧ b ∉ T) → S' b := fun b z => ⟨z.1.1.up (fun e => by simp [e]), .inl (z.1.2 rfl), z.2, fun y => z.1.2 rfl (hG b y)⟩
  obtain ⟨vs', ds', F', hn', r5, sub, nF'⟩ := pick ((hr.keep k2).mono h1) ((rw.keep k3).mono h2) nFT
  have aF' : a ∉ F' := fun z => (List.mem_append.mp (sub a z)).elim naF'.1 aT
  have r6 : Rp K S' (upd H1 a o') .full (.ref a) e' (a :: F') := .nd1 (fun z => nomatch z) hn' upd_same r5
  have r7 := q2 (e' := e') h1 k1 r6
  have subG : ∀ b ∈ A ++ (a :: F' ++ B), b ∈ G ∨ b ∈ T := fun b z => by
    rcases List.mem_append.mp z with z | z
    · exact .inl (inG b (by simp [z]))
    · rcases List.mem_append.mp z with z | z
      · rcases List.mem_cons.mp z with z | z
        · exact .inl (z ▸ aG)
        · rcases List.mem_append.mp (sub b z) with z | z
          · exact .inl (inG b (by simp [z]))
          · exact .inr z
      · exact .inl (inG b (by simp [z]))
  have ndG : (A ++ (a :: F' ++ B)).Nodup := by
    have offT : ∀ b, b ∈ G → b ∉ T := fun b z y => TL b y (hG b z)
    have hx : ∀ b ∈ a :: F', b ∈ a :: F ∨ b ∈ T := fun b z => by
      rcases List.mem_cons.mp z with z | z
      · exact .inl (z ▸ List.mem_cons_self)
      · exact (List.mem_append.mp (sub b z)).imp (List.mem_cons_of_mem _) id
    rw [List.nodup_append, List.nodup_append]
    refine ⟨nA, ⟨List.nodup_cons.mpr ⟨aF', nF'⟩, nB, fun b hb c hc y => ?_⟩, fun b hb c hc y => ?_⟩
    · rcases hx b hb with z | z
      · exact dFB b z c hc y
      · exact offT c (inG c (by simp [hc])) (y ▸ z)
    · rcases List.mem_append.mp hc with hc | hc
      · rcases hx c hc with z | z
        · exact dA b hb c (List.mem_append_left _ z) y
        · exact offT b (inG b (by simp [hb])) (y ▸ z)
      · exact dA b hb c (List.mem_append_right _ hc) y
  have trT : ∀ b ∈ T, H b = none ∧ Mut (upd H1 a o' b) := fun b z => ⟨hT b z, by
    rw [upd_ne (fun y => aT (by rw [← y]; exact z))]
    exact rw.own_mut b z⟩
  exact go (s' := ⟨dSet s.d p e', .full, s.al || al, s.pn⟩) (G' := A ++ (a :: F' ++ B)) (T := T) sm aG mo trT subG ndG (.inl rfl) (r7.mono fun b z => ⟨z.1, z.2.1, z.2.2.1, fun y => (subG b y).elim z.2.2.2 z.2.2.1⟩)
end Ev

set_option Elab.async false
set_option linter.all false
set_option maxRecDepth 100000

namespace Ev
open PySem PySem.Spec L2
open PyProof.Rows hiding St

def putD (f : Str) (d : D) : List (Str × D) → List (Str × D)
  | [] => [(f, d)]
  | (g, x) :: r => if g = f then (g, d) :: r else (g, x) :: putD f d r
theorem put_rps {K : PySem.W.Frag} {S : Addr → Prop} {H : Hp} {l : Lv} {f : Str} {w : V} {d : D} {T : List Addr} (rw : Rp K S H l w d T) : ∀ {fv : List (Str × V)} {fd : List (Str × D)} {F : List Addr}, fv.map (·.1) = fd.map (·.1) → Rps K S H l (fv.map (·.2)) (fd.map (·.2)) F → (F ++ T).Nodup →
    (putF f w fv).map (·.1) = (putD f d fd).map (·.1) ∧ ∃ F', Rps K S H l ((putF f w fv).map (·.2)) ((putD f d fd).map (·.2)) F' ∧ (∀ b ∈ F', b ∈ F ++ T) ∧ F'.Nodup
  | [], [], F, e, r, nd => by
    cases r
    refine ⟨rfl, T, ?_, fun b z => by simpa using z, by simpa using nd⟩
    have := Rps.cons (G := []) rw .nil
    rw [List.append_nil] at this
    exact this
  | [], _ :: _, _, e, _, _ => by cases e
  | _ :: _, [], _, e, _, _ => by cases e
  | q :: fv, q' :: fd, F, e, r, nd => by
    have e1 : q.1 = q'.1 := by have := congrArg List.head? e; simpa using this
    have e2 : fv.map (·.1) = fd.map (·.1) := by have := congrArg List.tail e; simpa using this
    obtain ⟨k1, v1⟩ := q
    obtain ⟨k2, d2⟩ := q'
    dsimp only at e1
    subst e1
    have r : Rps K S H l (v1 :: fv.map (·.2)) (d2 :: fd.map (·.2)) F := r
    cases r with
    | cons h1 h2 =>
      rename_i F1 G1
      by_cases hk : k1 = f
      · have a1 : putF f w ((k1, v1) :: fv) = (k1, w) :: fv := if_pos hk
        have a2 : putD f d ((k1, d2) :: fd) = (k1, d) :: fd := if_pos hk
        rw [a1, a2]
        refine ⟨by simp [e2], T ++ G1, Rps.cons rw h2, fun b z => ?_, ?_⟩
        · simp at z ⊢
          rcases z with z | z <;> simp [z]
        · rw [List.nodup_append] at nd ⊢
          obtain ⟨n1, n2, n3⟩ := nd
          rw [List.nodup_append] at n1
          exact ⟨n2, n1.2.1, fun b hb c hc y => n3 c (by simp [hc]) b hb y.symm⟩
      · have a1 : putF f w ((k1, v1) :: fv) = (k1, v1) :: putF f w fv := if_neg hk
        have a2 : putD f d ((k1, d2) :: fd) = (k1, d2) :: putD f d fd := if_neg hk
        rw [a1, a2]
        have nd1 : (G1 ++ T).Nodup := by
          rw [List.append_assoc, List.nodup_append] at nd
          exact nd.2.1
        obtain ⟨i1, F', i2, i3, i4⟩ := put_rps rw e2 h2 nd1
        refine ⟨by simp [i1], F1 ++ F', Rps.cons h1 i2, fun b z => ?_, ?_⟩
        · rcases List.mem_append.mp z with z | z
          · simp [z]
          · have := i3 b z
            simp at this ⊢
            exact .inr this
        · rw [List.append_assoc, List.nodup_append] at nd
          rw [List.nodup_append]
          exact ⟨nd.1, i4, fun b hb c hc y => nd.2.2 b hb c (i3 c hc) y⟩

def sAtP (C : Addr) (f : Str) (fz : List Nat) (fp : EvP) (fe : EvE) : EvS := fun ρ0 => (fe (frzs fz ρ0)).bind fun r => (fp (frzs fz ρ0)).bind fun z => match z.2.2, (frzs fz ρ0)[z.1]? with
  | .ins C' fd, some (some s) => if C' = C ∧ r.vw = false ∧ r.l = .full ∧ fd.length < 1000 then some (.nx ((frzs fz ρ0).set z.1 (some ⟨dSet s.d z.2.1 (.ins C (putD f r.d fd)), .full, s.al || r.al, s.pn⟩))) else none
  | _, _ => none
section
variable {X : Cx} {e value : Expr} {fp : EvP} {fe : EvE} {pos pos' : Pos} {C : Addr} {f : Str}
theorem s_atp (fz : List Nat) (c : Cls X.K C) (n : NoAttr X.K C f) (h : PPv X e fp) (hv : PEv X value fe) (hs : swapsWith value (some (.Attribute e f pos')) pos.line X.env = pure false := by rfl) :
    PSv X (.Assign [.Attribute e f pos'] value pos) (sAtP C f fz fp fe) := by
  refine imp_s (ps_fld h.run hv hs) fun D σ H ⟨N, H0, ρ0, L0, o, sim0, z, q0⟩ => ?_
  obtain ⟨L, sim, subL⟩ := sim0.frzs fz
  have q := q0.at_ (H1 := H) (L1 := L) ⟨fun _ _ e _ => e, fun _ e => .inl e, fun b z => .inl (subL b z)⟩
  unfold sAtP at z
  generalize frzs fz ρ0 = ρ at sim z
  obtain ⟨r, e1, z1⟩ := bind_some z
  obtain ⟨⟨i, p, d⟩, e2, z2⟩ := bind_some z1
  clear z z1
  dsimp only at z2
  split at z2
  · rename_i C' fd s es
    split at z2
    · rename_i hc
      obtain ⟨rfl, hvw, hfull, hlen⟩ := hc
      cases z2
      refine one sim.h e1 fun w H1 T s1 n1 d1 p1 => ?_
      rw [hfull] at p1
      obtain ⟨s', es', hl, hd⟩ := h.ok ρ i p _ e2
      rw [es] at es'
      cases es'
      refine ⟨N, H0, ρ, L, L ++ T, i, p, _, sim.h.hold s1 n1 d1 p1.own_mut, e2, fun u H2 s2 at2 => ?_⟩
      obtain ⟨v0, a, o, vs, ds, F, ev, w2, ha, hnd, hx, go⟩ := sim.store es hl hd rfl
      have := (at2 v0 ev).fn ((w2.same s1).same s2)
      subst this
      cases hnd with
      | ins ek =>
        clear hx
        rename_i dx fv
        have hlen' : fv.length < 1000 := by
          have := congrArg List.length ek
          rw [List.length_map, List.length_map] at this
          omega
        have p2 := (p1.mono (S' := fun b => SR N L r.al false b ∧ b ∉ T) fun a z => ⟨⟨z.1.1, fun _ => z.1.2 hvw⟩, z.2⟩).same s2
        obtain ⟨L', sim', fr⟩ := go (H1 := H2) (e' := .ins C' (putD f r.d fd)) (o' := .ins C' dx (putF f w fv)) (s1.trans s2) n1 d1 p2 trivial (fun r1 r2 nd => by
          obtain ⟨i1, F', i2, i3, i4⟩ := put_rps (f := f) r2 ek r1 nd
          exact ⟨_, _, F', .ins i1, i2, i3, i4⟩)
        exact ⟨a, C', dx, fv, rfl, s2 _ _ (s1 _ _ ha), c, n, hlen', q _ _ L' sim' fr⟩
    · cases z2
  · cases z2
end
end Ev

set_option Elab.async false
set_option linter.all false
set_option maxRecDepth 100000

namespace Ev
open PySem PySem.Spec L2
open PyProof.Rows hiding St

section
variable {κ : Type} [DecidableEq κ] {K : PySem.W.Frag} {S : Addr → Prop} {H : Hp} {l : Lv}
theorem dmap_rps {k : κ} {w : V} {d : D} (rw : Rp K S H l w d []) : ∀ {kv : List (κ × V)} {kd : List (κ × D)} {F : List Addr}, kv.map (·.1) = kd.map (·.1) → Rps K S H l (kv.map (·.2)) (kd.map (·.2)) F → F.Nodup →
    (kv.map fun q => if q.1 = k then (q.1, w) else q).map (·.1) = (kd.map fun q => if q.1 = k then (q.1, d) else q).map (·.1) ∧ ∃ F', Rps K S H l ((kv.map fun q => if q.1 = k then (q.1, w) else q).map (·.2)) ((kd.map fun q => if q.1 = k then (q.1, d) else q).map (·.2)) F' ∧ (∀ b ∈ F', b ∈ F) ∧ F'.Nodup
  | [], [], F, e, r, nd => ⟨rfl, F, r, fun _ z => z, nd⟩
  | [], _ :: _, _, e, _, _ => by cases e
  | _ :: _, [], _, e, _, _ => by cases e
  | q :: kv, q' :: kd, F, e, r, nd => by
    have e1 : q.1 = q'.1 := by have := congrArg List.head? e; simpa using this
    have e2 : kv.map (·.1) = kd.map (·.1) := by have := congrArg List.tail e; simpa using this
    obtain ⟨k1, v1⟩ := q
    obtain ⟨k2, d2⟩ := q'
    dsimp only at e1
    subst e1
    have r : Rps K S H l (v1 :: kv.map (·.2)) (d2 :: kd.map (·.2)) F := r
    cases r with
    | cons h1 h2 =>
      rename_i F1 G1
      rw [List.nodup_append] at nd
      obtain ⟨i1, F', i2, i3, i4⟩ := dmap_rps rw e2 h2 nd.2.1
      by_cases hk : k1 = k
      · refine ⟨by simp [hk]; simpa using i1, F', ?_, fun b z => List.mem_append_right _ (i3 b z), i4⟩
        simp only [List.map_cons, if_pos hk]
        exact Rps.cons (F := []) rw i2
      · refine ⟨by simp [hk]; simpa using i1, F1 ++ F', ?_, fun b z => ?_, ?_⟩
        · simp only [List.map_cons, if_neg hk]
          exact Rps.cons h1 i2
        · rcases List.mem_append.mp z with z | z
          · exact List.mem_append_left _ z
          · exact List.mem_append_right _ (i3 b z)
        · rw [List.nodup_append]
          exact ⟨nd.1, i4, fun b hb c hc y => nd.2.2 b hb c (i3 c hc) y⟩
theorem dput_rps {k : κ} {w : V} {d : D} (rw : Rp K S H l w d []) {kv : List (κ × V)} {kd : List (κ × D)} {F : List Addr} (e : kv.map (·.1) = kd.map (·.1)) (r : Rps K S H l (kv.map (·.2)) (kd.map (·.2)) F) (nd : F.Nodup) :
    (putK kv k w).map (·.1) = (dput kd k d).map (·.1) ∧ ∃ F', Rps K S H l ((putK kv k w).map (·.2)) ((dput kd k d).map (·.2)) F' ∧ (∀ b ∈ F', b ∈ F) ∧ F'.Nodup := by
  have hh : (kv.any fun p => decide (p.1 = k)) = dhas kd k := by rw [← has_keys e k, valV_any]
  unfold putK dput
  rw [hh]
  by_cases h : dhas kd k = true
  · rw [if_pos h, if_pos h]
    exact dmap_rps rw e r nd
  · rw [if_neg h, if_neg h]
    refine ⟨by simp [e], F, ?_, fun _ z => z, nd⟩
    rw [List.map_append, List.map_append]
    have := Rps.app r (Rps.cons (F := []) (G := []) rw .nil)
    rw [List.append_nil, List.append_nil] at this
    exact this
end

def putAt (d : D) (y : D) (w : D) : Option D := match d with
  | .dk kd => if kd.length < 1000000 then (keyOf y).map fun k => .dk (dput kd k w) else none
  | .dt kd => if kd.length < 1000000 then (match y with | .tup ks => (keysOf ks).map fun k => .dt (dput kd k w) | _ => none) else none
  | _ => none

def sPutP (fz : List Nat) (fp : EvP) (fk fv : EvE) : EvS := fun ρ0 => (fv (frzs fz ρ0)).bind fun r => (fp (frzs fz ρ0)).bind fun z => (fk (frzs fz ρ0)).bind fun y => (putAt z.2.2 y.d r.d).bind fun e' => match (frzs fz ρ0)[z.1]? with
  | some (some s) => if imm r.d = true then some (.nx ((frzs fz ρ0).set z.1 (some ⟨dSet s.d z.2.1 e', .full, s.al || false, s.pn⟩))) else none
  | _ => none
section
variable {X : Cx} {e ix value : Expr} {fp : EvP} {fk fv : EvE} {pos pos' : Pos}
theorem s_putp (fz : List Nat) (hu : X.A.units + 65 < cLine) (h : PPv X e fp) (hk : PEv X ix fk) (hv : PEv X value fv) (hs : swapsWith value (some (.Subscript e ix pos')) pos.line X.env = pure false := by rfl) :
    PSv X (.Assign [.Subscript e ix pos'] value pos) (sPutP fz fp fk fv) := by
  refine imp_s (ps_dput (by omega) h.run hk hv hs) fun D σ H ⟨N, H0, ρ0, L0, o, sim0, z, q0⟩ => ?_
  obtain ⟨L, sim, subL⟩ := sim0.frzs fz
  have q := q0.at_ (H1 := H) (L1 := L) ⟨fun _ _ e _ => e, fun _ e => .inl e, fun b z => .inl (subL b z)⟩
  unfold sPutP at z
  generalize frzs fz ρ0 = ρ at sim z
  obtain ⟨r, e1, z1⟩ := bind_some z
  obtain ⟨⟨i, p, d⟩, e2, z2⟩ := bind_some z1
  obtain ⟨y, e3, z3⟩ := bind_some z2
  obtain ⟨e', e4, z4⟩ := bind_some z3
  clear z z1 z2 z3
  dsimp only at z4 e4
  split at z4
  · rename_i s es
    split at z4
    · rename_i hi
      cases z4
      refine one sim.h e1 fun w H1 T s1 n1 d1 p1 => ?_
      obtain ⟨s', es', hl, hd⟩ := h.ok ρ i p d e2
      rw [es] at es'
      cases es'
      have hold := sim.h.hold s1 n1 d1 p1.own_mut
      refine ⟨N, H0, ρ, L, L ++ T, i, p, d, hold, e2, fun u H2 s2 at2 => ?_⟩
      refine one (hold.same s2) e3 fun ky H3 T3 s3 n3 d3 p3 => ?_
      have sall : Same H H3 := s1.trans (s2.trans s3)
      have rw0 : ∀ {S : Addr → Prop} {H' : Hp} {l' : Lv}, Same H1 H' → Rp X.K S H' l' w r.d [] := fun sm => ((p1.same sm).of_imm hi).2
      cases d with
      | dk kd =>
        obtain ⟨v0, a, o, vs, ds, F, ev, w2, ha, hnd, hx, go⟩ := sim.store es hl hd rfl
        clear hx
        have := (at2 v0 ev).fn ((w2.same s1).same s2)
        subst this
        unfold putAt at e4
        dsimp only at e4
        split at e4
        · rename_i hlen
          obtain ⟨k, e5, rfl⟩ := Option.map_eq_some_iff.mp e4
          cases hnd with
          | dk ek =>
            rename_i kv
            have hlen' : kv.length < sizeLine := by
              have := congrArg List.length ek
              rw [List.length_map, List.length_map] at this
              rw [this, sizeLine_eq]
              omega
            obtain ⟨L', sim', fr⟩ := go (H1 := H3) (w := w) (dw := r.d) (al := false) (T := []) (e' := .dk (dput kd k r.d)) (o' := .dK (putK kv k w)) sall (fun _ z => nomatch z) .nil (rw0 (s2.trans s3)) trivial (fun r1 r2 nd => by
              rw [List.append_nil] at nd
              obtain ⟨i1, F', i2, i3, i4⟩ := dput_rps (k := k) r2 ek r1 nd
              exact ⟨_, _, F', .dk i1, i2, fun b z => by simpa using i3 b z, i4⟩)
            refine ⟨a, _, rfl, ?_, q _ _ L' sim' fr⟩
            rw [p3.key e5]
            exact DPut.k (sall _ _ ha) hlen'
        · cases e4
      | dt kd =>
        obtain ⟨v0, a, o, vs, ds, F, ev, w2, ha, hnd, hx, go⟩ := sim.store es hl hd rfl
        clear hx
        have := (at2 v0 ev).fn ((w2.same s1).same s2)
        subst this
        unfold putAt at e4
        dsimp only at e4
        split at e4
        · rename_i hlen
          split at e4
          · rename_i ks hy
            obtain ⟨k, e5, rfl⟩ := Option.map_eq_some_iff.mp e4
            rw [hy] at p3
            obtain ⟨c, ws, rfl, h5, h6⟩ := p3.tup_inv
            cases hnd with
            | dt ek =>
              rename_i kv
              have hlen' : kv.length < sizeLine := by
                have := congrArg List.length ek
                rw [List.length_map, List.length_map] at this
                rw [this, sizeLine_eq]
                omega
              obtain ⟨L', sim', fr⟩ := go (H1 := H3) (w := w) (dw := r.d) (al := false) (T := []) (e' := .dt (dput kd k r.d)) (o' := .dT (putK kv k w)) sall (fun _ z => nomatch z) .nil (rw0 (s2.trans s3)) trivial (fun r1 r2 nd => by
                rw [List.append_nil] at nd
                obtain ⟨i1, F', i2, i3, i4⟩ := dput_rps (k := k) r2 ek r1 nd
                exact ⟨_, _, F', .dt i1, i2, fun b z => by simpa using i3 b z, i4⟩)
              refine ⟨a, _, rfl, ?_, q _ _ L' sim' fr⟩
              exact DPut.t (sall _ _ ha) (by rw [h5, h6.keys e5]) hlen'
          · cases e4
        · cases e4
      | _ => simp [putAt] at e4
    · cases z4
  · cases z4
end
end Ev

set_option Elab.async false
set_option linter.all false
set_option maxRecDepth 100000

namespace Ev
open PySem PySem.Spec L2
open PyProof.Rows hiding St

section
variable {X : Cx} {e ix : Expr} {es : List Expr} {fp : EvP} {fk fe : EvE} {pos apos cpos : Pos}
def pIx (fp : EvP) (fk : EvE) : EvP := fun ρ => (fp ρ).bind fun z => (fk ρ).bind fun y => match z.2.2, y.d with
  | .lst ds, .int k => (L2.ixN ds.length k).bind fun j => ds[j]?.map fun e => (z.1, z.2.1 ++ [j], e)
  | _, _ => none
theorem pIx_some {ρ : Env} {i : Nat} {p : List Nat} {d : D} (z : pIx fp fk ρ = some (i, p, d)) : ∃ p0 ds y k j, fp ρ = some (i, p0, .lst ds) ∧ fk ρ = some y ∧ y.d = .int k ∧ L2.ixN ds.length k = some j ∧ ds[j]? = some d ∧ p = p0 ++ [j] := by
  unfold pIx at z
  obtain ⟨⟨i0, p0, d0⟩, e1, z1⟩ := bind_some z
  obtain ⟨y, e2, z2⟩ := bind_some z1
  clear z z1
  dsimp only at z2
  split at z2
  · rename_i ds k hy
    obtain ⟨j, e3, z3⟩ := bind_some z2
    obtain ⟨e, e4, e5⟩ := Option.map_eq_some_iff.mp z3
    cases e5
    exact ⟨p0, ds, y, k, j, e1, e2, hy, e3, e4, rfl⟩
  · cases z2
theorem p_ix (hu : X.A.units + 65 < cLine) (h : PPv X e fp) (hk : PEv X ix fk) (hs : PlainIx ix := by exact fun _ _ => rfl) : PPv X (.Subscript e ix pos) (pIx fp fk) where
  run := imp_e (pe_ix (ix_any (by omega)) h.run hk hs) fun σ H Q ⟨N, H0, ρ, L, W, i, p, d, sim, z, q⟩ => by
    obtain ⟨p0, ds, y, k, j, e1, e2, hy, e3, e4, rfl⟩ := pIx_some z
    obtain ⟨s, es, hl, hd⟩ := h.ok ρ i p0 _ e1
    obtain ⟨v0, u', S, G, ev, w, r⟩ := sim.way es hl hd
    refine ⟨N, H0, ρ, L, W, i, p0, _, sim, e1, fun u H1 s1 at1 => ?_⟩
    refine one (sim.same s1) e2 fun ky H2 T s2 n2 d2 p2 => ?_
    have w1 := at1 v0 ev
    have := w1.fn (w.same s1)
    subst this
    rw [hy] at p2
    obtain ⟨rfl, _⟩ := p2.int_inv
    obtain ⟨a, vs, G1, rfl, h1, h2, _, _⟩ := r.lst_inv
    obtain ⟨v, G2, e5, _, _⟩ := h2.get e4
    have sall := s1.trans s2
    refine .inl (.inl ⟨a, vs, k, v, rfl, rfl, SqL.of (sall a _ h1), ?_, q v H2 sall fun v1 e0 => ?_⟩)
    · unfold L2.atI
      rw [h2.len, e3]
      exact e5
    · rw [ev] at e0
      cases e0
      exact (w1.same s2).snoc (sall a _ h1) e5
  ok := fun ρ i p d z => by
    obtain ⟨p0, ds, y, k, j, e1, e2, hy, e3, e4, rfl⟩ := pIx_some z
    obtain ⟨s, es, hl, hd⟩ := h.ok ρ i p0 _ e1
    exact ⟨s, es, hl, dAt_snoc hd e4⟩

def sAppP (fz : List Nat) (fp : EvP) (fe : EvE) : EvS := fun ρ0 => (fp (frzs fz ρ0)).bind fun z => (fe (frzs fz ρ0)).bind fun r => match z.2.2, (frzs fz ρ0)[z.1]? with
  | .lst ds, some (some s) => if r.vw = false ∧ r.l = .full ∧ ds.length ≤ 1000000 then some (.nx ((frzs fz ρ0).set z.1 (some ⟨dSet s.d z.2.1 (.lst (ds ++ [r.d])), .full, s.al || r.al, s.pn⟩))) else none
  | _, _ => none
theorem s_appp {x : Expr} (fz : List Nat) (h : PPv X e fp) (ha : PAv X [x] (aCons fe aNil))
    (hsw : swapsWith (.Call (.Attribute e "append" apos) [x] [] cpos) none pos.line X.env = pure false := by rfl)
    (hbase : attributeBase e "append" X.env (eval e X.env) = eval e X.env := by rfl)
    (hfew : ((backTo cpos (starEach [x] X.env)).all (fun x => !x.1) && (backToKw cpos (keywordEach [] X.env)).all (fun x => x.1.isSome)
      && decide ([x].length + ([] : List Keyword).length + (if ([] : List Keyword).isEmpty then 0 else 1) < 30)) = true := by rfl)
    (hline : (apos.endLine == cpos.line) = true := by rfl) (hs : starEach [x] X.env = (false, eval x X.env) :: starEach [] X.env := by rfl) (hplain : (backTo cpos (starEach [] X.env)).any (·.1) = false := by rfl) :
    PSv X (.Expr (.Call (.Attribute e "append" apos) [x] [] cpos) pos) (sAppP fz fp fe) := by
  obtain ⟨r0, hm, hr⟩ := (l_app (X := X)).ok
  refine imp_s (ps_expr (pe_bm PySem.F.plainAttrs_list PySem.F.slot_list_append PySem.F.type_list_append hm h.run ha hbase hfew hline hs hplain) hsw) fun D σ H ⟨N, H0, ρ0, L0, o, sim0, z, q0⟩ => ?_
  obtain ⟨L, sim, subL⟩ := sim0.frzs fz
  have q := q0.at_ (H1 := H) (L1 := L) ⟨fun _ _ e _ => e, fun _ e => .inl e, fun b z => .inl (subL b z)⟩
  unfold sAppP at z
  generalize frzs fz ρ0 = ρ at sim z
  obtain ⟨⟨i, p, d⟩, e1, z1⟩ := bind_some z
  obtain ⟨r, e2, z2⟩ := bind_some z1
  clear z z1
  dsimp only at z2
  split at z2
  · rename_i ds s es
    split at z2
    · rename_i hc
      obtain ⟨hvw, hfull, hlen⟩ := hc
      cases z2
      obtain ⟨s', es', hl, hd⟩ := h.ok ρ i p _ e1
      rw [es] at es'
      cases es'
      obtain ⟨v0, a, o, vs, ds', F, ev, w2, ha', hnd, ⟨S0, hx⟩, go⟩ := sim.store es hl hd rfl
      cases hnd
      have hlv := hx.len
      refine ⟨N, H0, ρ, L, L, i, p, _, sim.h, e1, fun u H1 s1 at1 => ?_⟩
      have := (at1 v0 ev).fn (w2.same s1)
      subst this
      refine ⟨.inl ⟨rfl, vs, SqL.of (s1 _ _ ha')⟩, N, H0, ρ, L, L, [r], sim.h.same s1, ?_, fun us H2 T s2 n2 d2 p2 => ?_⟩
      · unfold aCons aNil
        rw [e2]
        rfl
      have hall : [r].all (fun r => !r.vw && decide (r.l = .full)) = true := by simp [hvw, hfull]
      have p3 := p2.full (al := r.al) hall (fun r' m e => by rw [List.mem_singleton.mp m] at e; exact e)
      have sall := s1.trans s2
      generalize hds : [r].map (·.d) = rd at p3
      cases p3 with
      | nil => cases hds
      | cons hw hrest =>
        rename_i w dw us' ds'' F1 G1
        have hds : r.d = dw ∧ [] = ds'' := by simpa using hds
        obtain ⟨rfl, rfl⟩ := hds
        cases hrest
        have nF : (∀ b ∈ F1, H b = none) := fun b m => s1.free (n2 b (by simpa using m))
        have dF : F1.Nodup := by simpa using d2
        obtain ⟨L', sim', fr⟩ := go (H1 := H2) (w := w) (dw := r.d) (al := r.al) (T := F1) (e' := .lst (ds ++ [r.d])) (o' := .lst (vs ++ [w])) sall nF dF (hw.mono fun b z => by simpa [SR] using z) trivial (fun r1 r2 nd => by
          refine ⟨_, _, F ++ F1, .lst, ?_, fun b z => z, nd⟩
          have := Rps.app r1 (Rps.cons (G := []) r2 .nil)
          rw [List.append_nil] at this
          exact this)
        exact hr H2 a vs [w] (vs ++ [w]) _ (sall _ _ ha') (by rw [hlv]; exact hlen) rfl (q _ _ L' sim' fr)
    · cases z2
  · cases z2
end
end Ev

set_option Elab.async false
set_option linter.all false
set_option maxRecDepth 100000

namespace Ev
open PySem PySem.Spec L2
open PyProof.Rows hiding St


def pinned (C : Addr) (Q : VK) : VK := fun v H => ∃ x a dx fv, v = .ref x ∧ H a = some (.ins C dx fv) ∧ H dx = some (.own x) ∧ (a = x → Q v H)
theorem pe_pin {X : Cx} {e : Expr} {t : TE} (C : Addr) (h : PE X e t) : PE X e (fun σ H Q => t σ H (pinned C Q)) :=
  ⟨fun pins s σ H Q I z => thn (h.run pins s σ H _ I z) fun u s1 ⟨v, H1, I1, rv, x, a, dx, fv, ev, ha, hx, q⟩ => by
    obtain ⟨mA, O, r, wi, _, ho⟩ := ins_get I1.hok ha
    rw [hx] at ho
    have : x = a := by cases ho; rfl
    exact ⟨v, H1, I1, rv, q this.symm⟩⟩

def spI (K : PySem.W.Frag) (n : Nat) (C : Addr) (φ : List D → Option (List (Str × D))) : Sp := fun vs H Q _ => ∃ x dx us ds fs, vs = .ref x :: us ∧ vs.length = n ∧ H x = some (.ins C dx []) ∧ H dx = some (.own x) ∧ dx ≠ x ∧ Rps K (fun a => a ≠ x) H .shr us ds [] ∧ φ ds = some fs ∧
  ∀ a H' F, (∀ b o, H b = some o → b ≠ x → H' b = some o) → (∀ b ∈ F, H b = none ∨ b = x) → F.Nodup → Rp K (fun b => (H b = none ∨ b = x) ∧ b ∉ F) H' .full (.ref a) (.obj C dx fs) F → Q .non H'
def runI (body : EvS) (m : Nat) (C dx : Addr) (ds : List D) : Option (List (Str × D)) := (body (some ⟨.obj C dx [], .full, false, none⟩ :: entry (m - 1) ds)).bind fun o => match o with
  | .nx (some s :: _) => (match s.d, s.l, s.al with
    | .obj C' dx' fs, .full, false => if C' = C ∧ dx' = dx then some fs else none
    | _, _, _ => none)
  | _ => none
theorem slots_own {K : PySem.W.Frag} {N : Nw} {x : Addr} {H : Hp} (n : Nat) (hN : ∀ a, a ≠ x → N.s a) : ∀ {vs : List V} {ds : List D}, Rps K (fun a => a ≠ x) H .shr vs ds [] → Slots K N [x] H (vs.map some ++ List.replicate n none) (ds.map (fun d => some ⟨d, .shr, true, none⟩) ++ List.replicate n none) []
  | [], [], .nil => slots_none n
  | v :: vs, d :: ds, h => by
    generalize hF : ([] : List Addr) = F at h
    cases h with
    | cons h1 h2 =>
      have e1 := h1.shr0
      have e2 := h2.shr0
      subst e1 e2
      exact Slots.so (s := ⟨d, .shr, true, none⟩) (F := []) (G := []) (fun _ z => nomatch z) (h1.mono fun a z => ⟨⟨.inr (hN a z), (fun e => nomatch e)⟩, fun _ m => z (List.mem_singleton.mp m)⟩) (slots_own n hN h2)
theorem init_ok {P : Program} {w : World} {K : PySem.W.Frag} {mg : Str → Option Value} {base : Heap} {x qual : Str} {st : Stmt} {f : Addr} {fd : FuncData} {N ps : List Str} {k : Nat} {body : EvS} {C : Addr} {φ : List D → Option (List (Str × D))} (F : Fun K x qual st f fd) (S : FnScope N ps (defScope st))
    (hb : ∀ (cdv : Value) (A : Around) (outer : List PySem.Env) (s : Shared) (H : Hp) (E : XK), Room k (A.deeper (envOfC qual (defScope st) s.heap.objs.size f cdv)) → PSsv (cxOf CX0 P w K mg base N qual (defScope st) f cdv A outer s H E).nox (defBody st) body)
    (hN : N.length - 1 + 1 = N.length) (hφ : ∀ dx ds fs, φ ds = some fs → runI body N.length C dx ds = some fs) :
    FnOk P w K mg base CX0 (k + 1) f fd ps (spI K ps.length C φ) := by
  refine F.ok S (fun vs H Q E ⟨_, _, _, _, _, _, h, _⟩ => h) (fun cdv A outer s H vs Q E hr h => ?_)
  obtain ⟨x0, dx, us, ds, fs, rfl, hl, hx, hdx, ne, rp, hrun, q⟩ := h
  refine ⟨_, hb cdv A outer s H E hr, ?_⟩
  have h4 := hφ dx ds fs hrun
  clear hrun
  unfold runI at h4
  obtain ⟨o, e1, hrun⟩ := bind_some h4
  clear h4
  refine ⟨⟨fun a => H a = none ∨ a = x0, fun a => a ≠ x0, fun _ => 0⟩, H, _, [x0], o, ⟨fun b o e _ => e, fun b e => .inl e, nodup1, fun a z => .inr (List.mem_singleton.mp z), fun a z => by rw [List.mem_singleton.mp z, hx]; trivial, ?_⟩, e1, ?_⟩
  · have hsl := slots_own (N := ⟨fun a => H a = none ∨ a = x0, fun a => a ≠ x0, fun _ => 0⟩) (N.length - (us.length + 1)) (fun _ z => z) rp
    have e2 : L2.start N (.ref x0 :: us) = some (.ref x0) :: (us.map some ++ List.replicate (N.length - (us.length + 1)) none) := rfl
    have e3 : entry (N.length - 1) ds = ds.map (fun d => some ⟨d, .shr, true, none⟩) ++ List.replicate (N.length - (us.length + 1)) none := by
      unfold entry
      rw [← rp.len]
      congr 2
      omega
    rw [e2, e3]
    refine Slots.so (s := ⟨.obj C dx [], .full, false, none⟩) (F := [x0]) (G := []) (fun _ z => nomatch z) ?_ hsl
    exact Rp.nd1 (F := []) (vs := []) (ds := []) (fun z => nomatch z) (.obj (fv := []) (fd := []) rfl) hx .nil
  · cases o with
    | nx ρ =>
      cases ρ with
      | nil => cases hrun
      | cons s0 ρ =>
        cases s0 with
        | none => cases hrun
        | some s0 =>
          obtain ⟨d0, l0, a0, p0⟩ := s0
          dsimp only at hrun
          split at hrun
          · rename_i C' dx' fs'
            split at hrun
            · rename_i hc
              obtain ⟨rfl, rfl⟩ := hc
              cases hrun
              exact fun σ' H' L' sim fr => by
                cases hs : sim.sl with
                | so h0 h1 h2 =>
                  rename_i v0 σ0 F0 G0
                  obtain ⟨a, o, vs, ds, F, rfl, rfl, ha, hnd, hr⟩ := h1.node rfl
                  refine q a H' (a :: F) (fun b o e nb => fr.1 b o e fun z => nb (List.mem_singleton.mp z)) (fun b z => ?_) ?_ (h1.mono fun b z => ?_)
                  · exact (fr.2.2 b (List.mem_append_left _ z)).elim (fun y => .inr (List.mem_singleton.mp y)) .inl
                  · have := sim.nd
                    rw [List.nodup_append] at this
                    exact this.1
                  · exact ⟨z.1.2 rfl, fun y => z.2 rfl (List.mem_append_left _ y)⟩
            · cases hrun
          · cases hrun
    | rt ρ d l al => cases hrun
    | bk ρ => cases hrun
    | ct ρ => cases hrun

def eNew (C : Addr) (φ : List D → Option (List (Str × D))) (ga : EvA) : EvE := fun ρ => (ga ρ).bind fun rs => (φ (rs.map (·.d))).map fun fs => ⟨.ins C fs, .full, false, false⟩
section
variable {X : Cx} {k n : Nat} {C f : Addr} {fd : FuncData} {ps : List Str} {φ : List D → Option (List (Str × D))} {x : Str} {p pos : Pos} {e : Expr} {es : List Expr} {ga : EvA}
theorem e_new (M : Mk X.K C f) (F : FnOk X.prog X.w X.K X.mg X.base CX0 k f fd ps (spI X.K n C φ)) (hr : Room (k + 1) X.A) (hg : Gl X x) (hm : X.mg x = some (.ref C)) (hb : Binds X.K fd ps []) (ha : PAv X (e :: es) ga) (hl : ∀ ρ rs, ga ρ = some rs → rs.length + 1 = n)
    (hdb : (x == ("__debug__" : Str)) = false := by decide) (he : starEach (e :: es) X.env = (false, eval e X.env) :: starEach es X.env := by rfl) (hpl : (backTo pos (starEach es X.env)).any (·.1) = false := by rfl) :
    PEv X (.Call (.Name x p) (e :: es) [] pos) (eNew C φ ga) := by
  refine imp_e (pe_pin C (pe_make M F hr hg hm hb .nil pass0 ha hdb he hpl)) fun σ H Q ⟨N, H0, ρ, L, W, r, sim, z, q⟩ => ?_
  unfold eNew at z
  obtain ⟨rs, e1, z1⟩ := bind_some z
  clear z
  obtain ⟨fs, e2, z2⟩ := Option.map_eq_some_iff.mp z1
  subst z2
  refine ⟨N, H0, ρ, L, W, rs, sim, e1, fun vs H1 T s1 n1 d1 p1 => fun x0 dx hx hdx ne => ?_⟩
  rw [List.append_nil]
  have sm : Same H1 (upd (upd H1 dx (.own x0)) x0 (.ins C dx [])) := fun b o hb => by
    have b1 : b ≠ x0 := fun y => by rw [y, hx] at hb; cases hb
    have b2 : b ≠ dx := fun y => by rw [y, hdx] at hb; cases hb
    rw [upd_ne b1, upd_ne b2]
    exact hb
  have hdx1 : (upd (upd H1 dx (.own x0)) x0 (.ins C dx [])) dx = some (.own x0) := by rw [upd_ne ne, upd_same]
  refine ⟨x0, dx, vs, rs.map (·.d), fs, rfl, by rw [List.length_cons, p1.len]; exact hl ρ rs e1, upd_same, hdx1, ne, ?_, e2, fun a H' F0 kp nF ndF rp => ?_⟩
  · exact (p1.look.trk.same sm).mono fun a z y => z.2 (by rw [y]; exact hx)
  · have sH : Same H H' := fun b o hb => kp b o (sm b o (s1 b o hb)) fun y => by rw [y] at hb; have := s1 _ _ hb; rw [hx] at this; cases this
    have fr : ∀ b, ((upd (upd H1 dx (.own x0)) x0 (.ins C dx [])) b = none ∨ b = x0) → H b = none := fun b z => by
      rcases z with z | z
      · exact s1.free (sm.free z)
      · rw [z]; exact s1.free hx
    cases rp with
    | nd1 h0 hn h1 h2 =>
      cases hn with
      | obj ek =>
        refine ⟨rfl, x0, a, dx, _, rfl, h1, kp dx _ hdx1 ne, fun ea => ?_⟩
        subst ea
        refine q _ H' _ sH (fun b z => fr b (nF b z)) ndF (.nd1 h0 (.ins ek) h1 (h2.mono fun b z => ?_))
        exact ⟨⟨.new (sim.nw b (fr b z.1)), fun _ w => sim.th b w (fr b z.1)⟩, z.2⟩
end
end Ev

set_option Elab.async false
set_option linter.all false
set_option maxRecDepth 100000

namespace Ev
open PySem PySem.Spec L2
open PyProof.Rows hiding St

section
variable {K : PySem.W.Frag} {S S' : Addr → Prop} {H : Hp} {l : Lv} {v : V} {F : List Addr}
theorem Rp.obj_inv {C dx : Addr} {fd : List (Str × D)} (p : Rp K S H l v (.obj C dx fd) F) : ∃ a fv G, v = .ref a ∧ H a = some (.ins C dx fv) ∧ fv.map (·.1) = fd.map (·.1) ∧ Rps K S H (ch l) (fv.map (·.2)) (fd.map (·.2)) G ∧ ∀ b ∈ G, b ∈ F := by
  cases p with
  | nd0 h h1 h2 h3 => cases h with | obj e => exact ⟨_, _, _, rfl, h1.ins, e, h3, fun _ z => z⟩
  | nd1 h0 h h1 h2 => cases h with | obj e => exact ⟨_, _, _, rfl, h1, e, h2, fun _ z => List.mem_cons_of_mem _ z⟩
end

def eAtO (C : Addr) (f : Str) (fe : EvE) : EvE := fun ρ => (fe ρ).bind fun x => match x.d with
  | .obj C' _ fd => if C' = C then (fd.lookup f).map (part x) else none
  | _ => none
section
variable {X : Cx} {C : Addr} {f : Str} {e value : Expr} {fe : EvE} {fp : EvP} {pos pos' : Pos}
theorem e_atO (c : Cls X.K C) (n : NoAttr X.K C f) (he : PEv X e fe) (hb : attributeBase e f X.env (eval e X.env) = eval e X.env := by rfl) : PEv X (.Attribute e f pos) (eAtO C f fe) := by
  refine imp_e (pe_fld he hb) fun σ H Q ⟨N, H0, ρ, L, W, r, sim, z, q⟩ => ?_
  unfold eAtO at z
  obtain ⟨x, e1, z2⟩ := bind_some z
  clear z
  have z := z2
  clear z2
  split at z
  · rename_i C' dx0 fd hd
    split at z
    · rename_i hC
      subst hC
      obtain ⟨d, e2, z⟩ := Option.map_eq_some_iff.mp z
      subst z
      refine one sim e1 fun v H1 F s1 n1 d1 p1 => ?_
      have new : ∀ a ∈ F, N a ∧ a ∉ W := fun a m => ⟨sim.nw a (n1 a m), fun w => sim.th a w (n1 a m)⟩
      have p2 := p1
      rw [hd] at p2
      obtain ⟨a, fv, G, rfl, h1, h2, h3, h4⟩ := p2.obj_inv
      obtain ⟨u, G2, e3, rp, sub⟩ := fld_rp h2 h3 e2
      exact ⟨a, C', dx0, fv, u, rfl, h1, c, n, e3, part_out q s1 new (fun a z => z.1) rp fun b z => h4 b (sub b z)⟩
    · cases z
  · cases z
def pFldO (C : Addr) (f : Str) (fp : EvP) : EvP := fun ρ => (fp ρ).bind fun z => match z.2.2 with
  | .obj C' _ fd => if C' = C then (fd.findIdx? fun q => q.1 == f).bind fun j => (kids z.2.2)[j]?.map fun e => (z.1, z.2.1 ++ [j], e) else none
  | _ => none
theorem pFldO_some {C : Addr} {f : Str} {ρ : Env} {i : Nat} {p : List Nat} {d : D} (z : pFldO C f fp ρ = some (i, p, d)) : ∃ p0 dx fd j, fp ρ = some (i, p0, .obj C dx fd) ∧ (fd.findIdx? fun q => q.1 == f) = some j ∧ (kids (.obj C dx fd))[j]? = some d ∧ p = p0 ++ [j] := by
  unfold pFldO at z
  obtain ⟨⟨i0, p0, d0⟩, e1, z1⟩ := bind_some z
  clear z
  split at z1
  · rename_i C' dx0 fd hd
    dsimp only at hd
    subst hd
    split at z1
    · rename_i hC
      subst hC
      obtain ⟨j, e2, z2⟩ := bind_some z1
      obtain ⟨e, e3, e4⟩ := Option.map_eq_some_iff.mp z2
      cases e4
      exact ⟨p0, dx0, fd, j, e1, e2, e3, rfl⟩
    · cases z1
  · cases z1
theorem p_fldO {C : Addr} {f : Str} (c : Cls X.K C) (n : NoAttr X.K C f) (h : PPv X e fp) (hb : attributeBase e f X.env (eval e X.env) = eval e X.env := by rfl) : PPv X (.Attribute e f pos) (pFldO C f fp) where
  run := imp_e (pe_fld h.run hb) fun σ H Q ⟨N, H0, ρ, L, W, i, p, d, sim, z, q⟩ => by
    obtain ⟨p0, dx0, fd, j, e1, e2, e3, rfl⟩ := pFldO_some z
    obtain ⟨s, es, hl, hd⟩ := h.ok ρ i p0 _ e1
    obtain ⟨v0, u', S, G, ev, w, r⟩ := sim.way es hl hd
    refine ⟨N, H0, ρ, L, W, i, p0, _, sim, e1, fun u H1 s1 at1 => ?_⟩
    have w1 := at1 v0 ev
    have := w1.fn (w.same s1)
    subst this
    obtain ⟨a, fv, G1, rfl, h1, h2, _, _⟩ := r.obj_inv
    obtain ⟨v, q1, q2⟩ := fld_at h2 e2
    refine ⟨a, C, dx0, fv, v, rfl, s1 a _ h1, c, n, q1, q v H1 s1 fun v1 e0 => ?_⟩
    rw [ev] at e0
    cases e0
    exact w1.snoc (s1 a _ h1) q2
  ok := fun ρ i p d z => by
    obtain ⟨p0, dx0, fd, j, e1, e2, e3, rfl⟩ := pFldO_some z
    obtain ⟨s, es, hl, hd⟩ := h.ok ρ i p0 _ e1
    exact ⟨s, es, hl, dAt_snoc hd e3⟩

def sAtPO (C : Addr) (f : Str) (fz : List Nat) (fp : EvP) (fe : EvE) : EvS := fun ρ0 => (fe (frzs fz ρ0)).bind fun r => (fp (frzs fz ρ0)).bind fun z => match z.2.2, (frzs fz ρ0)[z.1]? with
  | .obj C' dx fd, some (some s) => if C' = C ∧ r.vw = false ∧ r.l = .full ∧ fd.length < 1000 then some (.nx ((frzs fz ρ0).set z.1 (some ⟨dSet s.d z.2.1 (.obj C dx (putD f r.d fd)), .full, s.al || r.al, s.pn⟩))) else none
  | _, _ => none
theorem s_atpO (fz : List Nat) (c : Cls X.K C) (n : NoAttr X.K C f) (h : PPv X e fp) (hv : PEv X value fe) (hs : swapsWith value (some (.Attribute e f pos')) pos.line X.env = pure false := by rfl) :
    PSv X (.Assign [.Attribute e f pos'] value pos) (sAtPO C f fz fp fe) := by
  refine imp_s (ps_fld h.run hv hs) fun D σ H ⟨N, H0, ρ0, L0, o, sim0, z, q0⟩ => ?_
  obtain ⟨L, sim, subL⟩ := sim0.frzs fz
  have q := q0.at_ (H1 := H) (L1 := L) ⟨fun _ _ e _ => e, fun _ e => .inl e, fun b z => .inl (subL b z)⟩
  unfold sAtPO at z
  generalize frzs fz ρ0 = ρ at sim z
  obtain ⟨r, e1, z1⟩ := bind_some z
  obtain ⟨⟨i, p, d⟩, e2, z2⟩ := bind_some z1
  clear z z1
  dsimp only at z2
  split at z2
  · rename_i C' dx0 fd s es
    split at z2
    · rename_i hc
      obtain ⟨rfl, hvw, hfull, hlen⟩ := hc
      cases z2
      refine one sim.h e1 fun w H1 T s1 n1 d1 p1 => ?_
      rw [hfull] at p1
      obtain ⟨s', es', hl, hd⟩ := h.ok ρ i p _ e2
      rw [es] at es'
      cases es'
      refine ⟨N, H0, ρ, L, L ++ T, i, p, _, sim.h.hold s1 n1 d1 p1.own_mut, e2, fun u H2 s2 at2 => ?_⟩
      obtain ⟨v0, a, o, vs, ds, F, ev, w2, ha, hnd, hx, go⟩ := sim.store es hl hd rfl
      have := (at2 v0 ev).fn ((w2.same s1).same s2)
      subst this
      cases hnd with
      | obj ek =>
        clear hx
        rename_i fv
        have hlen' : fv.length < 1000 := by
          have := congrArg List.length ek
          rw [List.length_map, List.length_map] at this
          omega
        have p2 := (p1.mono (S' := fun b => SR N L r.al false b ∧ b ∉ T) fun a z => ⟨⟨z.1.1, fun _ => z.1.2 hvw⟩, z.2⟩).same s2
        obtain ⟨L', sim', fr⟩ := go (H1 := H2) (e' := .obj C' dx0 (putD f r.d fd)) (o' := .ins C' dx0 (putF f w fv)) (s1.trans s2) n1 d1 p2 trivial (fun r1 r2 nd => by
          obtain ⟨i1, F', i2, i3, i4⟩ := put_rps (f := f) r2 ek r1 nd
          exact ⟨_, _, F', .obj i1, i2, i3, i4⟩)
        exact ⟨a, C', dx0, fv, rfl, s2 _ _ (s1 _ _ ha), c, n, hlen', q _ _ L' sim' fr⟩
    · cases z2
  · cases z2
end
end Ev

set_option Elab.async false
set_option linter.all false
set_option maxRecDepth 100000

namespace Ev
open PySem PySem.Spec L2
open PyProof.Rows hiding St

def getAt (x : Rv) (y : D) : Option Rv := match x.d with
  | .dk kd => (keyOf y).map fun k => match dlook kd k with
    | some d => part x d
    | none => rA .non
  | .dt kd => (match y with
    | .tup ks => (keysOf ks).map fun k => match dlook kd k with
      | some d => part x d
      | none => rA .non
    | _ => none)
  | _ => none
def eDGet (fo fk : EvE) : EvE := fun ρ => (fo ρ).bind fun x => (fk ρ).bind fun y => getAt x y.d
theorem valV_none {κ : Type} [DecidableEq κ] {kv : List (κ × V)} {kd : List (κ × D)} (h : kv.map (·.1) = kd.map (·.1)) {k : κ} (e : dlook kd k = none) : valV kv k = none := by
  have h1 := has_keys h k
  have h2 : dhas kd k = false := by
    unfold dlook at e
    unfold dhas
    rw [Option.map_eq_none_iff] at e
    rw [List.find?_eq_none] at e
    simpa using e
  rw [h2] at h1
  cases hv : valV kv k with
  | none => rfl
  | some z => rw [hv] at h1; cases h1
section
variable {X : Cx} {o e : Expr} {fo fk : EvE} {apos cpos : Pos}
theorem e_dget (hu : X.A.units + 65 < cLine) (ho : PEv X o fo) (he : PEv X e fk) (m : M1 X o "get" apos e cpos := by exact ⟨rfl, rfl, rfl, rfl⟩) : PEv X (.Call (.Attribute o "get" apos) [e] [] cpos) (eDGet fo fk) := by
  refine imp_e (pe_dget1 (by omega) ho he m) fun σ H Q ⟨N, H0, ρ, L, W, r, sim, z, q⟩ => ?_
  unfold eDGet at z
  obtain ⟨x, e1, z1⟩ := bind_some z
  obtain ⟨y, e2, z2⟩ := bind_some z1
  clear z z1
  refine one sim e1 fun v H1 F s1 n1 d1 p1 => ?_
  have new : ∀ a ∈ F, N a ∧ a ∉ W := fun a m => ⟨sim.nw a (n1 a m), fun w => sim.th a w (n1 a m)⟩
  unfold getAt at z2
  split at z2
  · rename_i kd hd
    obtain ⟨k, e3, e4⟩ := Option.map_eq_some_iff.mp z2
    subst e4
    have p0 := p1
    rw [hd] at p0
    obtain ⟨a, kv, G1, rfl, h1, h2, h3, h4⟩ := p0.dk_inv
    refine ⟨a, rfl, .inl ⟨kv, h1⟩, one (sim.hold s1 n1 d1 p1.own_mut) e2 fun w H2 G s2 n2 d2 p2 => ?_⟩
    have hk := p2.key e3
    subst hk
    refine ⟨valV kv k, DGet.rk (rd_same h1 s2), ?_⟩
    cases hl : dlook kd k with
    | none =>
      rw [hl] at q
      rw [valV_none h2 hl]
      exact q.atom (s1.trans s2) fun S => .non
    | some d =>
      rw [hl] at q
      obtain ⟨u, G2, e5, rp, sub⟩ := look_rp h2 h3 hl
      rw [e5]
      exact part_out q (s1.trans s2) new (fun a z => z.1) (rp.same s2) fun b z => h4 b (sub b z)
  · rename_i kd hd
    split at z2
    · rename_i ks hy
      obtain ⟨k, e3, e4⟩ := Option.map_eq_some_iff.mp z2
      subst e4
      have p0 := p1
      rw [hd] at p0
      obtain ⟨a, kv, G1, rfl, h1, h2, h3, h4⟩ := p0.dt_inv
      refine ⟨a, rfl, .inr ⟨kv, h1⟩, one (sim.hold s1 n1 d1 p1.own_mut) e2 fun w H2 G s2 n2 d2 p2 => ?_⟩
      rw [hy] at p2
      obtain ⟨c, ws, rfl, h5, h6⟩ := p2.tup_inv
      refine ⟨valV kv k, DGet.rt (rd_same h1 s2) (by rw [h5, h6.keys e3]), ?_⟩
      cases hl : dlook kd k with
      | none =>
        rw [hl] at q
        rw [valV_none h2 hl]
        exact q.atom (s1.trans s2) fun S => .non
      | some d =>
        rw [hl] at q
        obtain ⟨u, G2, e5, rp, sub⟩ := look_rp h2 h3 hl
        rw [e5]
        exact part_out q (s1.trans s2) new (fun a z => z.1) (rp.same s2) fun b z => h4 b (sub b z)
    · cases z2
  · cases z2
end
end Ev

set_option Elab.async false
set_option linter.all false
set_option maxRecDepth 100000

namespace Ev
open PySem PySem.Spec L2
open PyProof.Rows hiding St

def eBad : EvE := fun _ => none
def sBad : EvS := fun _ => none
theorem e_bad {X : Cx} {e : Expr} : PEv X e eBad := ⟨fun _ _ _ _ _ _ ⟨_, _, _, _, _, _, _, z, _⟩ => nomatch z⟩
theorem s_bad {X : Cx} {st : Stmt} : PSv X st sBad := ⟨fun _ _ _ _ _ _ ⟨_, _, _, _, _, _, z, _⟩ => nomatch z⟩

structure MetD (P : Program) (w : World) (K : PySem.W.Frag) (mg : Str → Option Value) (base : Heap) (k : Nat) (C : Addr) (m : Str) (n : Nat) (φ : List D → Option RetD) : Prop where
  ok : ∃ f fd ps, Meth K C m f ∧ FnOk P w K mg base CX0 k f fd ps (spD K n φ) ∧ Binds K fd ps []

structure NewD (P : Program) (w : World) (K : PySem.W.Frag) (mg : Str → Option Value) (base : Heap) (k : Nat) (C : Addr) (x : Str) (n : Nat) (φ : List D → Option (List (Str × D))) : Prop where
  ok : ∃ f fd ps, Mk K C f ∧ mg x = some (.ref C) ∧ FnOk P w K mg base CX0 k f fd ps (spI K n C φ) ∧ Binds K fd ps []
section
variable {X : Cx} {k n : Nat} {C : Addr} {m x : Str} {e o : Expr} {es : List Expr} {fo : EvE} {ga : EvA} {p pos apos : Pos} {φ : List D → Option RetD} {ψ : List D → Option (List (Str × D))}
theorem x_meth {pl : Sem Bool} (c : Cls X.K C) (M : MetD X.prog X.w X.K X.mg X.base k C m n φ) (hr : Room k X.A) (ho : PEv X o fo) (ha : PAv X (e :: es) ga) (hl : ∀ ρ rs, ga ρ = some rs → rs.length + 1 = n)
    (hst : starEach (e :: es) X.env = (false, eval e X.env) :: starEach es X.env := by rfl) (hpl : (backTo pos (starEach es X.env)).any (·.1) = false := by rfl)
    (ht : eval (.Call (.Attribute o m apos) (e :: es) [] pos) X.env = (do
      let ov ← eval o X.env
      standAt apos.atName
      let (f, first) ← holding [ov] (getMethod ov m pl)
      callWith pos f first (backTo pos (starEach (e :: es) X.env)) (backToKw pos (keywordEach [] X.env))) := by rfl) :
    PEv X (.Call (.Attribute o m apos) (e :: es) [] pos) (eMeth C m φ fo ga) := by
  obtain ⟨f, fd, ps, hm, F, hb⟩ := M.ok
  exact e_meth c hm F hb hr ho ha hl hst hpl ht
theorem x_meth0 {pl : Sem Bool} (c : Cls X.K C) (M : MetD X.prog X.w X.K X.mg X.base k C m 1 φ) (hr : Room k X.A) (ho : PEv X o fo)
    (ht : eval (.Call (.Attribute o m apos) [] [] pos) X.env = (do
      let ov ← eval o X.env
      standAt apos.atName
      let (f, first) ← holding [ov] (getMethod ov m pl)
      callWith pos f first (backTo pos (starEach [] X.env)) (backToKw pos (keywordEach [] X.env))) := by rfl) :
    PEv X (.Call (.Attribute o m apos) [] [] pos) (eMeth C m φ fo aNil) := by
  obtain ⟨f, fd, ps, hm, F, hb⟩ := M.ok
  exact e_meth0 c hm F hb hr ho ht
theorem x_new (M : NewD X.prog X.w X.K X.mg X.base k C x n ψ) (hr : Room (k + 1) X.A) (ha : PAv X (e :: es) ga) (hl : ∀ ρ rs, ga ρ = some rs → rs.length + 1 = n) (hg : Gl X x := by rfl)
    (hdb : (x == ("__debug__" : Str)) = false := by decide) (he : starEach (e :: es) X.env = (false, eval e X.env) :: starEach es X.env := by rfl) (hpl : (backTo pos (starEach es X.env)).any (·.1) = false := by rfl) :
    PEv X (.Call (.Name x p) (e :: es) [] pos) (eNew C ψ ga) := by
  obtain ⟨f, fd, ps, hM, hm, F, hb⟩ := M.ok
  exact e_new hM F hr hg hm hb ha hl hdb he hpl

theorem e_gint {i : Int} (hm : ∃ t, X.mg x = some (.int i t)) (hg : Gl X x := by rfl) (hdb : (x == ("__debug__" : Str)) = false := by decide) : PEv X (.Name x pos) (eC (.int i)) := by
  obtain ⟨t, hm⟩ := hm
  exact ⟨fun pins s σ H Q I ⟨N, H0, ρ, L, W, r, sim, z, q⟩ => ld_glob I hg hm (by
    cases z
    exact ⟨.int i, H, I, ⟨t, rfl⟩, q.atom (Same.refl H) fun _ => .int⟩) hdb⟩
end
end Ev

set_option Elab.async false
set_option linter.all false
set_option maxRecDepth 100000

namespace Ev
open PySem PySem.Spec L2
open PyProof.Rows hiding St

def ItiT (d : Addr) (o : Obj) (kvs : List (List Key × V)) : It :=
  ⟨fun i H => H d = some (.frz o (.dT kvs)) ∧ i < kvs.length, fun i H x H' => ∃ T k v q, kvs[i]? = some (k, v) ∧ x = .ref T ∧ H T = none ∧ H q = some (.tup (k.map kV)) ∧ H' = upd H T (.tup [.ref q, v]), fun i H => H d = some (.frz o (.dT kvs)) ∧ kvs.length ≤ i⟩
theorem frzT2 {X : Cx} {pins : List (Addr × Obj)} {σ : St} {H : Hp} {s : Shared} {d : Addr} {o : Obj} {kvs : List (List Key × V)} (I : Inv X pins σ H s) (h : H d = some (.frz o (.dT kvs))) :
    (d == sysModules) = false ∧ s.heap.get? d = some o ∧ o.ExactDict ∧ ∃ (es : Array DictEntry) (ep : Nat), o.data = .dict es ep ∧ es.size = kvs.length ∧
      ∀ (i : Nat) (k : List Key) (v : V), kvs[i]? = some (k, v) → ∃ (en : DictEntry) (q : Addr), es[i]? = some en ∧ en.key = .ref q ∧ H q = some (.tup (k.map kV)) ∧ RelV v en.val := by
  obtain ⟨hd, z, hs, xs, pr, o', es, ep, ho, hx, hdt, he, _⟩ := I.hok d _ h
  rw [hd] at ho
  cases ho
  refine ⟨hs, hd, hx, es, ep, hdt, ?_, fun i k v e => ?_⟩
  · have l1 : es.size = xs.length := size_of_entries he
    have l2 : kvs.length = xs.length := Paired.length pr
    omega
  · obtain ⟨b, hb, e1, e2, e3⟩ := paired_get pr e
    have q := entry_at he i
    rw [hb] at q
    exact ⟨_, b.2.1, q, rfl, e2, e3⟩
section
variable {P : Program} {w : World} {K : PySem.W.Frag} {d : Addr} {o : Obj} {es : Array DictEntry} {ep : Nat}
theorem turn_itemsT {kvs : List (List Key × V)} {elts : List Expr} {kk : Nat} {tpos : Pos} (it : Addr) (hod : o.data = .dict es ep) :
    Turn P w K (.Tuple elts kk tpos) (ItiT d o kvs) [it] it (fun i h => ∃ ok ov, IsItemIter h it d i kvs.length ep ok ov) where
  mem := by simp
  obj := fun i h st b hb => by
    have e : b = it := by simpa using hb
    subst e
    obtain ⟨ok, ov, e⟩ := st
    exact ⟨_, e, fun v z => nomatch z⟩
  keep := fun i h h' st k => let ⟨ok, ov, e⟩ := st; ⟨ok, ov, k it (by simp) _ e⟩
  item := by
    intro X hP hw hK hc i pins s σ H E I hf st hg
    subst hP hw hK
    obtain ⟨hd, hi⟩ := hg
    obtain ⟨hs, hgd, hx, es', ep', hdt, hsz, ent⟩ := frzT2 I hd
    obtain ⟨rfl, rfl⟩ := dict_ep hod hdt
    obtain ⟨⟨k, v⟩, hkv⟩ : ∃ p, kvs[i]? = some p := ⟨kvs[i], List.getElem?_eq_getElem hi⟩
    obtain ⟨en, q, hen, hkey, hq, ru⟩ := ent i k v hkv
    obtain ⟨ok, ov, he⟩ := st
    rw [← hsz] at he
    have hlt : it < s.heap.objs.size := Heap.lt_size he
    have hi' : i < es'.size := by omega
    have hen' : es'[i] = en := by
      have := Array.getElem?_eq_getElem hi'
      rw [hen] at this
      exact (Option.some.inj this).symm
    refine DT.nextI he ⟨o, hgd, hx, hdt⟩ hi' fun h' ho hT hz hk => ?_
    refine ⟨_, rfl, wpAny_letOwnedTupleGo_items (s := { s with heap := h' }) ho fun h'' he' sb => ?_⟩
    rw [hen'] at hT
    have hT2 : h''.get? s.heap.objs.size = some { cls := .type "tuple", data := .seq #[en.key, en.val] } := (sb.2 _ (Nat.ne_of_gt hlt)).trans hT
    have new : ObjOk X.prog X.w (upd H s.heap.objs.size (.tup [.ref q, v])) h'' s.heap.objs.size (.tup [.ref q, v]) :=
      ⟨by show 2 ≤ sizeLine; decide, [en.key, en.val], .cons hkey (.cons ru .nil), ⟨_, hT2, rfl, _, rfl⟩⟩
    have I1 : Inv X pins σ (upd H s.heap.objs.size (.tup [.ref q, v])) { s with heap := h'' } :=
      I.turnedNew (t' := s.toks) (ch := [it]) (fun b ob hb e => (sb.2 b (by simpa using hb)).trans (hk b ob (by simpa using hb) e)) hf (Nat.le_refl _) new
    refine ⟨.ref s.heap.objs.size, _, I1, rfl, ⟨_, k, v, q, hkv, rfl, I.hok.fresh (Nat.le_refl _), hq, rfl⟩, ⟨es'[i].key, es'[i].val, ?_⟩, fun b hb => ?_⟩
    · rw [← hsz]; exact he'
    · have e : b = it := by simpa using hb
      rw [e, upd_ne (Nat.ne_of_lt hlt)]
      exact (hf it (by simp)).1
  done := by
    intro X hP hw hK hc i pins s σ H E I hf st hg
    subst hP hw hK
    obtain ⟨hd, hi⟩ := hg
    obtain ⟨f0, f1, f2, f3, f4, f5⟩ := hf it (by simp)
    obtain ⟨hs, hgd, hx, es', ep', hdt, hsz, ent⟩ := frzT2 I hd
    obtain ⟨rfl, rfl⟩ := dict_ep hod hdt
    obtain ⟨ok, ov, he⟩ := st
    rw [← hsz] at he
    exact DT.endI (I.ok.hd hc) he ⟨o, hgd, hx, hdt⟩ (by omega) fun h' eb => ⟨rfl, I.turned (t' := s.toks) (fun b ob hb e => eb b ob hb e) f0 f1 f3 f4 f5⟩
  self := fun A i s Q E st h => let ⟨_, _, e⟩ := st; PySem.W.kcp_self e h
end
def iItemsT (td : TE) : TI := fun σ H R => td σ H fun x H1 => ∃ d o kvs, x = .ref d ∧ H1 d = some (.frz o (.dT kvs)) ∧ R (ItiT d o kvs) H1
section
variable {X : Cx} {tg e : Expr} {td : TE} {apos cpos : Pos}
theorem pi_itemsT {elts : List Expr} {kk : Nat} {tpos : Pos} (he : PE X e td) (hbase : attributeBase e "items" X.env (eval e X.env) = eval e X.env := by rfl) (hline : (apos.endLine == cpos.line) = true := by rfl) :
    PI X (.Tuple elts kk tpos) (.Call (.Attribute e "items" apos) [] [] cpos) (iItemsT td) := by
  refine ⟨fun pins s σ H R I h => ?_⟩
  refine wpAny_Call_method (T := "dict") (id := "dict.items") hbase rfl hline F.plainAttrs_dict F.slot_dict_items F.type_dict_items (thn (he.run pins s σ H _ I h) fun u s1 ⟨x, H1, I1, rx, d, o, kvs, ex, hd, q⟩ => ?_)
  subst ex
  obtain rfl : u = Value.ref d := rx
  obtain ⟨hs, hgd, hx, es, ep, hdt, hsz, ent⟩ := frzT2 I1 hd
  have rw0 : DT.Raw s1.heap d es ep := ⟨o, hgd, hx, hdt⟩
  refine ⟨rw0.typeIs, fun a e => by cases e; exact ⟨o, hgd, hx.2.1⟩, ?_⟩
  have I2 : Inv X pins σ H1 { s1 with heap := s1.heap.push { cls := .type "dict_items", data := .fields #[.ref d] } } := I1.kept (t' := s1.toks) fun b ob q => Heap.get?_push_of_some _ q
  have fin : wpAny (model X.prog X.w) X.A (pyIter (.ref s1.heap.objs.size)) (PIE X pins σ (.Tuple elts kk tpos) R) X.xe { s1 with heap := s1.heap.push { cls := .type "dict_items", data := .fields #[.ref d] } } := by
    refine DT.iterI (d := d) ⟨_, Heap.get?_push_size _ rfl, rfl, rfl⟩ (rw0.push _) (pi_one (tk := s1.toks) I2 _ (turn_itemsT _ hdt) ⟨.none, .none, ?_⟩ q)
    rw [← hsz]
    exact Heap.get?_push_size _ rfl
  show wpAny _ _ (callWith cpos (.builtin "dict.items") [.ref d] [] []) _ X.xe s1
  exact method_meetsIn F.slot_dict_items F.entry_dict_items rfl (PySem.evalArgs_none ⟨rfl, rw0.typeIs, F.args_dict_items_1 _, _, DT.meetsItems (es := es) (ep := ep) hs, rw0, fin⟩)
end
end Ev

set_option Elab.async false
set_option linter.all false
set_option maxRecDepth 100000

namespace Ev
open PySem PySem.Spec L2
open PyProof.Rows hiding St

def rdName (i : Nat) : Env → Option D := fun ρ => match ρ[i]? with
  | some (some s) => some s.d
  | _ => none
def rdFld (C : Addr) (f : Str) (i : Nat) : Env → Option D := fun ρ => match ρ[i]? with
  | some (some s) => match s.d with
    | .ins C' fd => if C' = C then fd.lookup f else none
    | _ => none
  | _ => none
def isDct : D → Bool
  | .dk _ => true
  | .dt _ => true
  | _ => false

structure DP (X : Cx) (e : Expr) (fd : Env → Option D) : Prop where
  run : ∃ te, PE X e te ∧ ∀ {N : Nw} {H0 H : Hp} {ρ : Env} {σ : St} {L W : List Addr} {dd : D}, SimH X.K N H0 ρ σ H L W → fd ρ = some dd → isDct dd = true →
    ∃ d u vs ds, Rd H d u ∧ Node dd u vs ds ∧ (∃ S l F, Rps X.K S H l vs ds F) ∧ ∀ {H2 : Hp} {R : VK}, (∀ b o, b ≠ d → H b = some o → H2 b = some o) → R (.ref d) H2 → te σ H2 R
theorem rp_dct {K : PySem.W.Frag} {S : Addr → Prop} {H : Hp} {l : Lv} {v : V} {dd : D} {F : List Addr} (r : Rp K S H l v dd F) (h : isDct dd = true) : ∃ d u vs ds, v = .ref d ∧ Rd H d u ∧ Node dd u vs ds ∧ ∃ S l F, Rps K S H l vs ds F := by
  cases r with
  | nd0 hn h1 h2 h3 => exact ⟨_, _, _, _, rfl, h1.rd, hn, _, _, _, h3⟩
  | nd1 h0 hn h1 h2 => exact ⟨_, _, _, _, rfl, .inl h1, hn, _, _, _, h2⟩
  | _ => cases h
section
variable {X : Cx} {e : Expr} {pos : Pos} {C : Addr} {f : Str}
theorem dp_name (i : Nat) {x : Str} (hN : X.N[i]? = some x := by rfl) (hv : Vis X.env.scope x := by first | exact Or.inl rfl | exact Or.inr (Or.inl rfl) | exact Or.inr (Or.inr rfl)) (hd : (x == ("__debug__" : Str)) = false := by decide)
    (hcd : (x == ("__classdict__" : Str)) = false := by decide) : DP X (.Name x pos) (rdName i) := by
  refine ⟨_, pe_var hN hv hd hcd, fun {N H0 H ρ σ L W dd} sim z hD => ?_⟩
  unfold rdName at z
  split at z
  · rename_i s es
    cases z
    obtain ⟨v, G, ev, rp, _⟩ := sim.sl.get es
    obtain ⟨d, u, vs, ds, rfl, hu, hn, hr⟩ := rp_dct rp hD
    exact ⟨d, u, vs, ds, hu, hn, hr, fun {H2 R} k r => ⟨_, ev, r⟩⟩
  · cases z
theorem dp_fld (i : Nat) {x : Str} {pos' : Pos} (c : Cls X.K C) (n : NoAttr X.K C f) (hN : X.N[i]? = some x := by rfl) (hv : Vis X.env.scope x := by first | exact Or.inl rfl | exact Or.inr (Or.inl rfl) | exact Or.inr (Or.inr rfl)) (hd : (x == ("__debug__" : Str)) = false := by decide)
    (hcd : (x == ("__classdict__" : Str)) = false := by decide) (hb : attributeBase (.Name x pos') f X.env (eval (.Name x pos') X.env) = eval (.Name x pos') X.env := by rfl) : DP X (.Attribute (.Name x pos') f pos) (rdFld C f i) := by
  refine ⟨_, pe_fld (pe_var hN hv hd hcd) hb, fun {N H0 H ρ σ L W dd} sim z hD => ?_⟩
  unfold rdFld at z
  split at z
  · rename_i s es
    split at z
    · rename_i C' fd hsd
      split at z
      · rename_i hC
        subst hC
        obtain ⟨v, G, ev, rp, _⟩ := sim.sl.get es
        rw [hsd] at rp
        obtain ⟨a, dx, fv, G2, rfl, h1, h2, h3, h4⟩ := rp.ins_inv
        obtain ⟨u0, G3, e3, rp3, sub⟩ := fld_rp h2 h3 z
        obtain ⟨d, u, vs, ds, rfl, hu, hn, hr⟩ := rp_dct rp3 hD
        refine ⟨d, u, vs, ds, hu, hn, hr, fun {H2 R} k r => ⟨_, ev, a, C', dx, fv, _, rfl, k a _ (fun y => ?_) h1, c, n, e3, r⟩⟩
        rcases hu with hu | ⟨od, hu⟩
        · rw [y, hu] at h1
          cases h1
          cases hn <;> cases hD
        · rw [y, hu] at h1
          cases h1
      · cases z
    · cases z
  · cases z
end
def keyD : Key → D
  | .inl i => .int i
  | .inr x => .str x
def itDK : D → Option (List D)
  | .dk kd => if immAll (kd.map (·.2)) = true then some (kd.map fun p => .tup [keyD p.1, p.2]) else none
  | _ => none
def itDT : D → Option (List D)
  | .dt kd => if immAll (kd.map (·.2)) = true then some (kd.map fun p => .tup [.tup (p.1.map keyD), p.2]) else none
  | _ => none
def hideN (ρ : Env) : Env := ρ.map fun s => match s with
  | some s => if imm s.d = true then some ⟨s.d, .full, false, none⟩ else none
  | none => none
theorem key_rp {K : PySem.W.Frag} {S : Addr → Prop} {H : Hp} {l : Lv} (k : Key) : Rp K S H l (kV k) (keyD k) [] := by
  cases k with
  | inl i => exact .int
  | inr x => exact .str
theorem keys_rp {K : PySem.W.Frag} {S : Addr → Prop} {H : Hp} {l : Lv} : ∀ ks : List Key, Rps K S H l (ks.map kV) (ks.map keyD) []
  | [] => .nil
  | k :: ks => Rps.cons (F := []) (G := []) (key_rp k) (keys_rp ks)

theorem hide_slots {K : PySem.W.Frag} {N : Nw} {L : List Addr} {H H2 : Hp} {N2 : Nw} (hk : ∀ b o, H b = some o → (¬ Mut (some o)) → H2 b = some o) : ∀ {σ : St} {ρ : Env} {F : List Addr}, Slots K N L H σ ρ F → Slots K N2 [] H2 σ (hideN ρ) []
  | _, _, _, .nil => .nil
  | _, _, _, .no h => .no (hide_slots hk h)
  | _, _, _, .so (s := s) (v := v) h0 h1 h => by
    show Slots K N2 [] H2 _ ((if imm s.d = true then some ⟨s.d, .full, false, none⟩ else none) :: hideN _) []
    by_cases hi : imm s.d = true
    · rw [if_pos hi]
      refine Slots.so (s := ⟨s.d, .full, false, none⟩) (F := []) (G := []) (fun _ z => nomatch z) ?_ (hide_slots hk h)
      have := (h1.of_imm (S' := fun _ => False) (l' := .shr) hi).2
      have := this.keep (H' := H2) fun b o e q => hk b o e (by
        rcases q with q | q | ⟨xs, rfl⟩ | ⟨o', u, rfl⟩
        · exact q.elim
        · exact nomatch q
        · exact fun z => z
        · exact fun z => z)
      exact (this.of_imm hi).2
    · rw [if_neg hi]
      exact .no (hide_slots hk h)
def eLcD (itD : D → Option (List D)) (fd : Env → Option D) (vs : List Nat) (t : Tg) (c : EvT) (e : EvE) : EvE := fun ρ => (fd ρ).bind fun x => (itD x).bind fun ds => (lcL t c e (wipeE vs (hideN ρ)) (ds.map fun d => (d, false))).bind fun rs => (mkBig rs).map fun r => ⟨r.d, r.l, false, false⟩
theorem immAll_get : ∀ {ds : List D} {i : Nat} {d : D}, immAll ds = true → ds[i]? = some d → imm d = true := fun {ds i d} h e => by
  rw [immAll_all] at h
  exact List.all_eq_true.mp h d (List.mem_of_getElem? e)
section
variable {K : PySem.W.Frag} {S : Addr → Prop} {H' : Hp} {x : Addr} {od : Obj} {u : HO}
mutual

theorem Rp.unlock (hx : H' x = some (.frz od u)) (hu : ∀ xs, u ≠ .lst xs) (hS : ∀ a, S a → a ≠ x) : ∀ {l : Lv} {v : V} {d : D} {F : List Addr}, Rp K S H' l v d F → (∀ a ∈ F, a ≠ x) → Rp K S (upd H' x u) l v d F
  | _, _, _, _, .any, _ => .any
  | _, _, _, _, .non, _ => .non
  | _, _, _, _, .bl, _ => .bl
  | _, _, _, _, .int, _ => .int
  | _, _, _, _, .str, _ => .str
  | _, _, _, _, .tup h1 h2, hF => .tup (by rw [upd_ne (fun y => by rw [y, hx] at h1; cases h1)]; exact h1) (Rps.unlock hx hu hS h2 hF)
  | _, _, _, _, .fl h1 h3, hF => .fl (by
      rcases h1 with ⟨o, h1⟩ | h1
      · exact .inl ⟨o, by rw [upd_ne (fun y => by rw [y, hx] at h1; cases h1; exact hu _ rfl)]; exact h1⟩
      · exact .inr h1) (Rps.unlock hx hu hS h3 (fun _ z => nomatch z))
  | _, _, _, _, .nd0 h0 h1 h2 h3, hF => .nd0 h0 (h1.imp fun _ e => by rw [upd_ne (hS _ h2)]; exact e) h2 (Rps.unlock hx hu hS h3 (fun _ z => nomatch z))
  | _, _, _, _, .nd1 h0 h1 h2 h3, hF => .nd1 h0 h1 (by rw [upd_ne (hF _ List.mem_cons_self)]; exact h2) (Rps.unlock hx hu hS h3 (fun a z => hF a (List.mem_cons_of_mem _ z)))
theorem Rps.unlock (hx : H' x = some (.frz od u)) (hu : ∀ xs, u ≠ .lst xs) (hS : ∀ a, S a → a ≠ x) : ∀ {l : Lv} {vs : List V} {ds : List D} {F : List Addr}, Rps K S H' l vs ds F → (∀ a ∈ F, a ≠ x) → Rps K S (upd H' x u) l vs ds F
  | _, _, _, _, .nil, _ => .nil
  | _, _, _, _, .cons h1 h2, hF => .cons (Rp.unlock hx hu hS h1 fun a z => hF a (List.mem_append_left _ z)) (Rps.unlock hx hu hS h2 fun a z => hF a (List.mem_append_right _ z))
end
end
section
variable {X : Cx} {elt e : Expr} {ifs : List Expr} {scope : Scope} {own : List (Str × Nat)} {pos apos cpos tpos : Pos} {t : Tg} {c : EvT} {fe : EvE} {fd : Env → Option D} {elts : List Expr} {kk : Nat}

theorem yld_dt {K : PySem.W.Frag} {N : Nw} {H2 : Hp} {d : Addr} {o : Obj} {kv : List (List Key × V)} {kd : List (List Key × D)} {S : Addr → Prop} {l : Lv} {F : List Addr} (hd : H2 d = some (.frz o (.dT kv))) (hk : kv.map (·.1) = kd.map (·.1)) (hr : Rps K S H2 l (kv.map (·.2)) (kd.map (·.2)) F) (hi : immAll (kd.map (·.2)) = true) :
    YldS K N [] H2 (ItiT d o kv) ((kd.map fun p => D.tup [.tup (p.1.map keyD), p.2]).map fun d => (d, false)) where
  go := fun i d' al H3 e s => by
    refine ⟨s d _ hd, ?_⟩
    have := (List.getElem?_eq_some_iff.mp e).1
    have e2 := congrArg List.length hk
    simp at this e2
    omega
  yld := fun i d' al H3 x H4 e s y => by
    obtain ⟨T, k, v, q, e1, rfl, hT, hq, rfl⟩ := y
    rw [List.getElem?_map, List.getElem?_map] at e
    obtain ⟨d2, e2, e3⟩ := Option.map_eq_some_iff.mp e
    obtain ⟨p, e4, rfl⟩ := Option.map_eq_some_iff.mp e2
    cases e3
    have hk1 : k = p.1 := by
      have := congrArg (fun l => l[i]?) hk
      simp only [List.getElem?_map, e1, e4, Option.map_some] at this
      exact Option.some.inj this
    subst hk1
    have sm : Same H3 (upd H3 T (.tup [.ref q, v])) := same_upd hT
    obtain ⟨w, G, e5, rp, _⟩ := hr.get (i := i) (d := p.2) (by rw [List.getElem?_map, e4]; rfl)
    rw [List.getElem?_map, e1] at e5
    cases e5
    have ip := immAll_get hi (i := i) (d := p.2) (by rw [List.getElem?_map, e4]; rfl)
    refine ⟨sm, .tup upd_same (Rps.cons (F := []) (G := []) (.tup (sm q _ hq) (keys_rp _)) (Rps.cons (F := []) (G := []) ?_ .nil))⟩
    exact ((rp.same (s.trans sm)).of_imm ip).2
  stop := fun H3 s => ⟨s d _ hd, by
    have e2 := congrArg List.length hk
    simp at e2 ⊢
    omega⟩
theorem yld_dk {K : PySem.W.Frag} {N : Nw} {H2 : Hp} {d : Addr} {o : Obj} {kv : List (Key × V)} {kd : List (Key × D)} {S : Addr → Prop} {l : Lv} {F : List Addr} (hd : H2 d = some (.frz o (.dK kv))) (hk : kv.map (·.1) = kd.map (·.1)) (hr : Rps K S H2 l (kv.map (·.2)) (kd.map (·.2)) F) (hi : immAll (kd.map (·.2)) = true) :
    YldS K N [] H2 (Iti d o kv) ((kd.map fun p => D.tup [keyD p.1, p.2]).map fun d => (d, false)) where
  go := fun i d' al H3 e s => by
    refine ⟨s d _ hd, ?_⟩
    have := (List.getElem?_eq_some_iff.mp e).1
    have e2 := congrArg List.length hk
    simp at this e2
    omega
  yld := fun i d' al H3 x H4 e s y => by
    obtain ⟨T, k, v, e1, rfl, hT, rfl⟩ := y
    rw [List.getElem?_map, List.getElem?_map] at e
    obtain ⟨d2, e2, e3⟩ := Option.map_eq_some_iff.mp e
    obtain ⟨p, e4, rfl⟩ := Option.map_eq_some_iff.mp e2
    cases e3
    have hk1 : k = p.1 := by
      have := congrArg (fun l => l[i]?) hk
      simp only [List.getElem?_map, e1, e4, Option.map_some] at this
      exact Option.some.inj this
    subst hk1
    have sm : Same H3 (upd H3 T (.tup [kV p.1, v])) := same_upd hT
    obtain ⟨w, G, e5, rp, _⟩ := hr.get (i := i) (d := p.2) (by rw [List.getElem?_map, e4]; rfl)
    rw [List.getElem?_map, e1] at e5
    cases e5
    have ip := immAll_get hi (i := i) (d := p.2) (by rw [List.getElem?_map, e4]; rfl)
    refine ⟨sm, .tup upd_same (Rps.cons (F := []) (G := []) (key_rp _) (Rps.cons (F := []) (G := []) ?_ .nil))⟩
    exact ((rp.same (s.trans sm)).of_imm ip).2
  stop := fun H3 s => ⟨s d _ hd, by
    have e2 := congrArg List.length hk
    simp at e2 ⊢
    omega⟩

theorem lcD_core {vs : List Nat} (hv : (tgSlots t).all (fun j => decide (j ∈ vs)) = true) {N : Nw} {H0 H : Hp} {ρ : Env} {σ : St} {L W : List Addr} {ds : List D} {rs : List Rv} {r : Rv} {d : Addr} {u : HO} {od : Obj} {Q : VK} {J : It} (sim : SimH X.K N H0 ρ σ H L W) (hu : H d = some u) (mu : Mut (some u)) (hl : ∀ xs, u ≠ .lst xs)
    (e2 : lcL t c fe (wipeE vs (hideN ρ)) (ds.map fun d => (d, false)) = some rs) (e3 : mkBig rs = some r) (q : Post X.K N W H ⟨r.d, r.l, false, false⟩ Q)
    (Y : YldS X.K ⟨fun a => upd H d (.frz od u) a = none, fun _ => False, fun _ => 0⟩ [] (upd H d (.frz od u)) J (ds.map fun d => (d, false))) :
    tLc (fun _ _ R => R J (upd H d (.frz od u))) (tG X.K t) (tT X.K c) (tE X.K fe) vs σ (upd H d (.frz od u)) fun v H' => H' d = some (.frz od u) ∧ Q v (upd H' d u) := by
  have kp : ∀ b o, H b = some o → ¬ Mut (some o) → upd H d (.frz od u) b = some o := fun b o e n => by
    rw [upd_ne]
    · exact e
    · rintro rfl
      rw [hu] at e
      cases e
      exact n mu
  have sim2 : SimH X.K ⟨fun a => upd H d (.frz od u) a = none, fun _ => False, fun _ => 0⟩ (upd H d (.frz od u)) (hideN ρ) σ (upd H d (.frz od u)) [] [] :=
    ⟨fun _ _ e _ => e, fun _ e => e, List.nodup_nil, (fun _ z => nomatch z), (fun _ z => nomatch z), hide_slots kp sim.sl, (fun _ z => nomatch z), List.nodup_nil⟩
  refine lc_core (H := upd H d (.frz od u)) hv sim2 e2 e3 (fun v H' F s n nd rp => ?_) (Same.refl _) Y
  have hd' : H' d = some (.frz od u) := s d _ upd_same
  have sm : Same H (upd H' d u) := fun b o e => by
    by_cases hb : b = d
    · subst hb
      rw [upd_same]
      rw [hu] at e
      exact e
    · rw [upd_ne hb]
      exact s b o (by rw [upd_ne hb]; exact e)
  have nH : ∀ a, upd H d (.frz od u) a = none → H a = none ∧ a ≠ d := fun a e => by
    by_cases ha : a = d
    · subst ha
      rw [upd_same] at e
      cases e
    · rw [upd_ne ha] at e
      exact ⟨e, ha⟩
  refine ⟨hd', q v _ F sm (fun a z => (nH a (n a z)).1) nd ?_⟩
  have rp2 : Rp X.K (fun a => (H a = none ∧ a ≠ d) ∧ a ∉ F) H' r.l v r.d F := rp.mono fun a z => ⟨nH a (z.1.1.1.elim id fun y => y.elim), z.2⟩
  exact (rp2.unlock hd' hl (fun a z => z.1.2) fun a z => (nH a (n a z)).2).mono fun a z => ⟨⟨.new (sim.nw a z.1.1), fun _ w => sim.th a w z.1.1⟩, z.2⟩

theorem lcD_core2 {vs : List Nat} (hv : (tgSlots t).all (fun j => decide (j ∈ vs)) = true) {N : Nw} {H0 H : Hp} {ρ : Env} {σ : St} {L W : List Addr} {ds : List D} {rs : List Rv} {r : Rv} {Q : VK} {J : It} (sim : SimH X.K N H0 ρ σ H L W)
    (e2 : lcL t c fe (wipeE vs (hideN ρ)) (ds.map fun d => (d, false)) = some rs) (e3 : mkBig rs = some r) (q : Post X.K N W H ⟨r.d, r.l, false, false⟩ Q)
    (Y : YldS X.K ⟨fun a => H a = none, fun _ => False, fun _ => 0⟩ [] H J (ds.map fun d => (d, false))) :
    tLc (fun _ _ R => R J H) (tG X.K t) (tT X.K c) (tE X.K fe) vs σ H Q := by
  have sim2 : SimH X.K ⟨fun a => H a = none, fun _ => False, fun _ => 0⟩ H (hideN ρ) σ H [] [] :=
    ⟨fun _ _ e _ => e, fun _ e => e, List.nodup_nil, (fun _ z => nomatch z), (fun _ z => nomatch z), hide_slots (fun _ _ e _ => e) sim.sl, (fun _ z => nomatch z), List.nodup_nil⟩
  refine lc_core (H := H) hv sim2 e2 e3 (fun v H' F s n nd rp => ?_) (Same.refl _) Y
  have rp : Rp X.K (fun a => (((H a = none ∨ False) ∧ _) ∧ _) ∧ _) H' r.l v r.d F := rp
  exact q v _ F s n nd (rp.mono fun a z => ⟨⟨.new (sim.nw a (z.1.1.1.elim id fun y => y.elim)), fun _ w => sim.th a w (z.1.1.1.elim id fun y => y.elim)⟩, z.2⟩)
theorem pe_lockO {X : Cx} {e : Expr} {t : TE} (h : PE X e t) : PE X e (fun σ H Q => tLockE t σ H Q ∨ t σ H Q) := ⟨fun pins s σ H Q I hw => hw.elim ((pe_lock h).run pins s σ H Q I) (h.run pins s σ H Q I)⟩
theorem e_lcDT (own : List (Str × Nat)) (hc : X.calm = true) (hN : X.N.Nodup) (he : DP X e fd) (ok : BlkOk X.N X.env.scope scope own)
    (hg : ∀ (s : Shared) (H : Hp) (C : Addr) (cl : List (Str × Addr)) (fp : List Addr), PGv (X.blk s H scope (compEnvC scope cl C X.env) fp) (.Tuple elts kk tpos) t) (ht : ∀ (s : Shared) (H : Hp) (C : Addr) (cl : List (Str × Addr)) (fp : List Addr), PTsv (X.blk s H scope (compEnvC scope cl C X.env) fp) ifs c)
    (hel : ∀ (s : Shared) (H : Hp) (C : Addr) (cl : List (Str × Addr)) (fp : List Addr), PEv (X.blk s H scope (compEnvC scope cl C X.env) fp) elt fe) (hv : (tgSlots t).all (fun j => decide (j ∈ own.map (·.2))) = true := by rfl)
    (hs : ∀ x, foldedSetIterable (.Call (.Attribute e "items" apos) [] [] cpos) X.env x = pure x := by intro _; rfl) (hbase : attributeBase e "items" X.env (eval e X.env) = eval e X.env := by rfl) (hline : (apos.endLine == cpos.line) = true := by rfl) :
    PEv X (.ListComp elt [⟨.Tuple elts kk tpos, .Call (.Attribute e "items" apos) [] [] cpos, ifs, 0⟩] scope pos) (eLcD itDT fd (own.map (·.2)) t c fe) := by
  obtain ⟨te, pe, run⟩ := he.run
  refine imp_e (pe_lockO (pe_lc (g := tG X.K t) (tt := tT X.K c) (te := tE X.K fe) hc hN (pi_itemsT pe hbase hline) ok hg ht hel hs)) fun σ H Q h => ?_
  obtain ⟨N, H0, ρ, L, W, r, sim, z, q⟩ := h
  unfold eLcD at z
  obtain ⟨dd, e0, z⟩ := bind_some z
  obtain ⟨ds, e1, z⟩ := bind_some z
  obtain ⟨rs, e2, z⟩ := bind_some z
  obtain ⟨r0, e3, z⟩ := Option.map_eq_some_iff.mp z
  subst z
  unfold itDT at e1
  split at e1
  · rename_i kd
    split at e1
    · rename_i hi
      cases e1
      obtain ⟨d, u, vs, es, hu, hn, ⟨S, l, F, hr⟩, go⟩ := run sim e0 rfl
      cases hn with
      | dt hk =>
        rename_i kv
        rcases hu with hu | ⟨od, hfr⟩
        case inr =>
          refine .inr (go (fun _ _ _ e => e) ⟨d, od, kv, rfl, hfr, ?_⟩)
          exact lcD_core2 hv sim e2 e3 q (yld_dt (S := S) (l := l) (F := F) hfr hk hr hi)
        refine .inl ⟨d, _, hu, trivial, fun od => ?_⟩
        have hfr : upd H d (.frz od (.dT kv)) d = some (.frz od (.dT kv)) := upd_same
        refine go (fun b o hb e => by rw [upd_ne hb]; exact e) ⟨d, od, kv, rfl, hfr, ?_⟩
        refine lcD_core hv sim hu trivial (fun _ z => nomatch z) e2 e3 q (yld_dt (S := fun _ => False) (l := .shr) (F := []) hfr hk ?_ hi)
        have h2 := (hr.of_imm (S' := fun _ => False) (l' := .shr) hi).2
        exact h2.keep fun b o e qq => by
          have hb : b ≠ d := fun y => by
            subst y
            rw [hu] at e
            cases e
            rcases qq with qq | qq | ⟨xs, qq⟩ | ⟨o', u', qq⟩
            · exact qq.elim
            · exact nomatch qq
            · cases qq
            · cases qq
          rw [upd_ne hb]
          exact e
    · cases e1
  · cases e1
theorem e_lcDK (own : List (Str × Nat)) (hc : X.calm = true) (hN : X.N.Nodup) (he : DP X e fd) (ok : BlkOk X.N X.env.scope scope own)
    (hg : ∀ (s : Shared) (H : Hp) (C : Addr) (cl : List (Str × Addr)) (fp : List Addr), PGv (X.blk s H scope (compEnvC scope cl C X.env) fp) (.Tuple elts kk tpos) t) (ht : ∀ (s : Shared) (H : Hp) (C : Addr) (cl : List (Str × Addr)) (fp : List Addr), PTsv (X.blk s H scope (compEnvC scope cl C X.env) fp) ifs c)
    (hel : ∀ (s : Shared) (H : Hp) (C : Addr) (cl : List (Str × Addr)) (fp : List Addr), PEv (X.blk s H scope (compEnvC scope cl C X.env) fp) elt fe) (hv : (tgSlots t).all (fun j => decide (j ∈ own.map (·.2))) = true := by rfl)
    (hs : ∀ x, foldedSetIterable (.Call (.Attribute e "items" apos) [] [] cpos) X.env x = pure x := by intro _; rfl) (hbase : attributeBase e "items" X.env (eval e X.env) = eval e X.env := by rfl) (hline : (apos.endLine == cpos.line) = true := by rfl) :
    PEv X (.ListComp elt [⟨.Tuple elts kk tpos, .Call (.Attribute e "items" apos) [] [] cpos, ifs, 0⟩] scope pos) (eLcD itDK fd (own.map (·.2)) t c fe) := by
  obtain ⟨te, pe, run⟩ := he.run
  refine imp_e (pe_lockO (pe_lc (g := tG X.K t) (tt := tT X.K c) (te := tE X.K fe) hc hN (pi_items pe hbase hline) ok hg ht hel hs)) fun σ H Q h => ?_
  obtain ⟨N, H0, ρ, L, W, r, sim, z, q⟩ := h
  unfold eLcD at z
  obtain ⟨dd, e0, z⟩ := bind_some z
  obtain ⟨ds, e1, z⟩ := bind_some z
  obtain ⟨rs, e2, z⟩ := bind_some z
  obtain ⟨r0, e3, z⟩ := Option.map_eq_some_iff.mp z
  subst z
  unfold itDK at e1
  split at e1
  · rename_i kd
    split at e1
    · rename_i hi
      cases e1
      obtain ⟨d, u, vs, es, hu, hn, ⟨S, l, F, hr⟩, go⟩ := run sim e0 rfl
      cases hn with
      | dk hk =>
        rename_i kv
        rcases hu with hu | ⟨od, hfr⟩
        case inr =>
          refine .inr (go (fun _ _ _ e => e) ⟨d, od, kv, rfl, hfr, ?_⟩)
          exact lcD_core2 hv sim e2 e3 q (yld_dk (S := S) (l := l) (F := F) hfr hk hr hi)
        refine .inl ⟨d, _, hu, trivial, fun od => ?_⟩
        have hfr : upd H d (.frz od (.dK kv)) d = some (.frz od (.dK kv)) := upd_same
        refine go (fun b o hb e => by rw [upd_ne hb]; exact e) ⟨d, od, kv, rfl, hfr, ?_⟩
        refine lcD_core hv sim hu trivial (fun _ z => nomatch z) e2 e3 q (yld_dk (S := fun _ => False) (l := .shr) (F := []) hfr hk ?_ hi)
        have h2 := (hr.of_imm (S' := fun _ => False) (l' := .shr) hi).2
        exact h2.keep fun b o e qq => by
          have hb : b ≠ d := fun y => by
            subst y
            rw [hu] at e
            cases e
            rcases qq with qq | qq | ⟨xs, qq⟩ | ⟨o', u', qq⟩
            · exact qq.elim
            · exact nomatch qq
            · cases qq
            · cases qq
          rw [upd_ne hb]
          exact e
    · cases e1
  · cases e1
end
end Ev

set_option Elab.async false
set_option linter.all false
set_option maxRecDepth 100000

namespace Ev
open PySem PySem.Spec L2
open PyProof.Rows hiding St

def dedI (ns : List Int) : List Int := ns.foldl PyProof.Rows.step_dedup []
theorem dedI_eq (ns : List Int) : PyProof.Rows.firstMet (fun i => ns.getD i 0) ns.length = dedI ns := by
  unfold PyProof.Rows.firstMet dedI
  congr 1
  refine List.ext_getElem? fun i => ?_
  rw [List.getElem?_map]
  by_cases h : i < ns.length
  · rw [List.getElem?_range h, List.getElem?_eq_getElem h]
    simp [List.getD_eq_getElem?_getD, h]
  · rw [List.getElem?_eq_none (by simpa using h), List.getElem?_eq_none (by simpa using h)]
    rfl
def SetL (P : Program) (w : World) (a : Addr) (S : Int → Bool) (n : Nat) : HO := .ext fun h => h.SetOf (intKind P w) a S n
theorem setL_new {w : World} {P : Program} {H : Hp} {h : Heap} {a : Addr} {S : Int → Bool} {n : Nat} (R : h.SetOf (intKind P w) a S n) : ObjOk P w H h a (SetL P w a S n) := by
  have ⟨o, es, ep, t, ho, r⟩ := R
  exact ⟨R, ⟨o, ho⟩, fun h1 h2 ⟨o, es, ep, t, ho, r⟩ k => ⟨o, es, ep, t, k _ ho, r⟩⟩
section
variable {X : Cx} {e : Expr} {es : List Expr} {ga : EvA} {pos : Pos}
theorem cr_setL (hc : X.calm = true) : CallR X (.type "set") (fun xs H Q => ∃ (l : Addr) (ns : List Int), xs = [V.ref l] ∧ SqL X.K H l (ns.map V.int) ∧ ns.length < 4000 ∧
    ∀ p, H p = none → Q (.ref p) (upd H p (SetL X.prog X.w p (fun k => (dedI ns).any (· == k)) (dedI ns).length))) := by
  intro pins s σ H xs us Q I r ⟨l, ns, e, hq, hl, q⟩
  subst e
  rw [Vals.ref1 r]
  obtain ⟨its, rv, pl, hz⟩ := I.list hq
  have hlen : its.toArray.size = ns.length := by rw [List.size_toArray, ← rv.length, List.length_map]
  have hn : H s.heap.objs.size = none := I.hok.fresh (Nat.le_refl _)
  refine call_set_list (I.ok.hd hc) pl.isList (ns := ns) (by simpa using rv.ints) (by rw [hlen]; unfold scanBound; omega) fun h' tk hS k => ?_
  rw [hlen, dedI_eq] at hS
  exact ⟨.ref s.heap.objs.size, _, I.laid (t' := tk) (fun b o e => k b o (Heap.lt_size e) e) (Nat.le_refl _) (setL_new hS), rfl, q _ hn⟩
theorem cr_lenL : CallR X (.builtin "len") (fun xs H Q => ∃ a S n, xs = [V.ref a] ∧ H a = some (SetL X.prog X.w a S n) ∧ Q (.int n) H) := by
  intro pins s σ H xs us Q I r ⟨a, S, n, e, ha, q⟩
  subst e
  rw [Vals.ref1 r]
  obtain ⟨o, es, ep, t, ho, hex, hd, _, _, hsz, hf, hn⟩ := (I.hok a _ ha).1
  refine call_len_set ho hex hd hf (by unfold scanBound at hsz; omega) ⟨.int n, H, I.tok _, ⟨_, by rw [hn]⟩, q⟩
def bLenSet : List D → Option Ret
  | [d] => ((seqOf d).bind intsOf).bind fun ns => if ns.length < 4000 then some (.int (dedI ns).length, .full) else none
  | _ => none
theorem e_lenSet {p p2 q : Pos} (hc : X.calm = true) (hm : X.mg "len" = none) (hm2 : X.mg "set" = none) (ha : PAv X (e :: es) ga) (hg : Gl X "len" := by rfl) (hg2 : Gl X "set" := by rfl)
    (he : starEach (e :: es) X.env = (false, eval e X.env) :: starEach es X.env := by rfl) (hpl : (backTo q (starEach es X.env)).any (·.1) = false := by rfl) : PEv X (.Call (.Name "len" p) [.Call (.Name "set" p2) (e :: es) [] q] [] pos) (eBi bLenSet ga) := by
  refine imp_e (pe_callB cr_lenL hg hm PySem.boot_len (pa_cons (pe_callTy (cr_setL hc) hg2 hm2 PyProof.Rows.boot_set ha (by decide) (by decide) he hpl) pa_nil) (by decide) (by decide)) fun σ H Q h => ?_
  refine bi_read (r := fun xs H Q => ∃ (l : Addr) (ns : List Int), xs = [V.ref l] ∧ SqL X.K H l (ns.map V.int) ∧ ns.length < 4000 ∧
    ∀ p, H p = none → (fun x H2 => ∃ a S n, [x] = [V.ref a] ∧ H2 a = some (SetL X.prog X.w a S n) ∧ Q (.int n) H2) (.ref p) (upd H p (SetL X.prog X.w p (fun k => (dedI ns).any (· == k)) (dedI ns).length))) (fun S H vs ds z Q r e q => ?_) h
  unfold bLenSet at e
  split at e
  · rename_i d
    obtain ⟨ns, e1, e⟩ := bind_some e
    split at e
    · rename_i hlt
      cases e
      obtain ⟨xs, e2, e3⟩ := bind_some e1
      obtain ⟨v, rfl, r1⟩ := r.inv1
      obtain ⟨a, us, rfl, h1, h2⟩ := seq_rp r1 e2
      rw [intsOf_some e3] at h2
      obtain ⟨rfl, _⟩ := h2.ints
      exact ⟨a, ns, rfl, h1, hlt, fun p np => ⟨p, _, _, rfl, upd_same, q _ _ [] (same_upd np) (fun _ z => nomatch z) .nil .int⟩⟩
    · cases e
  · cases e
end
end Ev

set_option Elab.async false
set_option linter.all false
set_option maxRecDepth 100000

namespace Ev
open PySem PySem.Spec L2
open PyProof.Rows hiding St
section
variable {prog : Program} {w : World} {A : Around} {E : Value → Shared → Prop} {s : Shared}
theorem init_rev {R : Result → Shared → Prop} {it l S : Addr} {items : Array Value} (hh : A.handled = none) (hit : s.heap.IsRevIter it l ((items.size : Int) - 1)) (hl : s.heap.IsList l items) (hne : l ≠ it) (hn : items.size ≤ sizeLine) (hSi : S ≠ it) (hSl : S ≠ l)
    (hS : s.heap.get? S = some { cls := .type "list", data := .seq #[] })
    (hR : ∀ h' tk acc' c', (∀ b o, b ≠ S → b ≠ it → s.heap.get? b = some o → h'.get? b = some o) → h'.get? S = some { cls := .type "list", dict := none, data := .seq acc' c', slots := #[] } →
      ItemsOf (fun i v => items[items.size - 1 - i]? = some v) acc' items.size → R (.ok (.ret .none)) { s with heap := h', toks := tk }) :
    wpAny (model prog w) A.in1 (Builtin.«list.__init__» ⟨[.ref S, .ref it], []⟩)
      (fun fin s' => match fin with | .done f => R (.ok f) s' | .again c' => c'.quiet = true ∧ codeAny (model prog w) A c' R s') (fun e s' => R (.error e) s') s := by
  show wpAny _ _ (do let old ← Builtin.List.listItems (.ref S); Builtin.List.listUpdate (.ref S) (fun _ => #[]); letGo old.toList.reverse; Builtin.List.listExtendWith (.ref S) (.ref it) .none) _ _ s
  refine wpAny_bind ?_
  unfold Builtin.List.listItems
  refine wpAny_bind (wpAny_seqItems hS rfl (wpAny_pure ?_))
  show wpAny _ _ (updateSeq S (fun _ => #[]) >>= fun _ => letGo (#[] : Array Value).toList.reverse >>= fun _ => Builtin.List.listExtendWith (.ref S) (.ref it) .none) _ _ s
  refine wpAny_bind (wpAny_updateSeq hS rfl ?_)
  have hS₂ := Heap.get?_update_self (Obj.mapSeq (fun _ => (#[] : Array Value))) hS rfl
  have oth : ∀ b o, b ≠ S → s.heap.get? b = some o → (s.heap.update S (Obj.mapSeq (fun _ => (#[] : Array Value)))).get? b = some o :=
    fun b o hb e => (Heap.get?_update_other _ _ (Ne.symm hb)).trans e
  refine wpAny_bind (wpAny_letGo ?_)
  have hit1 : (s.heap.update S (Obj.mapSeq (fun _ => (#[] : Array Value)))).IsRevIter it l ((items.size : Int) - 1) := hit.at fun o e => oth it o (Ne.symm hSi) e
  have hl1 : (s.heap.update S (Obj.mapSeq (fun _ => (#[] : Array Value)))).IsList l items := by
    obtain ⟨o, ho, r⟩ := hl
    exact ⟨o, oth l o (Ne.symm hSl) ho, r⟩
  have W := (Walks.listRev (prog := prog) (w := w) (A := A.in1) hh it l hne items).toS
  have hSf : S ∉ [it, l] := by simp only [List.mem_cons, List.not_mem_nil, or_false, not_or]; exact ⟨hSi, hSl⟩
  have hT : ({ s with heap := s.heap.update S (Obj.mapSeq (fun _ => (#[] : Array Value))) } : Shared).TypeIs (.ref it) "list_reverseiterator" := Heap.IsRevIter.typeIs (s := { s with heap := s.heap.update S (Obj.mapSeq (fun _ => (#[] : Array Value))) }) hit1
  have h1 : Builtin.List.listSameRef (.ref S) (.ref it) = false := by simp [Builtin.List.listSameRef, hSi]
  unfold Builtin.List.listExtendWith
  refine wpAny_bind (wpAny_typeOf hT ?_)
  rw [if_neg (by rw [h1]; decide)]
  refine wpAny_bind (wpAny_pyIter_revIter (s := { s with heap := s.heap.update S (Obj.mapSeq (fun _ => (#[] : Array Value))) }) hit1 ?_)
  refine wpAny_bind (wpAny_holding ?_)
  unfold Builtin.List.listLengthHint
  refine wpAny_bind (wpAny_specialOf hT RT.nolen_lri ?_)
  show wpAny _ A.in1 (specialOf (Value.ref it) (Str.ofString "__length_hint__") >>= _) _ _ _
  refine wpAny_bind (wpAny_specialOf hT RT.hint_lri ?_)
  generalize hid : ("list_reverseiterator.__length_hint__" : String) = id0
  wp_delta
  rw [show splitId id0 = some ("list_reverseiterator", "__length_hint__") from by subst hid; decide +kernel]
  subst hid
  refine wpAny_bind (wpAny_isInstance (b := true) hT (by rw [isSubtype_type]; kernel_rfl) ?_)
  refine wpAny_pure ?_
  rw [if_neg (by decide)]
  have e0 : ((items.size : Nat) : Int) - 1 - ((0 : Nat) : Int) = (items.size : Int) - 1 := by omega
  refine wpAny_pure ⟨plainId_quiet F.plain_extend_loop _, codeAny_extend_loopS W hn S hSf .none items.size 0 _ #[] _ rfl (Nat.zero_le _) ⟨Nat.zero_le _, by rw [e0]; exact hit1, hl1⟩ hS₂ (ItemsOf.nil _) fun s' acc' c' hm hS' hacc => ?_⟩
  rw [Moved.eq_with hm]
  refine hR s'.heap s'.toks acc' c' (fun b o hb hb2 e => hm.heap b o (fun hmem => ?_) (oth b o hb e)) hS' hacc
  rcases List.mem_cons.mp hmem with e' | hmem
  · exact hb e'
  · exact hb2 (List.mem_singleton.mp hmem)
theorem call_list_rev {Q : Value → Shared → Prop} {it l : Addr} {items : Array Value} (hh : A.handled = none) (hit : s.heap.IsRevIter it l ((items.size : Int) - 1)) (hl : s.heap.IsList l items) (hne : l ≠ it) (hn : items.size ≤ sizeLine)
    (hQ : ∀ h' tk acc' c', (∀ b o, b ≠ it → s.heap.get? b = some o → h'.get? b = some o) →
      h'.get? s.heap.objs.size = some { cls := .type "list", dict := none, data := .seq acc' c', slots := #[] } → ItemsOf (fun i v => items[items.size - 1 - i]? = some v) acc' items.size → Q (.ref s.heap.objs.size) { s with heap := h', toks := tk }) :
    wpAny (model prog w) A (call (.type "list") [.ref it]) Q E s := by
  refine callType_codes (Q₁ := fun obj s₁ => obj = .ref s.heap.objs.size ∧ s₁ = { s with heap := s.heap.push { cls := .type "list", data := .seq #[] } }) F.called_list (F.typeCall_list_1 _) F.entry_list_init
    (code_list_new _ ⟨rfl, rfl⟩) fun obj s₁ h₁ => ?_
  obtain ⟨rfl, rfl⟩ := h₁
  have hS : (s.heap.push { cls := .type "list", data := .seq #[] }).get? s.heap.objs.size = some { cls := .type "list", data := .seq #[] } := Heap.get?_push_size _ rfl
  obtain ⟨oi, hoi, _⟩ := id hit
  obtain ⟨ol, hol, _⟩ := id hl
  refine ⟨⟨_, hS, rfl⟩, F.args_list_init_2 _ _, init_rev (A := A.in1) hh (hit.at fun o e => Heap.get?_push_of_some _ e) (hl.push _) hne hn (Nat.ne_of_gt (Heap.lt_size hoi)) (Nat.ne_of_gt (Heap.lt_size hol)) hS fun h' tk acc' c' hk hS' hacc => ?_⟩
  exact ⟨rfl, hQ h' tk acc' c' (fun b o hb e => hk b o (Nat.ne_of_lt (Heap.lt_size e)) hb (Heap.get?_push_of_some _ e)) hS' hacc⟩
end

section
variable {X : Cx} {e : Expr} {es : List Expr} {fa fb : EvE} {ga : EvA} {pos : Pos} {ta : TE} {t : TA}
theorem pe_lstRev {p p2 pos2 : Pos} (hc : X.calm = true) (hg : Gl X "list") (hm : X.mg "list" = none) (hg2 : Gl X "reversed") (hm2 : X.mg "reversed" = none) (ha : PA X (e :: es) t)
    (he : starEach (e :: es) X.env = (false, eval e X.env) :: starEach es X.env := by rfl) (hpl : (backTo pos2 (starEach es X.env)).any (·.1) = false := by rfl)
    (hs2 : starEach [.Call (.Name "reversed" p2) (e :: es) [] pos2] X.env = (false, eval (.Call (.Name "reversed" p2) (e :: es) [] pos2) X.env) :: starEach [] X.env := by rfl) :
    PE X (.Call (.Name "list" p) [.Call (.Name "reversed" p2) (e :: es) [] pos2] [] pos) (fun σ H Q => t σ H fun vs H1 => ∃ (a : Addr) (xs : List V), vs = [.ref a] ∧ SqL X.K H1 a xs ∧ ∀ q, H1 q = none → Q (.ref q) (upd H1 q (.lst xs.reverse))) := by
  refine ⟨fun pins s σ H Q I h => ?_⟩
  refine Call_ (ld_blt I hg hm boot_list (PyProof.Rows.callWith_type1 (args_cons (Call_ (ld_blt I hg2 hm2 PyProof.Rows.boot_reversed (PyProof.Rows.callWith_type1 (thn (ha.run pos2 pins s σ H _ I h) fun us s1 ⟨vs, H1, I1, r1, q1⟩ => ?_) he hpl))) hs2) hs2 rfl))
  obtain ⟨a, xs, ev, hq, q⟩ := q1
  subst ev
  rw [Vals.ref1 r1]
  obtain ⟨its, rv, p', hz⟩ := I1.list hq
  refine call_reversed_list p'.isList (args_nil ?_)
  have k0 : ∀ b o, s1.heap.get? b = some o → (s1.heap.push (revObj a ((its.toArray.size : Int) - 1))).get? b = some o := fun b o e => Heap.get?_push_of_some _ e
  have I2 : Inv X pins σ H1 { s1 with heap := s1.heap.push (revObj a ((its.toArray.size : Int) - 1)) } := I1.kept (t' := s1.toks) k0
  have hl := p'.isList
  obtain ⟨ol, hol, _⟩ := id hl
  have hne : a ≠ s1.heap.objs.size := Nat.ne_of_lt (Heap.lt_size hol)
  have hn : its.toArray.size ≤ sizeLine := by rw [List.size_toArray, ← rv.length]; exact hz
  have hsz : (s1.heap.push (revObj a ((its.toArray.size : Int) - 1))).objs.size = s1.heap.objs.size + 1 := Heap.size_push _ _
  have fr : H1 (s1.heap.objs.size + 1) = none := I1.hok.fresh (by omega)
  refine call_list_rev (s := { s1 with heap := s1.heap.push (revObj a ((its.toArray.size : Int) - 1)) }) (I1.ok.hd hc) ⟨_, Heap.get?_push_size _ rfl, rfl, rfl⟩ (hl.push _) hne hn fun h' tk acc c' hk e' hi => ?_
  rw [hsz] at e' ⊢
  have hk1 : ∀ b o, s1.heap.get? b = some o → h'.get? b = some o := fun b o e => hk b o (Nat.ne_of_lt (Heap.lt_size e)) (k0 b o e)
  refine ⟨.ref (s1.heap.objs.size + 1), upd H1 (s1.heap.objs.size + 1) (.lst xs.reverse), I1.laid (t' := tk) hk1 (by omega) (show ObjOk X.prog X.w _ _ _ (.lst xs.reverse) from ⟨by rw [List.length_reverse]; exact hz, acc.toList, c', RT.vals_rev rv hi, ?_⟩), rfl, q _ fr⟩
  rw [Array.toArray_toList]
  exact e'
def bLstRev : List D → Option Ret
  | [d] => (seqOf d).map fun ds => (.lst ds.reverse, .top)
  | _ => none
theorem e_lstRev {p p2 pos2 : Pos} (hc : X.calm = true) (hm : X.mg "list" = none) (hm2 : X.mg "reversed" = none) (ha : PAv X (e :: es) ga) (hg : Gl X "list" := by rfl) (hg2 : Gl X "reversed" := by rfl)
    (he : starEach (e :: es) X.env = (false, eval e X.env) :: starEach es X.env := by rfl) (hpl : (backTo pos2 (starEach es X.env)).any (·.1) = false := by rfl)
    (hs2 : starEach [.Call (.Name "reversed" p2) (e :: es) [] pos2] X.env = (false, eval (.Call (.Name "reversed" p2) (e :: es) [] pos2) X.env) :: starEach [] X.env := by rfl) :
    PEv X (.Call (.Name "list" p) [.Call (.Name "reversed" p2) (e :: es) [] pos2] [] pos) (eBi bLstRev ga) := by
  refine imp_e (pe_lstRev hc hg hm hg2 hm2 ha he hpl hs2) fun σ H Q h => ?_
  refine bi_read (r := fun vs H1 Q => ∃ (a : Addr) (xs : List V), vs = [.ref a] ∧ SqL X.K H1 a xs ∧ ∀ q, H1 q = none → Q (.ref q) (upd H1 q (.lst xs.reverse))) (fun S H vs ds z Q r e q => ?_) h
  unfold bLstRev at e
  split at e
  · rename_i d
    obtain ⟨xs, e2, e⟩ := Option.map_eq_some_iff.mp e
    subst e
    obtain ⟨v, rfl, r1⟩ := r.inv1
    obtain ⟨a, us, rfl, h1, h2⟩ := seq_rp r1 e2
    exact ⟨a, us, rfl, h1, q.lst h2.rev⟩
  · cases e

def rgL (i j : Int) : Option D := if -(2 ^ 62) ≤ i ∧ i < 2 ^ 62 ∧ -(2 ^ 62) ≤ j ∧ j < 2 ^ 62 ∧ (j - i).toNat ≤ 2 ^ 24 then some (.lst (((List.range (j - i).toNat).map fun (k : Nat) => i + (k : Int)).map .int)) else none
def eLstR1 (fa : EvE) : EvE := fun ρ => (fa ρ).bind fun x => (intOf x.d).bind fun j => (rgL 0 j).map fun d => ⟨d, .full, false, false⟩
def eLstR2 (fa fb : EvE) : EvE := fun ρ => (fa ρ).bind fun x => (fb ρ).bind fun y => (intOf x.d).bind fun i => (intOf y.d).bind fun j => (rgL i j).map fun d => ⟨d, .full, false, false⟩
theorem Post.ints {K : PySem.W.Frag} {N : Nw} {W : List Addr} {H H1 : Hp} {ns : List Int} {Q : VK} (q : Post K N W H ⟨.lst (ns.map .int), .full, false, false⟩ Q) (s : Same H H1) : ∀ p, H1 p = none → Q (.ref p) (upd H1 p (.lst (ns.map V.int))) := fun p np =>
  q _ _ [p] (s.trans (same_upd np)) (fun a m => by rw [List.mem_singleton.mp m]; exact s.free np) nodup1 (.nd1 (fun z => nomatch z) .lst upd_same (rps_ints ns))
theorem rgV_eq (i j : Int) : rgV i j = ((List.range (j - i).toNat).map fun (k : Nat) => i + (k : Int)).map V.int := by
  unfold rgV
  rw [List.map_map]
  rfl
theorem e_lstR1 {p p2 pos2 : Pos} (hc : X.calm = true) (hm : X.mg "list" = none) (hm2 : X.mg "range" = none) (ha : PEv X e fa) (hg : Gl X "list" := by rfl) (hg2 : Gl X "range" := by rfl)
    (na : starEach [e] X.env = (false, eval e X.env) :: starEach [] X.env := by rfl)
    (hs2 : starEach [.Call (.Name "range" p2) [e] [] pos2] X.env = (false, eval (.Call (.Name "range" p2) [e] [] pos2) X.env) :: starEach [] X.env := by rfl) :
    PEv X (.Call (.Name "list" p) [.Call (.Name "range" p2) [e] [] pos2] [] pos) (eLstR1 fa) := by
  refine imp_e (pe_listRg hc hg hm (prg_1 hg2 hm2 ha na) hs2) fun σ H Q ⟨N, H0, ρ, L, W, r, sim, z, q⟩ => ?_
  unfold eLstR1 at z
  obtain ⟨x, e1, z⟩ := bind_some z
  obtain ⟨j, e2, z⟩ := bind_some z
  obtain ⟨d, e3, z⟩ := Option.map_eq_some_iff.mp z
  subst z
  refine one sim e1 fun v H1 F s1 _ _ p1 => ?_
  rw [show x.d = .int j by cases hx : x.d <;> rw [hx] at e2 <;> cases e2; rfl] at p1
  obtain ⟨rfl, _⟩ := p1.int_inv
  unfold rgL at e3
  split at e3
  · rename_i hc
    cases e3
    refine ⟨j, rfl, hc, ?_⟩
    rw [rgV_eq]
    exact q.ints s1
  · cases e3
theorem e_lstR2 {e2 : Expr} {p p2 pos2 : Pos} (hc : X.calm = true) (hm : X.mg "list" = none) (hm2 : X.mg "range" = none) (ha : PEv X e fa) (hb : PEv X e2 fb) (hg : Gl X "list" := by rfl) (hg2 : Gl X "range" := by rfl)
    (na : starEach [e, e2] X.env = (false, eval e X.env) :: starEach [e2] X.env := by rfl) (nb : starEach [e2] X.env = (false, eval e2 X.env) :: starEach [] X.env := by rfl)
    (hp : (backTo pos2 (starEach [e2] X.env)).any (·.1) = false := by rfl)
    (hs2 : starEach [.Call (.Name "range" p2) [e, e2] [] pos2] X.env = (false, eval (.Call (.Name "range" p2) [e, e2] [] pos2) X.env) :: starEach [] X.env := by rfl) :
    PEv X (.Call (.Name "list" p) [.Call (.Name "range" p2) [e, e2] [] pos2] [] pos) (eLstR2 fa fb) := by
  refine imp_e (pe_listRg hc hg hm (prg_2 hg2 hm2 ha hb na nb hp) hs2) fun σ H Q ⟨N, H0, ρ, L, W, r, sim, z, q⟩ => ?_
  unfold eLstR2 at z
  obtain ⟨x, e1, z⟩ := bind_some z
  obtain ⟨y, e2, z⟩ := bind_some z
  obtain ⟨i, e3, z⟩ := bind_some z
  obtain ⟨j, e4, z⟩ := bind_some z
  obtain ⟨d, e5, z⟩ := Option.map_eq_some_iff.mp z
  subst z
  refine two sim e1 e2 fun v w H1 F G s1 _ _ _ _ _ p1 p2 => ?_
  rw [show x.d = .int i by cases hx : x.d <;> rw [hx] at e3 <;> cases e3; rfl] at p1
  rw [show y.d = .int j by cases hx : y.d <;> rw [hx] at e4 <;> cases e4; rfl] at p2
  obtain ⟨rfl, _⟩ := p1.int_inv
  obtain ⟨rfl, _⟩ := p2.int_inv
  unfold rgL at e5
  split at e5
  · rename_i hc
    cases e5
    refine ⟨i, j, rfl, rfl, hc, ?_⟩
    rw [rgV_eq]
    exact q.ints s1
  · cases e5

def eAppT (fo fa : EvE) : EvE := fun ρ => (fo ρ).bind fun x => (fa ρ).bind fun y => match x.d with
  | .lst ds => if x.l ≠ .shr ∧ ds.length ≤ 1000000 then some (rA .non) else none
  | _ => none
theorem e_appT {o x : Expr} {apos cpos : Pos} (ho : PEv X o fa) (ha : PEv X x fb)
    (hbase : attributeBase o "append" X.env (eval o X.env) = eval o X.env := by rfl)
    (hfew : ((backTo cpos (starEach [x] X.env)).all (fun x => !x.1) && (backToKw cpos (keywordEach [] X.env)).all (fun x => x.1.isSome)
      && decide ([x].length + ([] : List Keyword).length + (if ([] : List Keyword).isEmpty then 0 else 1) < 30)) = true := by rfl)
    (hline : (apos.endLine == cpos.line) = true := by rfl) (hs : starEach [x] X.env = (false, eval x X.env) :: starEach [] X.env := by rfl) (hplain : (backTo cpos (starEach [] X.env)).any (·.1) = false := by rfl) :
    PEv X (.Call (.Attribute o "append" apos) [x] [] cpos) (eAppT fa fb) := by
  obtain ⟨r0, hm, hr⟩ := (l_app (X := X)).ok
  refine imp_e (pe_bm PySem.F.plainAttrs_list PySem.F.slot_list_append PySem.F.type_list_append hm ho (pa_cons ha pa_nil hs) hbase hfew hline hs hplain) fun σ H Q ⟨N, H0, ρ, L, W, r, sim, z, q⟩ => ?_
  unfold eAppT at z
  obtain ⟨x, e1, z⟩ := bind_some z
  obtain ⟨y, e2, z⟩ := bind_some z
  split at z
  · rename_i ds hd
    split at z
    · rename_i hc
      cases z
      obtain ⟨xd, xl, xa, xv⟩ := x
      dsimp only at hd hc
      subst hd
      refine one sim e1 fun v H1 F s1 n1 d1 p1 => ?_
      have own := p1.own_mut
      cases p1 with
      | nd0 h => exact absurd rfl hc.1
      | nd1 h0 hn h1 h2 =>
        rename_i a o vs ds' F1
        cases hn
        have na : H a = none := n1 a List.mem_cons_self
        refine ⟨.inl ⟨rfl, vs, SqL.of h1⟩, one (sim.hold s1 n1 d1 own) e2 fun w H2 G s2 n2 d2 p2 => ?_⟩
        refine hr H2 a vs [w] (vs ++ [w]) Q (s2 _ _ h1) (by rw [h2.len]; exact hc.2) rfl (q.atom (fun b u e => ?_) fun _ => .non)
        rw [upd_ne (fun z => by rw [z, na] at e; cases e)]
        exact s2 _ _ (s1 _ _ e)
    · cases z
  · cases z
end
end Ev

set_option Elab.async false
set_option linter.all false
set_option maxRecDepth 100000

namespace Ev
open PySem PySem.Spec L2
open PyProof.Rows hiding St

abbrev EvX := Env → Option (Env × Rv)
def tX (K : PySem.W.Frag) (f : EvX) : TE := fun σ H Q => ∃ N H0 ρ L ρ' r, Sim K N H0 ρ σ H L ∧ f ρ = some (ρ', r) ∧ ∀ H1 L1, Sim K N H0 ρ' σ H1 L1 → Frm H L H1 L1 → Post K N L1 H1 r Q
abbrev PXv (X : Cx) (e : Expr) (f : EvX) : Prop := PE X e (tX X.K f)
section
variable {X : Cx} {e o tg : Expr} {es : List Expr} {fe : EvE} {fx : EvX} {pos pos' apos cpos p npos : Pos} {body : List Stmt} {t : Tg} {b : EvS} {x : Str} {id : String} {g : List D → Option Ret}
def xPure (fe : EvE) : EvX := fun ρ => (fe ρ).map fun r => (ρ, r)
theorem x_pure (he : PEv X e fe) : PXv X e (xPure fe) := imp_e he fun σ H Q ⟨N, H0, ρ, L, ρ', r, sim, z, q⟩ => by
  unfold xPure at z
  obtain ⟨r', e1, z⟩ := Option.map_eq_some_iff.mp z
  cases z
  exact ⟨N, H0, ρ, L, L, r, sim.h, e1, q H L sim (Frm.refl H L)⟩

def sExprX (fx : EvX) : EvS := fun ρ => (fx ρ).map fun p => .nx p.1
theorem s_exprX (he : PXv X e fx) (hs : swapsWith e none pos.line X.env = pure false := by rfl) : PSv X (.Expr e pos) (sExprX fx) := by
  refine imp_s (ps_expr he hs) fun D σ H ⟨N, H0, ρ, L, o, sim, z, q⟩ => ?_
  unfold sExprX at z
  obtain ⟨⟨ρ', r⟩, e1, z⟩ := Option.map_eq_some_iff.mp z
  subst z
  exact ⟨N, H0, ρ, L, ρ', r, sim, e1, fun H1 L1 sim1 fr v H2 F s2 _ _ _ => q σ H2 L1 (sim1.same s2) (fr.trans (Frm.same s2 fun b z => .inl z))⟩

def sSetX (i : Nat) (fx : EvX) : EvS := fun ρ => (fx ρ).bind fun p => if (!p.2.vw && decide (i < p.1.length)) = true then some (.nx (p.1.set i (some ⟨p.2.d, p.2.l, p.2.al, none⟩))) else none
theorem s_setX (i : Nat) {x : Str} (he : PXv X e fx) (hN : X.N.Nodup) (hi : X.N[i]? = some x := by rfl) (hx : Loc X.env.scope x := by first | exact Or.inl rfl | exact Or.inr rfl) (hs : swapsWith e (some (.Name x pos')) pos.line X.env = pure false := by rfl) (hf : X.fn x = true ∨ X.env.scope.names.lookup x = some .local := by first | exact .inl rfl | exact .inr rfl | assumption) :
    PSv X (.Assign [.Name x pos'] e pos) (sSetX i fx) := by
  refine imp_s (ps_set hN hi hx he hs hf) fun D σ H ⟨N, H0, ρ, L, o, sim, z, q⟩ => ?_
  unfold sSetX at z
  obtain ⟨⟨ρ', r⟩, e1, z⟩ := bind_some z
  split at z
  · rename_i hc
    rw [Bool.and_eq_true, decide_eq_true_eq] at hc
    cases z
    refine ⟨N, H0, ρ, L, ρ', r, sim, e1, fun H1 L1 sim1 fr v H2 F s2 n2 d2 p2 => ?_⟩
    have hv : r.vw = false := by simpa using hc.1
    obtain ⟨L2, sim2, sub2⟩ := sim1.set (r := ⟨r.d, r.l, r.al, none⟩) (fun _ z => nomatch z) s2 n2 d2 (p2.mono fun a z => ⟨⟨z.1.1, fun _ => z.1.2 hv⟩, z.2⟩) hc.2
    exact q _ H2 L2 sim2 (fr.trans (Frm.same s2 fun b z => (sub2 b z).imp (fun z => z) (n2 b)))
  · cases z

def xBi (g : List D → Option Ret) (fx : EvX) : EvX := fun ρ => (fx ρ).bind fun p => (g [p.2.d]).map fun z => (p.1, res p.2.al p.2.vw z)
theorem x_bi (ho : CallOk X (.builtin id) g) (hm : X.mg x = none) (hv : bootBuiltins x = some (.builtin id)) (he' : PXv X e fx) (hg : Gl X x := by rfl) (hn : x ≠ "__name__" := by decide) (hdb : (x == ("__debug__" : Str)) = false := by decide)
    (he : starEach [e] X.env = (false, eval e X.env) :: starEach [] X.env := by rfl) (hpl : (backTo pos (starEach [] X.env)).any (·.1) = false := by rfl) : PXv X (.Call (.Name x p) [e] [] pos) (xBi g fx) := by
  obtain ⟨r0, ho, hr⟩ := ho
  refine imp_e (pe_callB ho hg hm hv (pa_cons he' pa_nil he) hn hdb he hpl) fun σ H Q ⟨N, H0, ρ, L, ρ', r, sim, z, q⟩ => ?_
  unfold xBi at z
  obtain ⟨⟨ρ1, r1⟩, e1, z⟩ := bind_some z
  obtain ⟨z', e2, z⟩ := Option.map_eq_some_iff.mp z
  cases z
  refine ⟨N, H0, ρ, L, ρ1, r1, sim, e1, fun H1 L1 sim1 fr v H2 F s2 n2 d2 p2 => ?_⟩
  have q := q H1 L1 sim1 fr
  have hF : ∀ a ∈ F, N a ∧ a ∉ L1 := fun a m => ⟨sim1.nw a (n2 a m), fun w => sim1.th a w (n2 a m)⟩
  refine hr (SR N L1 r1.al r1.vw) H2 [v] [r1.d] z' Q (Rps.cons (F := []) (G := []) (p2.give (fun a z => z.1) fun a m => ⟨.new (hF a m).1, fun _ => (hF a m).2⟩) .nil) e2 fun u H3 G s3 n3 d3 p3 => ?_
  exact q.res (s2.trans s3) (fun a m => s2.free (n3 a m)) d3 (fun a z => z) p3

abbrev EvIX := Env → Option (Env × List (D × Bool))
def tIX (K : PySem.W.Frag) (f : EvIX) : TI := fun σ H R => ∃ N H0 ρ L ρ' items, Sim K N H0 ρ σ H L ∧ f ρ = some (ρ', items) ∧ ∀ H1 L1, Sim K N H0 ρ' σ H1 L1 → Frm H L H1 L1 → ∀ J H2, Same H1 H2 → Yld K N L1 H2 J items → R J H2
abbrev PIXv (X : Cx) (tg iter : Expr) (f : EvIX) : Prop := PI X tg iter (tIX X.K f)
def iLstX (fx : EvX) : EvIX := fun ρ => (fx ρ).bind fun p => if p.2.vw = true then none else match p.2.d with
  | .lst ds => some (p.1, ds.map fun d => (d, p.2.al))
  | _ => none
theorem i_lstX (he : PXv X e fx) : PIXv X tg e (iLstX fx) := by
  refine imp_i (pi_list he) fun σ H R ⟨N, H0, ρ, L, ρ', items, sim, z, q⟩ => ?_
  unfold iLstX at z
  obtain ⟨⟨ρ1, r⟩, e1, z⟩ := bind_some z
  split at z
  · cases z
  · rename_i hv0
    have hv : r.vw = false := by simpa using hv0
    clear hv0
    split at z
    · rename_i ds hd
      cases z
      obtain ⟨rd, rl, ra, rv⟩ := r
      dsimp only at hd hv
      cases hd
      cases hv
      refine ⟨N, H0, ρ, L, ρ1, _, sim, e1, fun H1 L1 sim1 fr v H2 F s2 n2 d2 p2 => ?_⟩
      have new : ∀ a ∈ F, N a ∧ a ∉ L1 := fun a m => ⟨sim1.nw a (n2 a m), fun w => sim1.th a w (n2 a m)⟩
      have muW : ∀ b ∈ L1, Mut (H2 b) := fun b z => mut_same (sim1.mu b z) s2
      have p3 := p2.give (S' := SR N L1 ra false) (fun a z => ⟨z.1.1, fun _ => z.1.2 rfl⟩) fun a m => ⟨.new (new a m).1, fun _ => (new a m).2⟩
      cases p3 with
      | nd0 hn h1 h2 h3 =>
        cases hn
        refine ⟨_, rfl, ⟨_, SqL.of h1.lst⟩, q H1 L1 sim1 fr _ H2 s2 (yld_list (fun H2 k => SqL.of (k _ _ h1.lst (h2.2 rfl))) muW h3)⟩
    · cases z
def sForX (it : EvIX) (t : Tg) (b : EvS) : EvS := fun ρ => (it ρ).bind fun p => forL t b p.2 p.1
theorem s_forX {it : EvIX} (hc : X.calm = true) (hi : PIXv X tg e it) (hg : PGv X tg t) (hb : PSsv X body b) (hp : PassesOwn (model X.prog X.w) X.A X.env X.xe := by exact PassesOwn.never) (hs : ∀ x, foldedSetIterable e X.env x = pure x := by intro _; rfl) : PSv X (.For tg e body [] pos) (sForX it t b) := by
  refine imp_s (ps_for hp hc hi hg hb hs) fun D σ H ⟨N, H0, ρ, L0, o, sim0, z, q0⟩ => ?_
  unfold sForX at z
  obtain ⟨⟨ρX, items⟩, e1, z⟩ := bind_some z
  refine ⟨N, H0, ρ, L0, ρX, items, sim0, e1, fun Hm L sim frm J H1 s1 Y => ?_⟩
  have q := q0.at_ frm
  refine ⟨fun i m σ' H' => m = items.length - i ∧ i ≤ items.length ∧ ∃ ρ' L', Sim X.K N H0 ρ' σ' H' L' ∧ Frm H1 L H' L' ∧ forL t b (items.drop i) ρ' = some o ∧ PostS X.K N H0 H' L' o D,
    ⟨items.length, by simp, Nat.zero_le _, _, L, sim.same s1, Frm.refl _ _, by simpa using z, q.at_ (Frm.same s1 fun b z => .inl z)⟩, ?_⟩
  rintro i m σ' H' ⟨rfl, hi, ρ', L', sim', fr, zi, qi⟩
  have kept : Kept H1 L H' := fr.1
  by_cases hlt : i < items.length
  · obtain ⟨⟨d, al⟩, ei⟩ : ∃ x, items[i]? = some x := ⟨items[i], List.getElem?_eq_getElem hlt⟩
    have ed : items.drop i = (d, al) :: items.drop (i + 1) := by
      rw [List.drop_eq_getElem_cons hlt]
      have := List.getElem?_eq_getElem hlt
      rw [ei] at this
      rw [← Option.some.inj this]
    rw [ed] at zi
    unfold forL at zi
    obtain ⟨ρ1, et, zi⟩ := bind_some zi
    obtain ⟨ob, eb, zi⟩ := bind_some zi
    refine .inr ⟨Y.go i d al H' ei kept, fun σ'' H'' => ∃ m', m' < items.length - i ∧ (m' = items.length - (i + 1) ∧ i + 1 ≤ items.length ∧ ∃ ρ' L', Sim X.K N H0 ρ' σ'' H'' L' ∧ Frm H1 L H'' L' ∧ forL t b (items.drop (i + 1)) ρ' = some o ∧ PostS X.K N H0 H'' L' o D), fun _ _ h => h, fun x H3 y => ?_⟩
    obtain ⟨s3, r3⟩ := Y.yld i d al H' x H3 ei kept y
    have fr3 : Frm H' L' H3 L' := Frm.same s3 fun b z => .inl z
    refine ⟨N, H0, ρ', L', L', d, al, ρ1, (sim'.same s3).h, r3.mono fun a z => ⟨z.1.1, fun _ w => (fr.2.2 a w).elim (z.1.2 rfl) z.2⟩, et, fun σ2 L2 sim2 sub2 _ => ?_⟩
    have fr2 : Frm H' L' H3 L2 := Frm.same s3 fun b z => .inl (sub2 b z)
    refine ⟨N, H0, ρ1, L2, ob, sim2.sim, eb, ?_⟩
    have again : ∀ {ρ2 : Env}, forL t b (items.drop (i + 1)) ρ2 = some o → ∀ σ4 H4 L4, Sim X.K N H0 ρ2 σ4 H4 L4 → Frm H3 L2 H4 L4 → ∃ m', m' < items.length - i ∧ (m' = items.length - (i + 1) ∧ i + 1 ≤ items.length ∧ ∃ ρ' L', Sim X.K N H0 ρ' σ4 H4 L' ∧ Frm H1 L H4 L' ∧ forL t b (items.drop (i + 1)) ρ' = some o ∧ PostS X.K N H0 H4 L' o D) :=
      fun z4 σ4 H4 L4 sim4 fr4 => ⟨_, by omega, rfl, hlt, _, L4, sim4, fr.trans (fr2.trans fr4), z4, qi.at_ (fr2.trans fr4)⟩
    cases ob with
    | nx ρ2 => exact again zi
    | ct ρ2 => exact again zi
    | bk ρ2 => cases zi; exact fun σ4 H4 L4 sim4 fr4 => qi σ4 H4 L4 sim4 (fr2.trans fr4)
    | rt ρ2 d l al => cases zi; exact qi.at_ fr2
  · have ei : i = items.length := by omega
    subst ei
    rw [List.drop_length] at zi
    unfold forL at zi
    cases zi
    exact .inl ⟨Y.stop H' kept, qi σ' H' L' sim' (Frm.refl _ _)⟩
end
end Ev

set_option Elab.async false
set_option linter.all false
set_option maxRecDepth 100000

namespace Ev
open PySem PySem.Spec L2
open PyProof.Rows hiding St

section
variable {X : Cx} {e o tg : Expr} {es : List Expr} {fe fo : EvE} {fx : EvX} {pos pos' apos cpos p npos : Pos} {x : Str} {id : String}
theorem RpL.one {K : PySem.W.Frag} {N : Nw} {L : List Addr} {H : Hp} {v : V} {r : Rv} {F : List Addr} (h : Rp K (fun a => SR N L r.al r.vw a ∧ a ∉ F) H r.l v r.d F) : RpL K N L F H [v] [r] F := by
  have := RpL.cons (T := F) (h.mono fun a z => ⟨z.1, fun _ => z.2⟩) (RpL.nil (K := K) (N := N) (W := L) (T := F) (H := H))
  rw [List.append_nil] at this
  exact this
def sAppX (i : Nat) (fx : EvX) : EvS := fun ρ => match ρ[i]? with
  | some (some s0) => match s0.d with
    | .lst _ => (fx ρ).bind fun p => match p.1[i]? with
      | some (some s) => match s.d with
        | .lst ds => if s.l ≠ .shr ∧ ds.length ≤ 1000000 ∧ p.2.vw = false then some (.nx (p.1.set i (some ⟨.lst (ds ++ [p.2.d]), keepLv s.l (if p.2.l = .full then .full else .top), s.al || p.2.al, s.pn⟩))) else none
        | _ => none
      | _ => none
    | _ => none
  | _ => none
theorem s_appX (i : Nat) (hx : PXv X e fx)
    (hN : X.N[i]? = some x := by rfl) (hv : Vis X.env.scope x := by first | exact Or.inl rfl | exact Or.inr (Or.inl rfl) | exact Or.inr (Or.inr rfl)) (hd : (x == ("__debug__" : Str)) = false := by decide) (hcd : (x == ("__classdict__" : Str)) = false := by decide)
    (hsw : swapsWith (.Call (.Attribute (.Name x npos) "append" apos) [e] [] cpos) none pos.line X.env = pure false := by rfl)
    (hbase : attributeBase (.Name x npos) "append" X.env (eval (.Name x npos) X.env) = eval (.Name x npos) X.env := by rfl)
    (hfew : ((backTo cpos (starEach [e] X.env)).all (fun x => !x.1) && (backToKw cpos (keywordEach [] X.env)).all (fun x => x.1.isSome)
      && decide ([e].length + ([] : List Keyword).length + (if ([] : List Keyword).isEmpty then 0 else 1) < 30)) = true := by rfl)
    (hline : (apos.endLine == cpos.line) = true := by rfl) (hs : starEach [e] X.env = (false, eval e X.env) :: starEach [] X.env := by rfl) (hplain : (backTo cpos (starEach [] X.env)).any (·.1) = false := by rfl) :
    PSv X (.Expr (.Call (.Attribute (.Name x npos) "append" apos) [e] [] cpos) pos) (sAppX i fx) := by
  obtain ⟨r0, hm, hr⟩ := (l_app (X := X)).ok
  refine imp_s (ps_expr (pe_bm PySem.F.plainAttrs_list PySem.F.slot_list_append PySem.F.type_list_append hm (pe_var hN hv hd hcd) (pa_cons hx pa_nil hs) hbase hfew hline hs hplain) hsw) fun D σ H ⟨N, H0, ρ, L, o, sim, z, q⟩ => ?_
  unfold sAppX at z
  split at z
  · rename_i s0 es0
    split at z
    · rename_i ds0 hd0
      obtain ⟨⟨ρ1, r⟩, e1, z⟩ := bind_some z
      split at z
      · rename_i s es
        split at z
        · rename_i ds hd
          split at z
          · rename_i hc
            cases z
            obtain ⟨hl, hn, hvw⟩ := hc
            obtain ⟨v0, G0, ev0, rp0, _⟩ := sim.sl.get es0
            rw [hd0] at rp0
            obtain ⟨a0, vs0, _, rfl, ha0, _⟩ := rp0.lst_inv
            refine ⟨.ref a0, ev0, .inl ⟨rfl, vs0, SqL.of ha0⟩, N, H0, ρ, L, ρ1, r, sim, e1, fun H1 L1 sim1 fr v H2 F s2 n2 d2 p2 => ?_⟩
            obtain ⟨sd, sl, sa, sp⟩ := s
            dsimp only at hd hl
            subst hd
            obtain ⟨a, vs, ev, ha, hlen, go⟩ := sim1.relist es hl
            rw [ev0] at ev
            cases ev
            have hvw : r.vw = false := hvw
            refine hr H2 a0 vs [v] (vs ++ [v]) _ (s2 a0 _ ha) (by rw [hlen]; exact hn) rfl ?_
            have hall : [r].all (fun r => !r.vw) = true := by simp [hvw]
            obtain ⟨L', sim', fr'⟩ := go (rs := [r]) (us := [v]) (T := F) (ws := vs ++ [v]) (es := ds ++ [r.d]) (fun r1 r2 nd => ⟨_, Rps.app r1 r2, mem_nodup nd⟩) s2 n2 d2 (RpL.one p2) hall
            refine q _ _ L' ?_ (fr.trans fr')
            have e2 : ([r].all fun r => !r.vw && decide (r.l = .full)) = decide (r.l = .full) := by simp [hvw]
            have e3 : [r].any (·.al) = r.al := by simp
            rw [e2, e3] at sim'
            simpa using sim'
          · cases z
        · cases z
      · cases z
    · cases z
  · cases z
end


def xPop (i : Nat) : EvX := fun ρ => match ρ[i]? with
  | some (some s) => match s.d with
    | .lst ds => if s.l ≠ .shr ∧ immAll ds = true then (ds[ds.length - 1]?).map fun d => (ρ.set i (some ⟨.lst ds.dropLast, s.l, s.al, s.pn⟩), rA d) else none
    | _ => none
  | _ => none
def xPop0 (i : Nat) (k : Nat) : EvX := fun ρ => match ρ[i]? with
  | some (some s) => match s.d with
    | .lst ds => if s.l ≠ .shr ∧ immAll ds = true then (ds[k]?).map fun d => (ρ.set i (some ⟨.lst (ds.eraseIdx k), s.l, s.al, s.pn⟩), rA d) else none
    | _ => none
  | _ => none
theorem keepLv_full {l : Lv} (h : l ≠ .shr) : keepLv l .full = l := by
  cases l <;> first | rfl | exact absurd rfl h
section
variable {X : Cx} {pos p0 apos cpos npos : Pos} {x : Str} {j : Option String}

theorem Sim.fewer {K : PySem.W.Frag} {N : Nw} {H0 H : Hp} {ρ : Env} {σ : St} {L : List Addr} {i : Nat} {s : Sv} {ds ds' : List D} (sim : Sim K N H0 ρ σ H L) (es : ρ[i]? = some (some s)) (hd : s.d = .lst ds) (hl : s.l ≠ .shr) :
    ∃ (a : Addr) (vs : List V), σ[i]? = some (some (.ref a)) ∧ H a = some (.lst vs) ∧ vs.length = ds.length ∧ (∀ (k : Nat) (d : D), ds[k]? = some d → imm d = true → ∃ v : V, vs[k]? = some v ∧ ∀ (S : Addr → Prop) (ws : List V), Rp K S (upd H a (.lst ws)) .full v d []) ∧
      ∀ {ws : List V}, (∀ {S : Addr → Prop} {l : Lv} {F : List Addr}, F.Nodup → Rps K S H l vs ds F → ∃ F', Rps K S H l ws ds' F' ∧ (∀ b ∈ F', b ∈ F) ∧ F'.Nodup) → ∃ L', Sim K N H0 (ρ.set i (some ⟨.lst ds', s.l, s.al, s.pn⟩)) σ (upd H a (.lst ws)) L' ∧ Frm H L (upd H a (.lst ws)) L' := by
  obtain ⟨sd, sl, sa, sp⟩ := s
  dsimp only at hd hl
  subst hd
  obtain ⟨a, vs, ev, ha, hlen, go⟩ := sim.relist es hl
  obtain ⟨v, G, ev2, rp, _⟩ := sim.sl.get es
  rw [ev] at ev2
  cases ev2
  obtain ⟨a', vs', G1, e3, h1, r1, _⟩ := rp.lst_inv
  cases e3
  rw [ha] at h1
  cases h1
  refine ⟨a, vs, ev, ha, hlen, fun k d ek hi => ?_, fun {ws} pick => ?_⟩
  · obtain ⟨v, G2, e4, r4, _⟩ := r1.get ek
    refine ⟨v, e4, fun S ws => ?_⟩
    have r5 := (r4.of_imm (S' := fun _ => False) (l' := .full) hi).2
    refine ((r5.keep (H' := upd H a (.lst ws)) fun b o eb q => ?_).mono (fun _ z => z.elim))
    have : b ≠ a := fun y => by
      subst y
      rw [ha] at eb
      cases eb
      rcases q with q | q | ⟨xs, q⟩ | ⟨o', u, q⟩
      · exact q
      · cases q
      · cases q
      · cases q
    rw [upd_ne this]
    exact eb
  · obtain ⟨L', sim', fr'⟩ := go (rs := []) (us := []) (T := []) (ws := ws) (es := ds') (fun r1 r2 nd => by
      obtain ⟨F', h1, h2, h3⟩ := pick (List.nodup_append.mp nd).1 r1
      exact ⟨F', h1, fun b z => List.mem_append_left _ (h2 b z), h3⟩) (Same.refl H) (fun _ z => nomatch z) .nil .nil rfl
    refine ⟨L', ?_, fr'⟩
    have e4 : ([] : List Rv).all (fun r => !r.vw && decide (r.l = .full)) = true := rfl
    have e5 : ([] : List Rv).any (·.al) = false := rfl
    rw [e4, if_pos rfl, keepLv_full hl, e5, Bool.or_false] at sim'
    exact sim'
theorem x_pop (i : Nat) (hN : X.N[i]? = some x := by rfl) (hv : Vis X.env.scope x := by first | exact Or.inl rfl | exact Or.inr (Or.inl rfl) | exact Or.inr (Or.inr rfl)) (hd : (x == ("__debug__" : Str)) = false := by decide) (hcd : (x == ("__classdict__" : Str)) = false := by decide)
    (hbase : attributeBase (.Name x npos) "pop" X.env (eval (.Name x npos) X.env) = eval (.Name x npos) X.env := by rfl)
    (hline : (apos.endLine == cpos.line) = true := by rfl) : PXv X (.Call (.Attribute (.Name x npos) "pop" apos) [] [] cpos) (xPop i) := by
  refine imp_e (pe_bm0 PySem.F.plainAttrs_list PySem.F.slot_list_pop PySem.F.type_list_pop mt_pop (pe_var hN hv hd hcd) hbase hline) fun σ H Q ⟨N, H0, ρ, L, ρ', r, sim, z, q⟩ => ?_
  unfold xPop at z
  split at z
  · rename_i s es
    split at z
    · rename_i ds hd
      split at z
      · rename_i hc
        obtain ⟨d, e1, z⟩ := Option.map_eq_some_iff.mp z
        cases z
        obtain ⟨a, vs, ev, ha, hlen, get, go⟩ := sim.fewer (ds' := ds.dropLast) es hd hc.1
        obtain ⟨y, ey, ry⟩ := get _ d e1 (immAll_get hc.2 e1)
        obtain ⟨L1, sim1, fr⟩ := go (ws := vs.dropLast) (fun nd r => by
          obtain ⟨F1, F2, rfl, h1, h2⟩ := r.take' (ds.length - 1)
          refine ⟨F1, ?_, fun b z => List.mem_append_left _ z, (List.nodup_append.mp nd).1⟩
          rw [List.dropLast_eq_take, List.dropLast_eq_take, hlen]
          exact h1)
        exact ⟨.ref a, ev, .inl ⟨rfl, vs, SqL.of ha⟩, a, vs, y, rfl, rfl, ha, by rw [hlen]; exact ey, (q _ L1 sim1 fr).atom (Same.refl _) fun S => ry S _⟩
      · cases z
    · cases z
  · cases z
end

def xMeth (C : Addr) (m : Str) (φ : List D → Option RetD) (j : Nat) (fx : EvX) : EvX := fun ρ => match ρ[j]? with
  | some (some s0) => match s0.d with
    | .ins C0 f0 => if C0 = C ∧ (f0.lookup m).isNone = true then (fx ρ).bind fun p => match p.1[j]? with
      | some (some s) => (φ [s.d, p.2.d]).map fun z => (p.1, mkR (s.al || p.2.al) (decide (s.l ≠ .shr) || p.2.vw) z)
      | _ => none
      else none
    | _ => none
  | _ => none
section
variable {X : Cx} {k : Nat} {C fa : Addr} {m x : Str} {e : Expr} {fx : EvX} {pos apos npos : Pos} {fd : FuncData} {ps : List Str} {φ : List D → Option RetD}
theorem x_methX {pl : Sem Bool} (j : Nat) (c : Cls X.K C) (hm : Meth X.K C m fa) (F : FnOk X.prog X.w X.K X.mg X.base CX0 k fa fd ps (spD X.K 2 φ)) (hb : Binds X.K fd ps []) (hr : Room k X.A) (hx : PXv X e fx)
    (hN : X.N[j]? = some x := by rfl) (hv : Vis X.env.scope x := by first | exact Or.inl rfl | exact Or.inr (Or.inl rfl) | exact Or.inr (Or.inr rfl)) (hd : (x == ("__debug__" : Str)) = false := by decide) (hcd : (x == ("__classdict__" : Str)) = false := by decide)
    (hst : starEach [e] X.env = (false, eval e X.env) :: starEach [] X.env := by rfl) (hpl : (backTo pos (starEach [] X.env)).any (·.1) = false := by rfl)
    (ht : eval (.Call (.Attribute (.Name x npos) m apos) [e] [] pos) X.env = (do
      let ov ← eval (.Name x npos) X.env
      standAt apos.atName
      let (f, first) ← holding [ov] (getMethod ov m pl)
      callWith pos f first (backTo pos (starEach [e] X.env)) (backToKw pos (keywordEach [] X.env))) := by rfl) :
    PXv X (.Call (.Attribute (.Name x npos) m apos) [e] [] pos) (xMeth C m φ j fx) := by
  refine imp_e (pe_meth (pe_var hN hv hd hcd) c hm F hr hb .nil pass0 (pa_cons hx pa_nil hst) hst hpl ht) fun σ H Q ⟨N, H0, ρ, L, ρ', r, sim, z, q⟩ => ?_
  unfold xMeth at z
  split at z
  · rename_i s0 es0
    split at z
    · rename_i C0 f0 hd0
      split at z
      · rename_i hC
        obtain ⟨rfl, hno⟩ := hC
        obtain ⟨⟨ρ1, r1⟩, e1, z⟩ := bind_some z
        split at z
        · rename_i s es
          obtain ⟨z', e2, z⟩ := Option.map_eq_some_iff.mp z
          cases z
          obtain ⟨v0, G0, ev0, rp0, _⟩ := sim.sl.get es0
          rw [hd0] at rp0
          obtain ⟨a, dx, fv, G, rfl, h1, h2, _⟩ := rp0.ins_inv
          refine ⟨.ref a, ev0, a, dx, fv, rfl, h1, fld_none h2 (Option.isNone_iff_eq_none.mp hno), N, H0, ρ, L, ρ1, r1, sim, e1, fun H1 L1 sim1 fr v H2 F s2 n2 d2 p2 => ?_⟩
          have q := q H1 L1 sim1 fr
          suffices h : ∀ E, spD X.K 2 φ [V.ref a, v] H2 Q E from h (fun _ _ _ => False)
          intro E
          obtain ⟨v1, G1, ev1, rp1, sub1, _⟩ := sim1.sl.get es
          rw [ev0] at ev1
          cases ev1
          have hF : ∀ a ∈ F, N a ∧ a ∉ L1 := fun a m => ⟨sim1.nw a (n2 a m), fun w => sim1.th a w (n2 a m)⟩
          have g1 : Rp X.K (SR N L1 (s.al || r1.al) (decide (s.l ≠ .shr) || r1.vw)) H2 .shr (.ref a) s.d [] := (rp1.keep (.same s2)).give (fun a z => ⟨z.1.up (fun e => by rw [e]; rfl), fun _ => z.2 rfl⟩) fun a z => ⟨.new (sim1.ln a (sub1 a z)), fun hvw => by
            simp only [Bool.or_eq_false_iff] at hvw
            have hl : s.l = .shr := by simpa using hvw.1
            rw [hl] at rp1
            rw [rp1.shr0] at z
            cases z⟩
          have g2 : Rp X.K (SR N L1 (s.al || r1.al) (decide (s.l ≠ .shr) || r1.vw)) H2 .shr v r1.d [] := p2.give (fun a z => ⟨z.1.1.up (fun e => by rw [e, Bool.or_true]), fun e => z.1.2 (by simp only [Bool.or_eq_false_iff] at e; exact e.2)⟩) fun a z => ⟨.new (hF a z).1, fun _ => (hF a z).2⟩
          refine ⟨rfl, SR N L1 (s.al || r1.al) (decide (s.l ≠ .shr) || r1.vw), [s.d, r1.d], z', Rps.cons (F := []) (G := []) g1 (Rps.cons (F := []) (G := []) g2 .nil), e2, fun u H3 G3 s3 n3 d3 p3 => ?_⟩
          exact q.ret (s2.trans s3) (fun a z => s2.free (n3 a z)) d3 (fun a z => ⟨z.1.imp (fun y => ⟨sim1.nw a (s2.free y), fun w => sim1.th a w (s2.free y)⟩) id, z.2⟩) p3
        · cases z
      · cases z
    · cases z
  · cases z
end
end Ev

set_option Elab.async false
set_option linter.all false
set_option maxRecDepth 100000

namespace Ev
open PySem PySem.Spec L2
open PyProof.Rows hiding St


inductive HArgs (K : PySem.W.Frag) (S : Addr → Prop) (H : Hp) : List Bool → List V → List D → List Addr → Prop
  | nil : HArgs K S H [] [] [] []
  | sh {ms : List Bool} {v : V} {d : D} {vs : List V} {ds : List D} {F : List Addr} : Rp K S H .shr v d [] → HArgs K S H ms vs ds F → HArgs K S H (false :: ms) (v :: vs) (d :: ds) F
  | ov {ms : List Bool} {v : V} {d : D} {vs : List V} {ds : List D} {F G : List Addr} : isNd d = true → Rp K S H .full v d G → HArgs K S H ms vs ds F → HArgs K S H (true :: ms) (v :: vs) (d :: ds) (G ++ F)

inductive HBack (K : PySem.W.Frag) (S : Addr → Prop) (H : Hp) : List V → List (Option D) → List Addr → Prop
  | nil : HBack K S H [] [] []
  | no {v : V} {vs : List V} {ds : List (Option D)} {F : List Addr} : HBack K S H vs ds F → HBack K S H (v :: vs) (none :: ds) F
  | so {v : V} {d : D} {vs : List V} {ds : List (Option D)} {F G : List Addr} : Rp K S H .full v d G → HBack K S H vs ds F → HBack K S H (v :: vs) (some d :: ds) (G ++ F)
theorem HArgs.mono {K : PySem.W.Frag} {S S' : Addr → Prop} {H : Hp} (h : ∀ a, S a → S' a) : ∀ {ms : List Bool} {vs : List V} {ds : List D} {F : List Addr}, HArgs K S H ms vs ds F → HArgs K S' H ms vs ds F
  | _, _, _, _, .nil => .nil
  | _, _, _, _, .sh r q => .sh (r.mono h) (HArgs.mono h q)
  | _, _, _, _, .ov i r q => .ov i (r.mono h) (HArgs.mono h q)
theorem HArgs.len {K : PySem.W.Frag} {S : Addr → Prop} {H : Hp} : ∀ {ms : List Bool} {vs : List V} {ds : List D} {F : List Addr}, HArgs K S H ms vs ds F → vs.length = ms.length ∧ ds.length = ms.length
  | _, _, _, _, .nil => ⟨rfl, rfl⟩
  | _, _, _, _, .sh _ q => ⟨by rw [List.length_cons, List.length_cons, q.len.1], by rw [List.length_cons, List.length_cons, q.len.2]⟩
  | _, _, _, _, .ov _ _ q => ⟨by rw [List.length_cons, List.length_cons, q.len.1], by rw [List.length_cons, List.length_cons, q.len.2]⟩
theorem HArgs.mu {K : PySem.W.Frag} {S : Addr → Prop} {H : Hp} : ∀ {ms : List Bool} {vs : List V} {ds : List D} {F : List Addr}, HArgs K S H ms vs ds F → ∀ a ∈ F, Mut (H a)
  | _, _, _, _, .nil => fun _ z => nomatch z
  | _, _, _, _, .sh _ q => q.mu
  | _, _, _, _, .ov _ r q => fun a z => (List.mem_append.mp z).elim (r.own_mut a) (q.mu a)
abbrev RetM := List (Option D) × RetD
def spM (K : PySem.W.Frag) (ms : List Bool) (φ : List D → Option RetM) : Sp := fun vs H Q _ => vs.length = ms.length ∧ ∃ S ds F r, HArgs K S H ms vs ds F ∧ F.Nodup ∧ (∀ a, S a → a ∉ F) ∧ φ ds = some r ∧
  ∀ v H' G F', (∀ b o, H b = some o → b ∉ F → H' b = some o) → (∀ b, H' b = none → H b = none ∨ b ∈ F) → HBack K (fun a => (H a = none ∨ a ∈ F ∨ S a) ∧ a ∉ F' ∧ a ∉ G) H' vs r.1 F' → (∀ a ∈ F' ++ G, a ∈ F ∨ H a = none) → (F' ++ G).Nodup → (∀ a ∈ F' ++ G, Mut (H' a)) →
    Rp K (fun a => (H a = none ∨ a ∈ F ∨ r.2.2.2 = true ∧ S a) ∧ a ∉ G ∧ a ∉ F') H' r.2.2.1 v r.2.1 G → Q v H'
structure FnM (P : Program) (w : World) (K : PySem.W.Frag) (mg : Str → Option Value) (base : Heap) (k : Nat) (x : Str) (ms : List Bool) (φ : List D → Option RetM) : Prop where
  ok : ∃ f fd ps, FnOk P w K mg base CX0 k f fd ps (spM K ms φ) ∧ mg x = some (.ref f) ∧ PySem.W.keepIn K (.ref f) = true ∧ Binds K fd ps []

def entryM (m : Nat) (ms : List Bool) (ds : List D) : Env := go 0 ms ds ++ List.replicate (m - ds.length) none
where go : Nat → List Bool → List D → Env
  | _, [], _ => []
  | _, _, [] => []
  | i, b :: ms, d :: ds => some ⟨d, if b = true then .full else .shr, true, if b = true then some i else none⟩ :: go (i + 1) ms ds

def backs : Nat → List Bool → Env → List (Option D)
  | _, [], _ => []
  | i, _ :: ms, [] => none :: backs (i + 1) ms []
  | i, b :: ms, s :: ρ => (match b, s with
    | true, some s => if s.l = .full ∧ s.pn = some i then some s.d else none
    | _, _ => none) :: backs (i + 1) ms ρ
def runM (body : EvS) (m : Nat) (ms bs : List Bool) (ds : List D) : Option RetM := (body (entryM m ms ds)).bind fun o => match o with
  | .rt ρ d l al => some (backs 0 bs ρ, d, l, al)
  | .nx ρ => some (backs 0 bs ρ, .non, .full, false)
  | _ => none
theorem entry_slots {K : PySem.W.Frag} {N : Nw} {L : List Addr} {H : Hp} {n : Nat} (hS : ∀ a, N.s a → a ∉ L) : ∀ {ms : List Bool} {vs : List V} {ds : List D} {F : List Addr} (i : Nat), HArgs K N.s H ms vs ds F → (∀ (k : Nat) (v : V), vs[k]? = some v → ms[k]? = some true → v = V.ref (N.p (i + k))) →
    Slots K N L H (vs.map some ++ List.replicate n none) (entryM.go i ms ds ++ List.replicate n none) F
  | _, _, _, _, i, .nil, _ => slots_none n
  | _, _, _, _, i, .sh (v := v) (d := d) r q, hp => by
    have z := Slots.so (L := L) (N := N) (s := ⟨d, .shr, true, none⟩) (F := []) (fun _ z => nomatch z) (r.mono fun a z => ⟨⟨.inr z, (fun e => (nomatch e))⟩, fun _ => hS a z⟩) (entry_slots (n := n) hS (i + 1) q fun k v e1 e2 => by have := hp (k + 1) v (by simpa using e1) (by simpa using e2); rw [this]; congr 2; omega)
    exact z
  | _, _, _, _, i, .ov (v := v) (d := d) hi r q, hp => by
    have z := Slots.so (L := L) (N := N) (s := ⟨d, .full, true, some i⟩) (fun k e => by cases e; exact hp 0 v rfl rfl) (r.mono fun a z => ⟨⟨.inr z, (fun e => (nomatch e))⟩, fun _ => hS a z⟩) (entry_slots (n := n) hS (i + 1) q fun k v e1 e2 => by have := hp (k + 1) v (by simpa using e1) (by simpa using e2); rw [this]; congr 2; omega)
    exact z
theorem back_slots {K : PySem.W.Frag} {N : Nw} {L : List Addr} {H : Hp} : ∀ {σ : St} {ρ : Env} {F : List Addr} (i : Nat) (ms : List Bool) (vs : List V), Slots K N L H σ ρ F → vs.length = ms.length → (∀ (k : Nat) (v : V), vs[k]? = some v → ms[k]? = some true → v = V.ref (N.p (i + k))) →
    ∃ F', F'.Sublist F ∧ HBack K (SR N L true false) H vs (backs i ms ρ) F'
  | _, _, F, i, [], [], h, _, _ => ⟨[], List.nil_sublist _, by unfold backs; exact .nil⟩
  | _, _, _, i, [], _ :: _, _, e, _ => by simp at e
  | _, _, _, i, _ :: _, [], _, e, _ => by simp at e
  | _, _, _, i, b :: ms, v :: vs, .nil, e, hp => by
    obtain ⟨F', s, q⟩ := back_slots (i + 1) ms vs (Slots.nil (K := K) (N := N) (L := L) (H := H)) (by simpa using e) fun k v e1 e2 => by have := hp (k + 1) v (by simpa using e1) (by simpa using e2); rw [this]; congr 2; omega
    exact ⟨F', s, by unfold backs; exact .no q⟩
  | _, _, _, i, b :: ms, v :: vs, .no h, e, hp => by
    obtain ⟨F', s, q⟩ := back_slots (i + 1) ms vs h (by simpa using e) fun k v e1 e2 => by have := hp (k + 1) v (by simpa using e1) (by simpa using e2); rw [this]; congr 2; omega
    refine ⟨F', s, ?_⟩
    unfold backs
    cases b <;> exact .no q
  | _, _, _, i, b :: ms, v :: vs, .so (s := s) (v := w) (F := G) h0 h1 h, e, hp => by
    obtain ⟨F', sub, q⟩ := back_slots (i + 1) ms vs h (by simpa using e) fun k v e1 e2 => by have := hp (k + 1) v (by simpa using e1) (by simpa using e2); rw [this]; congr 2; omega
    unfold backs
    cases b with
    | false => exact ⟨F', sub.trans (List.sublist_append_right _ _), .no q⟩
    | true =>
      dsimp only
      split
      · rename_i hc
        have ew := h0 i hc.2
        have ev := hp 0 v rfl rfl
        subst ew ev
        obtain ⟨sd, sl, sa, sp⟩ := s
        have hl : sl = .full := hc.1
        subst hl
        exact ⟨G ++ F', List.Sublist.append (List.Sublist.refl _) sub, .so (h1.mono fun a z => ⟨z.1.up fun _ => rfl, z.2⟩) q⟩
      · exact ⟨F', sub.trans (List.sublist_append_right _ _), .no q⟩
end Ev

set_option Elab.async false
set_option linter.all false
set_option maxRecDepth 100000

namespace Ev
open PySem PySem.Spec L2
open PyProof.Rows hiding St
theorem HBack.mono {K : PySem.W.Frag} {S S' : Addr → Prop} {H : Hp} (h : ∀ a, S a → S' a) : ∀ {vs : List V} {ds : List (Option D)} {F : List Addr}, HBack K S H vs ds F → HBack K S' H vs ds F
  | _, _, _, .nil => .nil
  | _, _, _, .no q => .no (HBack.mono h q)
  | _, _, _, .so r q => .so (r.mono h) (HBack.mono h q)
def refAt (vs : List V) (i : Nat) : Addr := match vs[i]? with
  | some (.ref a) => a
  | _ => 0
theorem HArgs.ref {K : PySem.W.Frag} {S : Addr → Prop} {H : Hp} : ∀ {ms : List Bool} {vs : List V} {ds : List D} {F : List Addr}, HArgs K S H ms vs ds F → ∀ (k : Nat) (v : V), vs[k]? = some v → ms[k]? = some true → ∃ a, v = V.ref a
  | _, _, _, _, .nil, _, _, e, _ => by simp at e
  | _, _, _, _, .sh _ q, 0, _, _, e => by simp at e
  | _, _, _, _, .ov hi r q, 0, _, e, _ => by
    obtain ⟨a, o, vs, ds, F, rfl, _⟩ := r.node hi
    simp at e
    exact ⟨a, e.symm⟩
  | _, _, _, _, .sh _ q, k + 1, v, e1, e2 => q.ref k v (by simpa using e1) (by simpa using e2)
  | _, _, _, _, .ov _ _ q, k + 1, v, e1, e2 => q.ref k v (by simpa using e1) (by simpa using e2)
theorem entryM_len : ∀ (i : Nat) (ms : List Bool) (ds : List D), ds.length = ms.length → (entryM.go i ms ds).length = ds.length
  | _, [], [], _ => rfl
  | _, [], _ :: _, e => by simp at e
  | _, _ :: _, [], e => by simp at e
  | i, _ :: ms, _ :: ds, e => by unfold entryM.go; rw [List.length_cons, List.length_cons, entryM_len (i + 1) ms ds (by simpa using e)]
theorem def_okM {P : Program} {w : World} {K : PySem.W.Frag} {mg : Str → Option Value} {base : Heap} {x qual : Str} {st : Stmt} {f : Addr} {fd : FuncData} {N ps : List Str} {k : Nat} {body : EvS} (ms bs : List Bool) (F : Fun K x qual st f fd) (S : FnScope N ps (defScope st)) (hms : ms.length = ps.length) (hbl : bs.length = ms.length) (hbs : bs.zip ms = (bs.zip ms).filter fun p => !p.1 || p.2)
    (hb : ∀ (cdv : Value) (A : Around) (outer : List PySem.Env) (s : Shared) (H : Hp) (E : XK), Room k (A.deeper (envOfC qual (defScope st) s.heap.objs.size f cdv)) → PSsv (cxOf CX0 P w K mg base N qual (defScope st) f cdv A outer s H E).nox (defBody st) body) :
    FnOk P w K mg base CX0 (k + 1) f fd ps (spM K ms (runM body N.length ms bs)) := by
  refine F.ok S (fun vs H Q E h => h.1.trans hms) (fun cdv A outer s H vs Q E hr h => ?_)
  obtain ⟨hl, Sx, ds, Fh, r, ha, nF, dis, hrun, q⟩ := h
  refine ⟨_, hb cdv A outer s H E hr, ?_⟩
  unfold runM at hrun
  obtain ⟨o, e1, hrun⟩ := bind_some hrun
  have href : ∀ (k : Nat) (v : V), vs[k]? = some v → ms[k]? = some true → v = V.ref (refAt vs k) := fun k v e1 e2 => by
    obtain ⟨a, rfl⟩ := ha.ref k v e1 e2
    unfold refAt
    rw [e1]
  have hrb : ∀ (k : Nat) (v : V), vs[k]? = some v → bs[k]? = some true → v = V.ref (refAt vs k) := fun k v e1 e2 => href k v e1 (by
    have hk : k < bs.length := (List.getElem?_eq_some_iff.mp e2).1
    have e3 : ms[k]? = some ms[k] := List.getElem?_eq_getElem (by omega)
    have e4 : (true, ms[k]) ∈ bs.zip ms := by
      have : (bs.zip ms)[k]? = some (true, ms[k]) := by rw [List.getElem?_zip_eq_some]; exact ⟨e2, e3⟩
      exact List.mem_of_getElem? this
    rw [hbs] at e4
    have := (List.mem_filter.mp e4).2
    rw [e3]
    simpa using this)
  refine ⟨⟨fun a => H a = none ∨ a ∈ Fh, Sx, refAt vs⟩, H, entryM N.length ms ds, Fh, o, ⟨fun b o e _ => e, fun b e => .inl e, nF, (fun _ z => .inr z), ha.mu, ?_⟩, e1, ?_⟩
  · unfold entryM L2.start
    rw [ha.len.1, ha.len.2]
    exact entry_slots (N := ⟨fun a => H a = none ∨ a ∈ Fh, Sx, refAt vs⟩) (L := Fh) dis 0 ha fun k v e1 e2 => by rw [Nat.zero_add]; exact href k v e1 e2
  · have frame : ∀ {H' : Hp}, (∀ b o, H b = some o → ¬ (H b = none ∨ b ∈ Fh) → H' b = some o) → ∀ b o, H b = some o → b ∉ Fh → H' b = some o := fun k b o e n => k b o e fun z => z.elim (fun z => by rw [e] at z; cases z) n
    cases o with
    | nx ρ =>
      cases hrun
      intro σ' H' L' sim fr
      obtain ⟨F', sub, hbk⟩ := back_slots 0 bs vs sim.sl (hl.trans hbl.symm) fun k v e1 e2 => by rw [Nat.zero_add]; exact hrb k v e1 e2
      exact q .non H' [] F' (frame sim.kp) sim.nw (hbk.mono fun a z => ⟨or_assoc.mp z.1.1, fun m => z.2 rfl (sub.subset m), fun m => nomatch m⟩) (fun a z => (sim.ln a (sub.subset (by simpa using z))).symm) (by rw [List.append_nil]; exact sub.nodup sim.nd) (fun a z => sim.mu a (sub.subset (by simpa using z))) .non
    | rt ρ d l al =>
      cases hrun
      intro v σ' H' L' G sim _ rp
      obtain ⟨F', sub, hbk⟩ := back_slots 0 bs vs sim.sl (hl.trans hbl.symm) fun k v e1 e2 => by rw [Nat.zero_add]; exact hrb k v e1 e2
      have subW : (F' ++ G).Sublist (L' ++ G) := List.Sublist.append sub (List.Sublist.refl _)
      refine q v H' G F' (frame sim.kp) sim.nw (hbk.mono fun a z => ⟨or_assoc.mp z.1.1, fun m => z.2 rfl (List.mem_append_left _ (sub.subset m)), fun m => z.2 rfl (List.mem_append_right _ m)⟩) (fun a z => (sim.ln a (subW.subset z)).symm) (subW.nodup sim.nd) (fun a z => sim.mu a (subW.subset z)) (rp.mono fun a z => ⟨?_, z.2.1, fun m => z.2.2 (sub.subset m)⟩)
      show H a = none ∨ a ∈ Fh ∨ al = true ∧ Sx a
      cases al with
      | false => exact (z.1.2 rfl).imp id .inl
      | true => exact (or_assoc.mp z.1.1).imp id (.imp id fun y => ⟨rfl, y⟩)
    | bk ρ => cases hrun
    | ct ρ => cases hrun
end Ev

set_option Elab.async false
set_option linter.all false
set_option maxRecDepth 100000

namespace Ev
open PySem PySem.Spec L2
open PyProof.Rows hiding St

inductive MA where
  | val (r : Rv) | slot (j : Nat) (s : Sv)
abbrev EvM := Env → Option (List MA)
def mNil : EvM := fun _ => some []
def mVal (f : EvE) (g : EvM) : EvM := fun ρ => (f ρ).bind fun r => if r.vw = false then (g ρ).map (.val r :: ·) else none
def mSlot (j : Nat) (g : EvM) : EvM := fun ρ => match ρ[j]? with
  | some (some s) => (g ρ).map (.slot j s :: ·)
  | _ => none
inductive RowM (K : PySem.W.Frag) (N : Nw) (W T : List Addr) (H : Hp) (σ : St) : List MA → List V → List Addr → Prop
  | nil : RowM K N W T H σ [] [] []
  | val {r : Rv} {v : V} {as : List MA} {vs : List V} {F G : List Addr} : Rp K (fun a => SR N W r.al false a ∧ a ∉ T) H r.l v r.d F → RowM K N W T H σ as vs G → RowM K N W T H σ (.val r :: as) (v :: vs) (F ++ G)
  | slot {j : Nat} {s : Sv} {v : V} {as : List MA} {vs : List V} {G : List Addr} : σ[j]? = some (some v) → RowM K N W T H σ as vs G → RowM K N W T H σ (.slot j s :: as) (v :: vs) G
theorem RowM.mono {K : PySem.W.Frag} {N : Nw} {W W' T T' : List Addr} {H : Hp} {σ : St} (h : ∀ a, a ∉ W ∧ a ∉ T → a ∉ W' ∧ a ∉ T') : ∀ {as : List MA} {vs : List V} {F : List Addr}, RowM K N W T H σ as vs F → RowM K N W' T' H σ as vs F
  | _, _, _, .nil => .nil
  | _, _, _, .val r q => .val (r.mono fun a z => ⟨⟨z.1.1, fun _ => (h a ⟨z.1.2 rfl, z.2⟩).1⟩, (h a ⟨z.1.2 rfl, z.2⟩).2⟩) (RowM.mono h q)
  | _, _, _, .slot e q => .slot e (RowM.mono h q)
theorem RowM.len {K : PySem.W.Frag} {N : Nw} {W T : List Addr} {H : Hp} {σ : St} : ∀ {as : List MA} {vs : List V} {F : List Addr}, RowM K N W T H σ as vs F → vs.length = as.length
  | _, _, _, .nil => rfl
  | _, _, _, .val _ q => by rw [List.length_cons, List.length_cons, q.len]
  | _, _, _, .slot _ q => by rw [List.length_cons, List.length_cons, q.len]
def tM (K : PySem.W.Frag) (g : EvM) : TA := fun σ H R => ∃ N H0 ρ L W as, SimH K N H0 ρ σ H L W ∧ g ρ = some as ∧ ∀ vs H1 T, Same H H1 → (∀ a ∈ T, H a = none) → T.Nodup → RowM K N W T H1 σ as vs T → R vs H1
abbrev PMv (X : Cx) (es : List Expr) (g : EvM) : Prop := PA X es (tM X.K g)
section
variable {X : Cx} {e : Expr} {es : List Expr} {fe : EvE} {g : EvM} {pos : Pos} {x : Str}
theorem m_nil : PMv X [] mNil := imp_a pa_nil fun σ H Q ⟨N, H0, ρ, L, W, rs, sim, z, q⟩ => by
  cases z
  exact q [] H [] (Same.refl H) (fun _ z => nomatch z) .nil .nil
theorem m_val (ha : PEv X e fe) (hr : PMv X es g) (hs : starEach (e :: es) X.env = (false, eval e X.env) :: starEach es X.env := by rfl) : PMv X (e :: es) (mVal fe g) := by
  refine imp_a (pa_cons ha hr hs) fun σ H Q ⟨N, H0, ρ, L, W, rs, sim, z, q⟩ => ?_
  unfold mVal at z
  obtain ⟨r, e1, z⟩ := bind_some z
  split at z
  · rename_i hv
    obtain ⟨rs, e2, z⟩ := Option.map_eq_some_iff.mp z
    subst z
    refine one sim e1 fun v H1 F s1 n1 d1 p1 => ?_
    refine ⟨N, H0, ρ, L, W ++ F, rs, sim.hold s1 n1 d1 p1.own_mut, e2, fun vs H2 T s2 n2 d2 p2 => ?_⟩
    refine q (v :: vs) H2 (F ++ T) (s1.trans s2) (fun a z => (List.mem_append.mp z).elim (n1 a) fun z => s1.free (n2 a z)) ?_ (.val ?_ (p2.mono fun a z => ⟨fun m => z.1 (List.mem_append_left _ m), fun m => (List.mem_append.mp m).elim (fun m => z.1 (List.mem_append_right _ m)) z.2⟩))
    · rw [List.nodup_append]
      exact ⟨d1, d2, fun a ha b hb e => p1.own_trk a ha (e ▸ n2 b hb)⟩
    · exact (p1.trk.same s2).mono fun a z => ⟨⟨z.1.1.1, fun _ => z.1.1.2 hv⟩, fun m => (List.mem_append.mp m).elim z.1.2 fun m => z.2 (n2 a m)⟩
  · cases z
theorem m_slot (j : Nat) (hr : PMv X es g) (hN : X.N[j]? = some x := by rfl) (hv : Vis X.env.scope x := by first | exact Or.inl rfl | exact Or.inr (Or.inl rfl) | exact Or.inr (Or.inr rfl)) (hd : (x == ("__debug__" : Str)) = false := by decide)
    (hcd : (x == ("__classdict__" : Str)) = false := by decide) (hs : starEach (.Name x pos :: es) X.env = (false, eval (.Name x pos) X.env) :: starEach es X.env := by rfl) : PMv X (.Name x pos :: es) (mSlot j g) := by
  refine imp_a (pa_cons (pe_var hN hv hd hcd) hr hs) fun σ H Q ⟨N, H0, ρ, L, W, rs, sim, z, q⟩ => ?_
  unfold mSlot at z
  split at z
  · rename_i s es
    obtain ⟨rs, e2, z⟩ := Option.map_eq_some_iff.mp z
    subst z
    obtain ⟨v, G, ev, _⟩ := sim.sl.get es
    exact ⟨v, ev, N, H0, ρ, L, W, rs, sim, e2, fun vs H2 T s2 n2 d2 p2 => q (v :: vs) H2 T s2 n2 d2 (.slot ev p2)⟩
  · cases z
end

def splitM : List Bool → List MA → Env → Option Env
  | [], [], ρ => some ρ
  | b :: ms, .val r :: as, ρ => if b = false ∨ r.l = .full ∧ isNd r.d = true then splitM ms as ρ else none
  | true :: ms, .slot j _ :: as, ρ => match ρ[j]? with
    | some (some s) => if s.l = .full ∧ isNd s.d = true then splitM ms as (ρ.set j none) else none
    | _ => none
  | _, _, _ => none
def maD : MA → D
  | .val r => r.d
  | .slot _ s => s.d
def maA : MA → Bool
  | .val r => r.al
  | .slot _ s => s.al
theorem split_ok {K : PySem.W.Frag} {N : Nw} {W T : List Addr} {H H1 : Hp} {σ : St} {al : Bool} (sm : Same H H1) (hW : ∀ a ∈ W, N a) (hT : ∀ b ∈ T, H b = none) (hTW : ∀ b ∈ T, b ∉ W) (hTN : ∀ b ∈ T, N b) : ∀ {ms : List Bool} {as : List MA} {vs : List V} {Tc : List Addr} {ρ ρh : Env} {F : List Addr}, RowM K N W T H1 σ as vs Tc → splitM ms as ρ = some ρh → (∀ a ∈ as, maA a = true → al = true) →
    (∀ j s, MA.slot j s ∈ as → ∀ s', ρ[j]? = some (some s') → s' = s) → Slots K N W H σ ρ F → F.Nodup → (∀ b ∈ F, b ∈ W) → Tc.Nodup → (∀ b ∈ Tc, b ∈ T) →
    ∃ Fr G P : List Addr, Slots K N W H σ ρh Fr ∧ Fr.Nodup ∧ (∀ b ∈ Fr, b ∈ F ∧ b ∉ G) ∧ HArgs K (fun a => (AlN N al a ∧ a ∉ W ∧ a ∉ T) ∨ a ∈ P) H1 ms vs (as.map maD) G ∧ G.Nodup ∧ (∀ b ∈ G, b ∈ F ∨ b ∈ Tc) ∧ (∀ b ∈ P, b ∈ Tc ∧ b ∉ G)
  | ms, _, _, _, ρ, ρh, F, .nil, z, _, _, sl, nF, _, _, _ => by
    cases ms with
    | nil =>
      unfold splitM at z
      cases z
      exact ⟨F, [], [], sl, nF, fun b z => ⟨z, fun m => nomatch m⟩, .nil, .nil, (fun _ z => nomatch z), (fun _ z => nomatch z)⟩
    | cons b ms => cases b <;> exact nomatch z
  | ms, _, _, _, ρ, ρh, F, .val (r := r) (v := v) (as := as) (F := Fi) (G := Tc) rp row, z, ha, hs, sl, nF, hF, nT, sT => by
    cases ms with
    | nil => exact nomatch z
    | cons b ms =>
      unfold splitM at z
      split at z
      · rename_i hc
        rw [List.nodup_append] at nT
        obtain ⟨n1, n2, n3⟩ := nT
        obtain ⟨Fr, G, P, h1, h2, h3, h4, h5, h6, h7⟩ := split_ok sm hW hT hTW hTN row z (fun a m => ha a (List.mem_cons_of_mem _ m)) (fun j s m => hs j s (List.mem_cons_of_mem _ m)) sl nF hF n2 fun b m => sT b (List.mem_append_right _ m)
        have fiW : ∀ b ∈ Fi, b ∉ W := fun b m => hTW b (sT b (List.mem_append_left _ m))
        have fiG : ∀ b ∈ Fi, b ∉ G := fun b m m2 => (h6 b m2).elim (fun y => fiW b m (hF b y)) fun y => n3 b m b y rfl
        have har : ∀ {a : Addr}, AlN N r.al a → AlN N al a := fun z => z.up (ha (.val r) List.mem_cons_self)
        by_cases hb : b = false
        · subst hb
          refine ⟨Fr, G, Fi ++ P, h1, h2, h3, .sh (rp.give (fun a z => .inl ⟨har z.1.1, z.1.2 rfl, z.2⟩) fun a m => .inr (List.mem_append_left _ m)) (h4.mono fun a z => z.imp id (List.mem_append_right _)), h5, fun b m => (h6 b m).imp id (List.mem_append_right _), fun b m => (List.mem_append.mp m).elim (fun m => ⟨List.mem_append_left _ m, fiG b m⟩) fun m => ⟨List.mem_append_right _ (h7 b m).1, (h7 b m).2⟩⟩
        · have hb : b = true := by cases b <;> first | rfl | exact absurd rfl hb
          subst hb
          obtain ⟨hl, hn⟩ := hc.resolve_left (fun z => nomatch z)
          rw [hl] at rp
          refine ⟨Fr, Fi ++ G, P, h1, h2, fun b m => ⟨(h3 b m).1, fun m2 => (List.mem_append.mp m2).elim (fun y => fiW b y (hF b (h3 b m).1)) (h3 b m).2⟩, .ov hn (rp.mono fun a z => .inl ⟨har z.1.1, z.1.2 rfl, z.2⟩) h4, ?_, fun b m => (List.mem_append.mp m).elim (fun m => .inr (List.mem_append_left _ m)) fun m => (h6 b m).imp id (List.mem_append_right _), fun b m => ⟨List.mem_append_right _ (h7 b m).1, fun m2 => (List.mem_append.mp m2).elim (fun y => n3 b y b (h7 b m).1 rfl) (h7 b m).2⟩⟩
          rw [List.nodup_append]
          exact ⟨n1, h5, fun a m b m2 e => fiG a m (e ▸ m2)⟩
      · cases z
  | ms, _, _, _, ρ, ρh, F, .slot (j := j) (s := s) (v := v) (as := as) (G := Tc) ev row, z, ha, hs, sl, nF, hF, nT, sT => by
    cases ms with
    | nil => exact nomatch z
    | cons b ms =>
      cases b with
      | false => exact nomatch z
      | true =>
        unfold splitM at z
        split at z
        · rename_i s' es
          split at z
          · rename_i hc
            have := hs j s List.mem_cons_self s' es
            subst this
            obtain ⟨F1, G0, F2, v', eF, ev', rp, sl'⟩ := sl.hide es
            rw [ev] at ev'
            cases ev'
            have nF0 := nF
            rw [eF, List.nodup_append, List.nodup_append] at nF
            obtain ⟨a1, ⟨a2, a3, a4⟩, a5⟩ := nF
            have sub : ∀ b, b ∈ F1 ++ F2 → b ∈ F := fun b m => by
              rw [eF]
              rcases List.mem_append.mp m with m | m <;> simp [m]
            have n12 : (F1 ++ F2).Nodup := by
              rw [List.nodup_append]
              exact ⟨a1, a3, fun a m b m2 => a5 a m b (by simp [m2])⟩
            have g0 : ∀ b ∈ G0, b ∈ F := fun b m => by rw [eF]; simp [m]
            have g12 : ∀ b ∈ G0, b ∉ F1 ++ F2 := fun b m m2 => (List.mem_append.mp m2).elim (fun y => a5 b y b (by simp [m]) rfl) fun y => a4 b m b y rfl
            obtain ⟨Fr, G, P, h1, h2, h3, h4, h5, h6, h7⟩ := split_ok sm hW hT hTW hTN row z (fun a m => ha a (List.mem_cons_of_mem _ m)) (fun j2 s2 m s3 e3 => hs j2 s2 (List.mem_cons_of_mem _ m) s3 (by
              by_cases q : j = j2
              · subst q
                rw [List.getElem?_set_self (List.getElem?_eq_some_iff.mp es).1] at e3
                cases e3
              · rw [List.getElem?_set_ne q] at e3
                exact e3)) sl' n12 (fun b m => hF b (sub b m)) nT sT
            have gG : ∀ b ∈ G0, b ∉ G := fun b m m2 => (h6 b m2).elim (g12 b m) fun y => hTW b (sT b y) (hF b (g0 b m))
            rw [hc.1] at rp
            have rp1 := (rp.trk.same sm).mono (S' := fun a => (AlN N al a ∧ a ∉ W ∧ a ∉ T) ∨ a ∈ P) fun a z => .inl ⟨z.1.1.up (ha (.slot j s') List.mem_cons_self), z.1.2 rfl, fun m => z.2 (hT a m)⟩
            refine ⟨Fr, G0 ++ G, P, h1, h2, fun b m => ⟨sub b (h3 b m).1, fun m2 => (List.mem_append.mp m2).elim (fun y => g12 b y (h3 b m).1) (h3 b m).2⟩, .ov hc.2 rp1 h4, ?_, fun b m => (List.mem_append.mp m).elim (fun m => .inl (g0 b m)) fun m => (h6 b m).imp (sub b) id, fun b m => ⟨(h7 b m).1, fun m2 => (List.mem_append.mp m2).elim (fun y => hTW b (sT b (h7 b m).1) (hF b (g0 b y))) (h7 b m).2⟩⟩
            rw [List.nodup_append]
            exact ⟨a2, h5, fun a m b m2 e => gG a m (e ▸ m2)⟩
          · cases z
        · cases z
end Ev

set_option Elab.async false
set_option linter.all false
set_option maxRecDepth 100000

namespace Ev
open PySem PySem.Spec L2
open PyProof.Rows hiding St
def backM (al : Bool) : List MA → List (Option D) → Env → Env
  | .slot j s :: as, some d :: os, ρ => (backM al as os ρ).set j (some ⟨d, .full, al, s.pn⟩)
  | _ :: as, _ :: os, ρ => backM al as os ρ
  | _, _, ρ => ρ
section
variable {K : PySem.W.Frag} {N : Nw}
theorem Slots.put {L0 : List Addr} {H : Hp} {σ : St} {ρ : Env} {F G : List Addr} {i : Nat} {v : V} {s : Sv} (h : Slots K N L0 H σ ρ F) (ev : σ[i]? = some (some v)) (pp : ∀ k, s.pn = some k → v = .ref (N.p k)) (rp : Rp K (SR N L0 s.al false) H s.l v s.d G) :
    ∃ F', Slots K N L0 H σ (ρ.set i (some s)) F' ∧ (∀ b ∈ F', b ∈ F ∨ b ∈ G) ∧ (F.Nodup → G.Nodup → (∀ b ∈ G, b ∉ F) → F'.Nodup) := by
  have hi : i < ρ.length := by rw [← h.len]; exact (List.getElem?_eq_some_iff.mp ev).1
  obtain ⟨F1, G0, F2, eF, _, p⟩ := h.at_ hi
  have z := p (L1 := L0) (H1 := H) (v := v) (s := s) (G' := G) (fun _ => .same (Same.refl H)) (fun _ z _ => z) pp rp
  have eσ : σ.set i (some v) = σ := by
    obtain ⟨h1, h2⟩ := List.getElem?_eq_some_iff.mp ev
    rw [← h2, List.set_getElem_self]
  rw [eσ] at z
  refine ⟨_, z, fun b m => ?_, fun nF nG dis => ?_⟩
  · rw [eF]
    rcases List.mem_append.mp m with m | m
    · exact .inl (by simp [m])
    · exact (List.mem_append.mp m).elim .inr fun m => .inl (by simp [m])
  · rw [eF] at nF dis
    rw [List.nodup_append, List.nodup_append] at nF
    rw [List.nodup_append, List.nodup_append]
    exact ⟨nF.1, ⟨nG, nF.2.1.2.1, fun a m b m2 e => dis a m (by rw [e]; simp [m2])⟩, fun a m b m2 e => (List.mem_append.mp m2).elim (fun m2 => dis b m2 (by rw [← e]; simp [m])) fun m2 => nF.2.2 a m b (by simp [m2]) e⟩
theorem back_ok {W T L1 : List Addr} {H1 H' H3 : Hp} {σ : St} {al : Bool} {S' : Addr → Prop} (hS : ∀ a, S' a → SR N L1 al false a) : ∀ {as : List MA} {vs : List V} {os : List (Option D)} {Tc F' Fr : List Addr} {ρ : Env}, RowM K N W T H1 σ as vs Tc → HBack K S' H' vs os F' →
    (∀ j s, MA.slot j s ∈ as → ∀ v, σ[j]? = some (some v) → ∀ k, s.pn = some k → v = .ref (N.p k)) → Keeps S' F' H' H3 → Slots K N L1 H3 σ ρ Fr → Fr.Nodup → F'.Nodup → (∀ b ∈ F', b ∉ Fr) →
    ∃ Ff : List Addr, Slots K N L1 H3 σ (backM al as os ρ) Ff ∧ (∀ b ∈ Ff, b ∈ Fr ∨ b ∈ F') ∧ Ff.Nodup
  | [], _, _, _, _, Fr, ρ, .nil, .nil, _, _, sl, nF, _, _ => ⟨Fr, sl, fun b m => .inl m, nF⟩
  | .val r :: as, _, _, _, _, Fr, ρ, .val _ row, .no hb, pn, kp, sl, nF, nF', dis => by
    have := back_ok hS row hb (fun j s m => pn j s (List.mem_cons_of_mem _ m)) kp sl nF nF' dis
    exact this
  | .val r :: as, _, _, _, _, Fr, ρ, .val _ row, .so (F := F0) (G := G0) _ hb, pn, kp, sl, nF, nF', dis => by
    obtain ⟨Ff, h1, h2, h3⟩ := back_ok hS row hb (fun j s m => pn j s (List.mem_cons_of_mem _ m)) (kp.sub fun a m => List.mem_append_right _ m) sl nF (List.nodup_append.mp nF').2.1 fun b m => dis b (List.mem_append_right _ m)
    exact ⟨Ff, h1, fun b m => (h2 b m).imp id (List.mem_append_right _), h3⟩
  | .slot j s :: as, _, _, _, _, Fr, ρ, .slot _ row, .no hb, pn, kp, sl, nF, nF', dis => by
    have := back_ok hS row hb (fun j s m => pn j s (List.mem_cons_of_mem _ m)) kp sl nF nF' dis
    exact this
  | .slot j s :: as, _, _, _, _, Fr, ρ, .slot ev row, .so (d := d) (F := F0) (G := G0) rp hb, pn, kp, sl, nF, nF', dis => by
    have nF0 := List.nodup_append.mp nF'
    obtain ⟨Ff, h1, h2, h3⟩ := back_ok hS row hb (fun j s m => pn j s (List.mem_cons_of_mem _ m)) (kp.sub fun a m => List.mem_append_right _ m) sl nF nF0.2.1 fun b m => dis b (List.mem_append_right _ m)
    obtain ⟨F2, h4, h5, h6⟩ := h1.put (s := ⟨d, .full, al, s.pn⟩) ev (pn j s List.mem_cons_self _ ev) ((rp.keep (kp.sub fun a m => List.mem_append_left _ m)).mono hS)
    refine ⟨F2, h4, fun b m => (h5 b m).elim (fun m => (h2 b m).imp id (List.mem_append_right _)) fun m => .inr (List.mem_append_left _ m), h6 h3 nF0.1 fun b m m2 => (h2 b m2).elim (dis b (List.mem_append_left _ m)) fun y => nF0.2.2 b m b y rfl⟩
end
def xCall (ms : List Bool) (φ : List D → Option RetM) (g : EvM) : EvX := fun ρ => (g ρ).bind fun as => (splitM ms as ρ).bind fun ρh => (φ (as.map maD)).map fun r => (backM (as.any maA) as r.1 ρh, mkR (as.any maA) false r.2)

structure MOk (g : EvM) : Prop where
  ok : ∀ ρ as, g ρ = some as → ∀ j s, MA.slot j s ∈ as → ρ[j]? = some (some s)
theorem mok_nil : MOk mNil := ⟨fun ρ as z j s m => by cases z; cases m⟩
theorem mok_val {f : EvE} {g : EvM} (h : MOk g) : MOk (mVal f g) := ⟨fun ρ as z j s m => by
  unfold mVal at z
  obtain ⟨r, e1, z⟩ := bind_some z
  split at z
  · obtain ⟨rs, e2, z⟩ := Option.map_eq_some_iff.mp z
    subst z
    rcases List.mem_cons.mp m with m | m
    · cases m
    · exact h.ok ρ rs e2 j s m
  · cases z⟩
theorem mok_slot {i : Nat} {g : EvM} (h : MOk g) : MOk (mSlot i g) := ⟨fun ρ as z j s m => by
  unfold mSlot at z
  split at z
  · rename_i s' es
    obtain ⟨rs, e2, z⟩ := Option.map_eq_some_iff.mp z
    subst z
    rcases List.mem_cons.mp m with m | m
    · cases m; exact es
    · exact h.ok ρ rs e2 j s m
  · cases z⟩
section
variable {X : Cx} {k : Nat} {x : Str} {ms : List Bool} {φ : List D → Option RetM} {p pos : Pos} {e : Expr} {es : List Expr} {g : EvM}
theorem x_call (F : FnM X.prog X.w X.K X.mg X.base k x ms φ) (hr : Room k X.A) (ha : PMv X (e :: es) g) (ho : MOk g) (hl : ∀ ρ as, g ρ = some as → as.length = ms.length) (hg : Gl X x := by rfl) (hdb : (x == ("__debug__" : Str)) = false := by decide)
    (he : starEach (e :: es) X.env = (false, eval e X.env) :: starEach es X.env := by rfl) (hpl : (backTo pos (starEach es X.env)).any (·.1) = false := by rfl) :
    PXv X (.Call (.Name x p) (e :: es) [] pos) (xCall ms φ g) := by
  obtain ⟨f, fd, ps, G, hm, hk, hb⟩ := F.ok
  refine imp_e (pe_call G hr hg hm hk hb .nil pass0 ha hdb he hpl) fun σ H Q ⟨N, H0, ρ, L, ρ', r, sim, z, q⟩ => ?_
  unfold xCall at z
  obtain ⟨as, e1, z⟩ := bind_some z
  obtain ⟨ρh, e2, z⟩ := bind_some z
  obtain ⟨⟨os, rr⟩, e3, z⟩ := Option.map_eq_some_iff.mp z
  cases z
  refine ⟨N, H0, ρ, L, L, as, sim.h, e1, fun vs H1 T s1 n1 d1 row => ?_⟩
  suffices h : ∀ E, spM X.K ms φ vs H1 Q E by
    show spM X.K ms φ (vs ++ []) H1 Q (fun _ _ _ => False)
    rw [List.append_nil]
    exact h _
  intro E
  have hTN : ∀ b ∈ T, N b := fun b m => sim.nw b (n1 b m)
  have hTW : ∀ b ∈ T, b ∉ L := fun b m w => sim.th b w (n1 b m)
  have hal : ∀ a ∈ as, maA a = true → as.any maA = true := fun a m e => List.any_eq_true.mpr ⟨a, m, e⟩
  obtain ⟨Fr, Gh, P, sl, nFr, hFr, hargs, nG, hG, hP⟩ := split_ok (al := as.any maA) s1 sim.ln n1 hTW hTN row e2 hal (fun j s m s' es => by
    have := ho.ok ρ as e1 j s m
    rw [this] at es
    cases es
    rfl) sim.sl sim.nd (fun _ z => z) d1 fun _ z => z
  have gN : ∀ b ∈ Gh, N b := fun b m => (hG b m).elim (sim.ln b) (hTN b)
  have muG := hargs.mu
  have frL : ∀ b ∈ Fr, b ∈ L := fun b m => (hFr b m).1
  refine ⟨by rw [row.len, hl ρ as e1], _, _, Gh, (os, rr), hargs, nG, fun a z => ?_, e3, fun v H' Gr F' k1 k2 hbk k3 k4 k5 rp => ?_⟩
  · rcases z with z | z
    · exact fun m => (hG a m).elim z.2.1 z.2.2
    · exact (hP a z).2
  dsimp only at hbk rp
  have nFG := List.nodup_append.mp k4
  -- the heap without what is made
  let H3 : Hp := fun b => if b ∈ Gr then none else H' b
  have h3in : ∀ b, b ∈ Gr → H3 b = none := fun b m => if_pos m
  have h3out : ∀ b, b ∉ Gr → H3 b = H' b := fun b m => if_neg m
  have sm3 : Same H3 H' := fun b o e => by
    by_cases m : b ∈ Gr
    · rw [h3in b m] at e; cases e
    · rw [h3out b m] at e; exact e
  have new3 : ∀ b ∈ F' ++ Gr, N b := fun b m => (k3 b m).elim (gN b) fun y => sim.nw b (s1.free y)
  have hold : ∀ b o, H1 b = some o → b ∉ Gh → b ∉ Gr → H3 b = some o := fun b o e n1 n2 => by rw [h3out b n2]; exact k1 b o e n1
  have grOut : ∀ b, H1 b ≠ none → b ∉ Gh → b ∉ Gr := fun b n m y => (k3 b (List.mem_append_right _ y)).elim m n
  have disF : ∀ b ∈ F', b ∉ Fr := fun b m m2 => (k3 b (List.mem_append_left _ m)).elim (hFr b m2).2 fun y => sim.th b (frL b m2) (s1.free y)
  have frH1 : ∀ b ∈ Fr, H1 b ≠ none := fun b m y => sim.th b (frL b m) (s1.free y)
  have kpS : ∀ al, Keeps (SR N L al false) Fr H H3 := fun al b o e q => by
    have eb := s1 b o e
    have hn : H1 b ≠ none := by rw [eb]; exact fun z => nomatch z
    have hGb : b ∉ Gh := fun m => by
      rcases q with q | q | ⟨xs, rfl⟩ | ⟨o', u, rfl⟩
      · exact (hG b m).elim (q.2 rfl) fun y => by have := n1 b y; rw [e] at this; cases this
      · exact (hFr b q).2 m
      · have := muG b m; rw [eb] at this; exact this
      · have := muG b m; rw [eb] at this; exact this
    exact hold b o eb hGb (grOut b hn hGb)
  have sl3 : Slots X.K N (Fr ++ F') H3 σ ρh Fr := sl.move (fun a z t m => (List.mem_append.mp m).elim (fun m => z (frL a m)) fun m => (k3 a (List.mem_append_left _ m)).elim (fun y => (hG a y).elim z fun y => t (n1 a y)) fun y => t (s1.free y)) kpS
  have S'ok : ∀ a, (H1 a = none ∨ a ∈ Gh ∨ (AlN N (as.any maA) a ∧ a ∉ L ∧ a ∉ T) ∨ a ∈ P) → AlN N (as.any maA) a ∧ a ∉ Fr := fun a z => by
    rcases z with z | z | z | z
    · exact ⟨.new (sim.nw a (s1.free z)), fun m => frH1 a m z⟩
    · exact ⟨.new (gN a z), fun m => (hFr a m).2 z⟩
    · exact ⟨z.1, fun m => z.2.1 (frL a m)⟩
    · exact ⟨.new (hTN a (hP a z).1), fun m => hTW a (hP a z).1 (frL a m)⟩
  obtain ⟨Ff, slf, hFf, nFf⟩ := back_ok (K := X.K) (N := N) (L1 := Fr ++ F') (al := as.any maA) (H3 := H3) (S' := fun a => (H1 a = none ∨ a ∈ Gh ∨ (AlN N (as.any maA) a ∧ a ∉ L ∧ a ∉ T) ∨ a ∈ P) ∧ a ∉ F' ∧ a ∉ Gr) (fun a z => ⟨(S'ok a z.1).1, fun _ m => (List.mem_append.mp m).elim (S'ok a z.1).2 z.2.1⟩) row hbk (fun j s m v ev k ek => by
      obtain ⟨v', _, ev', _, _, hp⟩ := sim.sl.get (ho.ok ρ as e1 j s m)
      rw [ev] at ev'
      cases ev'
      exact hp k ek) (fun b o e q => by
      have : b ∉ Gr := fun m => by
        rcases q with q | q | ⟨xs, rfl⟩ | ⟨o', u, rfl⟩
        · exact q.2.2 m
        · exact nFG.2.2 b q b m rfl
        · have := k5 b (List.mem_append_right _ m); rw [e] at this; exact this
        · have := k5 b (List.mem_append_right _ m); rw [e] at this; exact this
      rw [h3out b this]
      exact e) sl3 nFr nFG.1 disF
  have mu3 : ∀ b ∈ Ff, Mut (H3 b) := fun b m => by
    rcases hFf b m with y | y
    · obtain ⟨o, eo⟩ : ∃ o, H1 b = some o := Option.ne_none_iff_exists'.mp (frH1 b y)
      rw [hold b o eo (hFr b y).2 (grOut b (frH1 b y) (hFr b y).2), ← eo]
      exact mut_same (sim.mu b (frL b y)) s1
    · rw [h3out b fun m2 => nFG.2.2 b y b m2 rfl]
      exact k5 b (List.mem_append_left _ y)
  have sim3 : Sim X.K N H0 (backM (as.any maA) as os ρh) σ H3 Ff := by
    refine ⟨fun b o e n => ?_, fun b e => ?_, nFf, fun b m => (hFf b m).elim (fun y => sim.ln b (frL b y)) fun y => new3 b (List.mem_append_left _ y), mu3, slf.mono fun a z m => z ((hFf a m).elim (List.mem_append_left _) (List.mem_append_right _))⟩
    · exact hold b o (s1 b o (sim.kp b o e n)) (fun m => n (gN b m)) fun m => n (new3 b (List.mem_append_right _ m))
    · by_cases m : b ∈ Gr
      · exact new3 b (List.mem_append_right _ m)
      · rw [h3out b m] at e
        exact (k2 b e).elim (fun y => sim.nw b (s1.free y)) (gN b)
  have gL : ∀ b ∈ Gh, b ∈ L ∨ H b = none := fun b m => (hG b m).imp id (n1 b)
  have fr3 : Frm H L H3 Ff := by
    refine ⟨fun b o e n => ?_, fun b e => ?_, fun b m => (hFf b m).elim (fun y => .inl (frL b y)) fun y => (k3 b (List.mem_append_left _ y)).elim (gL b) fun y => .inr (s1.free y)⟩
    · have eb := s1 b o e
      have hGb : b ∉ Gh := fun m => (gL b m).elim n fun y => by rw [e] at y; cases y
      exact hold b o eb hGb (grOut b (by rw [eb]; exact fun z => nomatch z) hGb)
    · by_cases m : b ∈ Gr
      · exact (k3 b (List.mem_append_right _ m)).elim (fun y => (gL b y).symm) fun y => .inl (s1.free y)
      · rw [h3out b m] at e
        exact (k2 b e).elim (fun y => .inl (s1.free y)) fun y => (gL b y).symm
  refine (q H3 Ff sim3 fr3).ret sm3 h3in nFG.2.1 (fun a z => ⟨?_, z.2.1⟩) rp
  have offF : a ∉ Fr → a ∉ Ff := fun n m => (hFf a m).elim n z.2.2
  rcases z.1 with y | y | ⟨y1, y2⟩
  · exact .inl ⟨sim.nw a (s1.free y), offF (S'ok a (.inl y)).2⟩
  · exact .inl ⟨gN a y, offF (S'ok a (.inr (.inl y))).2⟩
  · have w := S'ok a (.inr (.inr y2))
    exact .inr ⟨y1, w.1, fun _ => offF w.2⟩
end
end Ev

set_option Elab.async false
set_option linter.all false
set_option maxRecDepth 100000

namespace Ev
open PySem PySem.Spec L2
open PyProof.Rows hiding St
structure MLen (g : EvM) (n : Nat) : Prop where
  ok : ∀ ρ as, g ρ = some as → as.length = n
theorem ml_nil : MLen mNil 0 := ⟨fun ρ as z => by cases z; rfl⟩
theorem ml_val {f : EvE} {g : EvM} {n : Nat} (h : MLen g n) : MLen (mVal f g) (n + 1) := ⟨fun ρ as z => by
  unfold mVal at z
  obtain ⟨r, e1, z⟩ := bind_some z
  split at z
  · obtain ⟨rs, e2, z⟩ := Option.map_eq_some_iff.mp z
    subst z
    rw [List.length_cons, h.ok ρ rs e2]
  · cases z⟩
theorem ml_slot {i : Nat} {g : EvM} {n : Nat} (h : MLen g n) : MLen (mSlot i g) (n + 1) := ⟨fun ρ as z => by
  unfold mSlot at z
  split at z
  · obtain ⟨rs, e2, z⟩ := Option.map_eq_some_iff.mp z
    subst z
    rw [List.length_cons, h.ok ρ rs e2]
  · cases z⟩
theorem fnM_of {P : Program} {w : World} {K : PySem.W.Frag} {mg : Str → Option Value} {base : Heap} {k : Nat} {x : Str} {ms : List Bool} {φ : List D → Option RetM} {f : Addr} {fd : FuncData} {ps : List Str} (F : FnOk P w K mg base CX0 k f fd ps (spM K ms φ)) (hm : mg x = some (.ref f)) (hk : PySem.W.keepIn K (.ref f) = true) (hb : Binds K fd ps []) : FnM P w K mg base k x ms φ := ⟨f, fd, ps, F, hm, hk, hb⟩
section
variable {X : Cx} {k : Nat} {C : Addr} {m x : Str} {e : Expr} {es : List Expr} {fx : EvX} {pos apos npos p : Pos} {φ : List D → Option RetD} {ms : List Bool} {ψ : List D → Option RetM} {g : EvM} {n : Nat}
theorem x_callM (F : FnM X.prog X.w X.K X.mg X.base k x ms ψ) (hr : Room k X.A) (ha : PMv X (e :: es) g) (ho : MOk g) (hl : MLen g n) (hn : n = ms.length := by rfl) (hg : Gl X x := by rfl) (hdb : (x == ("__debug__" : Str)) = false := by decide)
    (he : starEach (e :: es) X.env = (false, eval e X.env) :: starEach es X.env := by rfl) (hpl : (backTo pos (starEach es X.env)).any (·.1) = false := by rfl) :
    PXv X (.Call (.Name x p) (e :: es) [] pos) (xCall ms ψ g) := x_call F hr ha ho (fun ρ as z => (hl.ok ρ as z).trans hn) hg hdb he hpl
theorem x_methD {pl : Sem Bool} (j : Nat) (c : Cls X.K C) (M : MetD X.prog X.w X.K X.mg X.base k C m 2 φ) (hr : Room k X.A) (hx : PXv X e fx)
    (hN : X.N[j]? = some x := by rfl) (hv : Vis X.env.scope x := by first | exact Or.inl rfl | exact Or.inr (Or.inl rfl) | exact Or.inr (Or.inr rfl)) (hd : (x == ("__debug__" : Str)) = false := by decide) (hcd : (x == ("__classdict__" : Str)) = false := by decide)
    (hst : starEach [e] X.env = (false, eval e X.env) :: starEach [] X.env := by rfl) (hpl : (backTo pos (starEach [] X.env)).any (·.1) = false := by rfl)
    (ht : eval (.Call (.Attribute (.Name x npos) m apos) [e] [] pos) X.env = (do
      let ov ← eval (.Name x npos) X.env
      standAt apos.atName
      let (f, first) ← holding [ov] (getMethod ov m pl)
      callWith pos f first (backTo pos (starEach [e] X.env)) (backToKw pos (keywordEach [] X.env))) := by rfl) :
    PXv X (.Call (.Attribute (.Name x npos) m apos) [e] [] pos) (xMeth C m φ j fx) := by
  obtain ⟨f, fd, ps, hm, F, hb⟩ := M.ok
  exact x_methX j c hm F hb hr hx hN hv hd hcd hst hpl ht
end
end Ev

set_option Elab.async false
set_option linter.all false
set_option maxRecDepth 100000

namespace Ev
open PySem PySem.Spec L2
open PyProof.Rows hiding St
def isLst : D → Bool
  | .lst ds => decide (ds.length ≤ 1000000)
  | _ => false
def appD (x : D) : D → D
  | .lst ds => .lst (ds ++ [x])
  | d => d
def sForApp (j i : Nat) (fe : EvE) : EvS := fun ρ => match ρ[j]? with
  | some (some s) => match s.d with
    | .lst ds => if s.l = .full ∧ j ≠ i ∧ i < ρ.length ∧ ds.all isLst = true then (fe ((ρ.set i none).set j none)).bind fun r => if imm r.d = true then some (.nx ((ρ.set i none).set j (some ⟨.lst (ds.map (appD r.d)), .full, s.al, s.pn⟩))) else none else none
    | _ => none
  | _ => none
theorem set_mid {α : Type} (f : α → α) (ds : List α) (k : Nat) (hk : k < ds.length) : ((ds.take k).map f ++ ds.drop k).set k (f ds[k]) = (ds.take (k + 1)).map f ++ ds.drop (k + 1) := by
  have hl : ((ds.take k).map f).length = k := by rw [List.length_map, List.length_take]; omega
  have e1 : ds.take (k + 1) = ds.take k ++ [ds[k]] := by rw [List.take_succ, List.getElem?_eq_getElem hk]; rfl
  rw [List.set_append_right _ _ (by omega), hl, Nat.sub_self, List.drop_eq_getElem_cons hk, List.set_cons_zero, e1, List.map_append, List.append_assoc]
  rfl
theorem Slots.any {K : PySem.W.Frag} {N : Nw} {L : List Addr} {H : Hp} (y : Option V) : ∀ {σ : St} {ρ : Env} {F : List Addr} (i : Nat), Slots K N L H σ ρ F → ρ[i]? = some none → Slots K N L H (σ.set i y) ρ F
  | _, _, _, _, .nil, h => by simp at h
  | _, _, _, 0, .no h, _ => .no h
  | _, _, _, i + 1, .no h, e => .no (Slots.any y i h (by simpa using e))
  | _, _, _, 0, .so _ _ _, e => by simp at e
  | _, _, _, i + 1, .so h0 h1 h, e => .so h0 h1 (Slots.any y i h (by simpa using e))
theorem Sim.any {K : PySem.W.Frag} {N : Nw} {H0 H : Hp} {ρ : Env} {σ : St} {L : List Addr} (s : Sim K N H0 ρ σ H L) (y : Option V) {i : Nat} (h : ρ[i]? = some none) : Sim K N H0 ρ (σ.set i y) H L := ⟨s.kp, s.nw, s.nd, s.ln, s.mu, s.sl.any y i h⟩
theorem Slots.wipe {K : PySem.W.Frag} {N : Nw} {L : List Addr} {H : Hp} : ∀ {σ : St} {ρ : Env} {F : List Addr} (i : Nat), Slots K N L H σ ρ F → ∃ F', Slots K N L H σ (ρ.set i none) F' ∧ F'.Sublist F
  | _, _, _, i, .nil => ⟨[], by cases i <;> exact .nil, List.Sublist.refl _⟩
  | _, _, F, 0, .no h => ⟨F, .no h, List.Sublist.refl _⟩
  | _, _, _, 0, .so (F := F) (G := G) _ _ h => ⟨G, .no h, List.sublist_append_right F G⟩
  | _, _, _, i + 1, .no h => let ⟨F', s, q⟩ := Slots.wipe i h; ⟨F', .no s, q⟩
  | _, _, _, i + 1, .so (F := F) h0 h1 h => let ⟨F', s, q⟩ := Slots.wipe i h; ⟨F ++ F', .so h0 h1 s, List.Sublist.append (List.Sublist.refl F) q⟩
theorem Sim.wipe {K : PySem.W.Frag} {N : Nw} {H0 H : Hp} {ρ : Env} {σ : St} {L : List Addr} (s : Sim K N H0 ρ σ H L) (i : Nat) : ∃ L', Sim K N H0 (ρ.set i none) σ H L' ∧ ∀ b ∈ L', b ∈ L := by
  obtain ⟨F', h, q⟩ := s.sl.wipe i
  exact ⟨F', ⟨s.kp, s.nw, q.nodup s.nd, fun a z => s.ln a (q.subset z), fun a z => s.mu a (q.subset z), h.mono fun a z m => z (q.subset m)⟩, fun b z => q.subset z⟩
section
variable {X : Cx} {e : Expr} {fe : EvE} {pos p1 p2 apos cpos npos p3 : Pos} {x y : Str}
theorem s_forApp (j i : Nat) (hc : X.calm = true) (nd : X.N.Nodup) (he : PEv X e fe)
    (hNj : X.N[j]? = some y := by rfl) (hvj : Vis X.env.scope y := by first | exact Or.inl rfl | exact Or.inr (Or.inl rfl) | exact Or.inr (Or.inr rfl)) (hdj : (y == ("__debug__" : Str)) = false := by decide) (hcj : (y == ("__classdict__" : Str)) = false := by decide)
    (hNi : X.N[i]? = some x := by rfl) (hvi : Vis X.env.scope x := by first | exact Or.inl rfl | exact Or.inr (Or.inl rfl) | exact Or.inr (Or.inr rfl)) (hdi : (x == ("__debug__" : Str)) = false := by decide) (hci : (x == ("__classdict__" : Str)) = false := by decide)
    (hx : Loc X.env.scope x := by first | exact Or.inl rfl | exact Or.inr rfl) (hf : X.fn x = true ∨ X.env.scope.names.lookup x = some .local := by first | exact .inl rfl | exact .inr rfl | assumption)
    (hsw : swapsWith (.Call (.Attribute (.Name x npos) "append" apos) [e] [] cpos) none p3.line X.env = pure false := by rfl)
    (hbase : attributeBase (.Name x npos) "append" X.env (eval (.Name x npos) X.env) = eval (.Name x npos) X.env := by rfl)
    (hfew : ((backTo cpos (starEach [e] X.env)).all (fun x => !x.1) && (backToKw cpos (keywordEach [] X.env)).all (fun x => x.1.isSome)
      && decide ([e].length + ([] : List Keyword).length + (if ([] : List Keyword).isEmpty then 0 else 1) < 30)) = true := by rfl)
    (hline : (apos.endLine == cpos.line) = true := by rfl) (hs : starEach [e] X.env = (false, eval e X.env) :: starEach [] X.env := by rfl) (hplain : (backTo cpos (starEach [] X.env)).any (·.1) = false := by rfl)
    (hp : PassesOwn (model X.prog X.w) X.A X.env X.xe := by exact PassesOwn.never) (hfs : ∀ x, foldedSetIterable (.Name y p2) X.env x = pure x := by intro _; rfl) :
    PSv X (.For (.Name x p1) (.Name y p2) [.Expr (.Call (.Attribute (.Name x npos) "append" apos) [e] [] cpos) p3] [] pos) (sForApp j i fe) := by
  obtain ⟨r0, hm, hr⟩ := (l_app (X := X)).ok
  refine imp_s (ps_for hp hc (pi_list (pe_var hNj hvj hdj hcj)) (pg_name nd hNi hx hf) (pss_one (ps_expr (pe_bm PySem.F.plainAttrs_list PySem.F.slot_list_append PySem.F.type_list_append hm (pe_var hNi hvi hdi hci) (pa_cons he pa_nil hs) hbase hfew hline hs hplain) hsw)) hfs) fun De σ H ⟨N, H0, ρ, L0, o, sim0, z, q0⟩ => ?_
  unfold sForApp at z
  split at z
  · rename_i s es0
    split at z
    · rename_i ds hd
      split at z
      · rename_i hcd
        obtain ⟨hl, hji, hi, hall⟩ := hcd
        obtain ⟨r, e1, z⟩ := bind_some z
        split at z
        · rename_i him
          cases z
          obtain ⟨sd, sl, sa, sp⟩ := s
          dsimp only at hd hl
          subst hd hl
          obtain ⟨v0, G0, ev0, rp0, _⟩ := sim0.sl.get es0
          obtain ⟨a, vs, _, rfl, ha, hr0, _⟩ := rp0.lst_inv
          obtain ⟨L, sim, subL⟩ := sim0.wipe i
          have es : (ρ.set i none)[j]? = some (some ⟨.lst ds, .full, sa, sp⟩) := by rw [List.getElem?_set_ne (fun q => hji q.symm)]; exact es0
          have hj : j < ρ.length := (List.getElem?_eq_some_iff.mp es0).1
          have hlen : vs.length = ds.length := hr0.len
          let dk : Nat → List D := fun k => (ds.take k).map (appD r.d) ++ ds.drop k
          let ρk : Nat → Env := fun k => (ρ.set i none).set j (some ⟨.lst (dk k), .full, sa, sp⟩)
          have ρ0 : ρk 0 = ρ.set i none := by
            show (ρ.set i none).set j (some ⟨.lst ((ds.take 0).map (appD r.d) ++ ds.drop 0), .full, sa, sp⟩) = _
            rw [List.take_zero, List.map_nil, List.nil_append, List.drop_zero]
            obtain ⟨h1, h2⟩ := List.getElem?_eq_some_iff.mp es
            rw [← h2, List.set_getElem_self]
          have ρlast : ρk ds.length = (ρ.set i none).set j (some ⟨.lst (ds.map (appD r.d)), .full, sa, sp⟩) := by
            show (ρ.set i none).set j (some ⟨.lst ((ds.take ds.length).map (appD r.d) ++ ds.drop ds.length), .full, sa, sp⟩) = _
            rw [List.take_length, List.drop_length, List.append_nil]
          have at_j : ∀ k, (ρk k)[j]? = some (some ⟨.lst (dk k), .full, sa, sp⟩) := fun k => List.getElem?_set_self (by rw [List.length_set]; exact hj)
          have at_i : ∀ k, (ρk k)[i]? = some none := fun k => by
            show ((ρ.set i none).set j _)[i]? = _
            rw [List.getElem?_set_ne hji, List.getElem?_set_self hi]
          have hid : ∀ k, (ρk k).set j none = (ρ.set i none).set j none := fun k => by
            show ((ρ.set i none).set j _).set j none = _
            rw [List.set_set]
          have dk_len : ∀ k, (dk k).length = ds.length := fun k => by
            show ((ds.take k).map (appD r.d) ++ ds.drop k).length = _
            simp
            omega
          have dk_at : ∀ k (hk : k < ds.length), (dk k)[k]? = some ds[k] := fun k hk => by
            show ((ds.take k).map (appD r.d) ++ ds.drop k)[k]? = _
            rw [List.getElem?_append_right (by simp; omega)]
            simp [Nat.min_eq_left (Nat.le_of_lt hk), List.getElem?_eq_getElem hk]
          have dk_next : ∀ k (hk : k < ds.length), (dk k).set k (appD r.d ds[k]) = dk (k + 1) := fun k hk => by
            exact set_mid (appD r.d) ds k hk
          refine ⟨.ref a, ev0, a, rfl, ⟨vs, SqL.of ha⟩, ?_⟩
          refine ⟨fun k m σ' H' => m = ds.length - k ∧ k ≤ ds.length ∧ ∃ L', Sim X.K N H0 (ρk k) σ' H' L' ∧ Frm H L0 H' L' ∧ σ'[j]? = some (some (.ref a)), ⟨ds.length, by simp, Nat.zero_le _, L, by rw [ρ0]; exact sim, ⟨fun _ _ e _ => e, fun _ e => .inl e, fun b z => .inl (subL b z)⟩, ev0⟩, ?_⟩
          rintro k m σ' H' ⟨rfl, hk, L', sim', fr, evj⟩
          obtain ⟨v1, G1, ev1, rp1, _⟩ := sim'.sl.get (at_j k)
          rw [evj] at ev1
          cases ev1
          obtain ⟨a1, vs1, G2, e9, ha1, hr1, _⟩ := rp1.lst_inv
          cases e9
          have hl1 : vs1.length = ds.length := by rw [hr1.len, dk_len]
          by_cases hlt : k < ds.length
          · right
            refine ⟨⟨vs1, vs1[k]'(by omega), SqL.of ha1, List.getElem?_eq_getElem (by omega)⟩, fun σ'' H'' => ∃ m', m' < ds.length - k ∧ (m' = ds.length - (k + 1) ∧ k + 1 ≤ ds.length ∧ ∃ L', Sim X.K N H0 (ρk (k + 1)) σ'' H'' L' ∧ Frm H L0 H'' L' ∧ σ''[j]? = some (some (.ref a))), fun _ _ h => h, fun w H3 yy => ?_⟩
            obtain ⟨e8, hw⟩ := yy
            subst e8
            have hw := hw vs1 (SqL.of ha1)
            -- the element's list
            obtain ⟨us, hus⟩ : ∃ us, ds[k] = .lst us := by
              have := List.all_eq_true.mp hall ds[k] (List.getElem_mem hlt)
              cases hq : ds[k] with
              | lst us => exact ⟨us, rfl⟩
              | _ => rw [hq] at this; cases this
            have hul : us.length ≤ 1000000 := by
              have := List.all_eq_true.mp hall ds[k] (List.getElem_mem hlt)
              rw [hus] at this
              exact of_decide_eq_true this
            have simA := sim'.any (some w) (at_i k)
            have hda : dAt (.lst (dk k)) [k] = some (.lst us) := by
              unfold dAt
              show ((dk k)[k]?).bind _ = _
              rw [dk_at k hlt, hus]
              rfl
            obtain ⟨v2, b, ob, wsb, dsb, Fb, ev2, w2, hb, hnb, ⟨S0, hrb⟩, go⟩ := simA.store (at_j k) rfl hda rfl
            cases hnb
            have evj2 : (σ'.set i (some w))[j]? = some (some (.ref a)) := by rw [List.getElem?_set_ne (fun q => hji q.symm)]; exact evj
            rw [evj2] at ev2
            cases ev2
            have : w = .ref b := (AtV.cons ha1 hw .nil).fn w2
            subst this
            have hvi2 : (σ'.set i (some (.ref b)))[i]? = some (some (.ref b)) := List.getElem?_set_self (by rw [sim'.sl.len]; show i < ((ρ.set i none).set j _).length; rw [List.length_set, List.length_set]; exact hi)
            refine ⟨.ref b, hvi2, .inl ⟨rfl, wsb, SqL.of hb⟩, ?_⟩
            obtain ⟨Lh, simh, _⟩ := simA.wipe j
            rw [hid] at simh
            refine one simh.h e1 fun u H4 Fu s4 n4 d4 p4 => ?_
            have hu := p4.of_imm (S' := fun _ => False) (l' := .full) him
            refine hr H4 b wsb [u] (wsb ++ [u]) _ (s4 _ _ hb) (by rw [hrb.len]; exact hul) rfl ?_
            obtain ⟨L5, sim5, fr5⟩ := go (H1 := H4) (w := u) (dw := r.d) (al := false) (T := []) (e' := .lst (us ++ [r.d])) (o' := .lst (wsb ++ [u])) s4 (fun _ z => nomatch z) .nil (hu.2.mono fun _ z => z.elim) trivial (fun r1 r2 nd => by
              refine ⟨_, _, Fb ++ [], .lst, ?_, fun b z => z, nd⟩
              have := Rps.app r1 (Rps.cons (G := []) r2 .nil)
              exact this)
            refine ⟨ds.length - (k + 1), by omega, rfl, hlt, L5, ?_, fr.trans fr5, evj2⟩
            have e7 : (ρk k).set j (some ⟨dSet (.lst (dk k)) [k] (.lst (us ++ [r.d])), .full, sa || false, sp⟩) = ρk (k + 1) := by
              have e6 : dSet (.lst (dk k)) [k] (.lst (us ++ [r.d])) = .lst (dk (k + 1)) := by
                rw [← dk_next k hlt, hus]
                unfold dSet
                show (match (dk k)[k]? with | some dj => _ | none => _) = _
                rw [dk_at k hlt]
                rfl
              rw [e6, Bool.or_false]
              show ((ρ.set i none).set j _).set j _ = _
              rw [List.set_set]
            rw [e7] at sim5
            exact sim5
          · left
            have ek : k = ds.length := by omega
            subst ek
            refine ⟨⟨vs1, SqL.of ha1, by omega⟩, q0 σ' H' L' ?_ fr⟩
            rw [← ρlast]
            exact sim'
        · cases z
      · cases z
    · cases z
  · cases z
end
end Ev

set_option Elab.async false
set_option linter.all false
set_option maxRecDepth 100000

namespace Ev
open PySem PySem.Spec L2
open PyProof.Rows hiding St
def lend (i : Nat) (ρ : Env) : Env := match ρ[i]? with
  | some (some s) => ρ.set i (some ⟨s.d, .shr, true, none⟩)
  | _ => ρ
def eBor (i : Nat) (fe : EvE) : EvE := fun ρ => (fe (lend i ρ)).bind fun r => if imm r.d = true then some (rA r.d) else if r.al = false ∧ r.vw = false then some r else none
theorem Slots.conv {K : PySem.W.Frag} {N N' : Nw} {L L' : List Addr} {H : Hp} (hp : N'.p = N.p) (h : ∀ al a, SR N L al false a → SR N' L' al false a) : ∀ {σ : St} {ρ : Env} {F : List Addr}, Slots K N L H σ ρ F → Slots K N' L' H σ ρ F
  | _, _, _, .nil => .nil
  | _, _, _, .no q => .no (Slots.conv hp h q)
  | _, _, _, .so h0 h1 q => .so (fun k e => by rw [hp]; exact h0 k e) (h1.mono fun a z => h _ a z) (Slots.conv hp h q)
theorem SimH.lend {K : PySem.W.Frag} {N : Nw} {H0 H : Hp} {ρ : Env} {σ : St} {L W : List Addr} (sim : SimH K N H0 ρ σ H L W) (i : Nat) :
    ∃ (N' : Nw) (L' W' : List Addr), SimH K N' H (lend i ρ) σ H L' W' ∧ ∀ a, SR N' W' false false a → SR N W false false a := by
  unfold Ev.lend
  split
  · rename_i s es
    obtain ⟨F1, G, F2, v, eL, ev, rp, sl⟩ := sim.sl.hide es
    have gW : ∀ a ∈ G, a ∈ W := fun a m => sim.sub a (by rw [eL]; simp [m])
    let W' := W.filter fun a => decide (a ∉ G)
    have hW' : ∀ a, a ∈ W' ↔ a ∈ W ∧ a ∉ G := fun a => by
      show a ∈ W.filter _ ↔ _
      rw [List.mem_filter, decide_eq_true_eq]
    let N' : Nw := ⟨fun a => N a ∧ a ∉ G, fun a => N.s a ∨ a ∈ G, N.p⟩
    have out : ∀ a, a ∉ W → a ∉ G := fun a n m => n (gW a m)
    have cv : ∀ al a, SR N W al false a → SR N' W' al false a := fun al a z => by
      have hG := out a (z.2 rfl)
      refine ⟨⟨z.1.1.imp (fun y => ⟨y, hG⟩) .inl, fun e => ⟨z.1.2 e, hG⟩⟩, fun _ m => z.2 rfl ((hW' a).mp m).1⟩
    have sl' : Slots K N' W' H σ (ρ.set i none) (F1 ++ F2) := Slots.conv (N := N) (N' := N') (L := W) (L' := W') rfl cv sl
    have nd := sim.ndl
    rw [eL, List.nodup_append, List.nodup_append] at nd
    obtain ⟨a1, ⟨a2, a3, a4⟩, a5⟩ := nd
    have n12 : (F1 ++ F2).Nodup := by
      rw [List.nodup_append]
      exact ⟨a1, a3, fun a m b m2 => a5 a m b (by simp [m2])⟩
    have g12 : ∀ b ∈ F1 ++ F2, b ∉ G := fun b m m2 => (List.mem_append.mp m).elim (fun y => a5 b y b (by simp [m2]) rfl) fun y => a4 b m2 b y rfl
    have sub12 : ∀ b ∈ F1 ++ F2, b ∈ L := fun b m => by
      rw [eL]
      rcases List.mem_append.mp m with m | m <;> simp [m]
    obtain ⟨F', h1, h2, h3⟩ := sl'.put (s := ⟨s.d, .shr, true, none⟩) (G := []) ev (fun _ z => nomatch z) (rp.give (fun a z => ⟨⟨z.1.1.imp (fun y => ⟨y, out a (z.2 rfl)⟩) .inl, (fun e => nomatch e)⟩, fun _ m => z.2 rfl ((hW' a).mp m).1⟩) fun a m => ⟨⟨.inr (.inr m), (fun e => nomatch e)⟩, fun _ m2 => ((hW' a).mp m2).2 m⟩)
    rw [List.set_set] at h1
    refine ⟨N', F', W', ⟨fun b o e _ => e, fun b e => ⟨sim.nw b e, fun m => sim.th b (gW b m) e⟩, List.filter_sublist.nodup sim.nd, fun a m => ⟨sim.ln a ((hW' a).mp m).1, ((hW' a).mp m).2⟩, fun a m => sim.mu a ((hW' a).mp m).1, h1, fun a m => (hW' a).mpr ?_, h3 n12 .nil (fun _ z => nomatch z)⟩, fun a z => ?_⟩
    · rcases h2 a m with y | y
      · exact ⟨sim.sub a (sub12 a y), g12 a y⟩
      · cases y
    · have hn := z.1.2 rfl
      exact ⟨.new hn.1, fun _ m => z.2 rfl ((hW' a).mpr ⟨m, hn.2⟩)⟩
  · exact ⟨N, L, W, ⟨fun b o e _ => e, sim.nw, sim.nd, sim.ln, sim.mu, sim.sl, sim.sub, sim.ndl⟩, fun a z => z⟩
theorem bor_te {K : PySem.W.Frag} {fe : EvE} {i : Nat} {σ : St} {H : Hp} {Q : VK} (h : tE K (eBor i fe) σ H Q) : tE K fe σ H Q := by
  obtain ⟨N, H0, ρ, L, W, r, sim, z, q⟩ := h
  unfold eBor at z
  obtain ⟨r', e1, z⟩ := bind_some z
  obtain ⟨N', L', W', sim', cv⟩ := sim.lend i
  refine ⟨N', H, _, L', W', r', sim', e1, fun v H1 F s1 n1 d1 p1 => ?_⟩
  split at z
  · rename_i hi
    cases z
    exact q.atom s1 fun S => (p1.of_imm hi).2
  · split at z
    · rename_i hc
      cases z
      obtain ⟨rd, rl, ra, rv⟩ := r
      obtain ⟨h1, h2⟩ := hc
      dsimp only at h1 h2
      subst h1 h2
      exact q v H1 F s1 n1 d1 (p1.mono fun a z => ⟨cv a z.1, z.2⟩)
    · cases z
section
variable {X : Cx} {e : Expr} {fe : EvE} {elt tg iter : Expr} {ifs : List Expr} {scope : Scope} {pos spos py : Pos} {it : EvI} {t : Tg} {c : EvT}
theorem e_bor (i : Nat) (he : PEv X e fe) : PEv X e (eBor i fe) := imp_e he fun _ _ _ h => bor_te h
theorem s_setLcB (j i : Nat) (own : List (Str × Nat)) {y : Str} (hc : X.calm = true) (hN : X.N.Nodup) (hi : PIvs X tg iter it) (ok : BlkOk X.N X.env.scope scope own)
    (hg : ∀ (s : Shared) (H : Hp) (C : Addr) (cl : List (Str × Addr)) (fp : List Addr), PGv (X.blk s H scope (compEnvC scope cl C X.env) fp) tg t) (ht : ∀ (s : Shared) (H : Hp) (C : Addr) (cl : List (Str × Addr)) (fp : List Addr), PTsv (X.blk s H scope (compEnvC scope cl C X.env) fp) ifs c)
    (he : ∀ (s : Shared) (H : Hp) (C : Addr) (cl : List (Str × Addr)) (fp : List Addr), PEv (X.blk s H scope (compEnvC scope cl C X.env) fp) elt fe)
    (hsw : swapsWith (.ListComp elt [⟨tg, iter, ifs, 0⟩] scope pos) (some (.Name y py)) spos.line X.env = pure true) (hy : X.N[i]? = some y := by rfl) (hyl : X.env.scope.names.lookup y = some .local := by rfl)
    (hv : (tgSlots t).all (fun j => decide (j ∈ own.map (·.2))) = true := by rfl) (hs : ∀ x, foldedSetIterable iter X.env x = pure x := by intro _; rfl) :
    PSv X (.Assign [.Name y py] (.ListComp elt [⟨tg, iter, ifs, 0⟩] scope pos) spos) (sSet [] i (eBor j (eLc it (own.map (·.2)) t c fe))) := by
  refine imp_s (ps_setLc (wi := tIs X.K it) (g := tG X.K t) (tt := tT X.K c) (te := tE X.K fe) hc hN hy hyl hsw hi ok hg ht he hs) fun D σ H ⟨N, H0, ρ, L, o, sim, z, q⟩ => ?_
  unfold sSet at z
  obtain ⟨r, e1, z⟩ := bind_some z
  split at z
  · rename_i hc
    rw [Bool.and_eq_true, decide_eq_true_eq] at hc
    cases z
    refine lc_read (X := X) hv (bor_te (i := j) ?_)
    refine one sim.h e1 fun v H1 F s1 n1 d1 p1 => ?_
    have hv : r.vw = false := by simpa using hc.1
    obtain ⟨L2, sim2, sub2⟩ := sim.set (r := ⟨r.d, r.l, r.al, none⟩) (fun _ z => nomatch z) s1 n1 d1 (p1.mono fun a z => ⟨⟨z.1.1, fun _ => z.1.2 hv⟩, z.2⟩) hc.2
    exact q _ H1 L2 sim2 (Frm.same s1 fun b z => (sub2 b z).imp id (n1 b))
  · cases z
end
end Ev

set_option Elab.async false
set_option linter.all false
set_option maxRecDepth 100000

namespace Ev
open PySem PySem.Spec L2
open PyProof.Rows hiding St
theorem for_run {K : PySem.W.Frag} {N : Nw} {H0 H1 : Hp} {ρX : Env} {σ : St} {L : List Addr} {t : Tg} {b : EvS} {J : It} {items : List (D × Bool)} {o : Out} {De : Ends} (sim : Sim K N H0 ρX σ H1 L) (Y : Yld K N L H1 J items) (z : forL t b items ρX = some o) (q : PostS K N H0 H1 L o De) :
    ∃ W : Nat → Nat → St → Hp → Prop, (∃ m, W 0 m σ H1) ∧ ∀ i m σ H, W i m σ H →
      (J.stop i H ∧ De.nx σ H) ∨ (J.go i H ∧ ∃ N' : St → Hp → Prop, (∀ σ' H', N' σ' H' → ∃ m', m' < m ∧ W (i + 1) m' σ' H') ∧ ∀ x H', J.yld i H x H' → tG K t x σ H' fun σ2 H2 => tS K b { De with nx := N', ct := N', bk := De.nx } σ2 H2) := by
  refine ⟨fun i m σ' H' => m = items.length - i ∧ i ≤ items.length ∧ ∃ ρ' L', Sim K N H0 ρ' σ' H' L' ∧ Frm H1 L H' L' ∧ forL t b (items.drop i) ρ' = some o ∧ PostS K N H0 H' L' o De,
    ⟨items.length, by simp, Nat.zero_le _, _, L, sim, Frm.refl _ _, by simpa using z, q⟩, ?_⟩
  rintro i m σ' H' ⟨rfl, hi, ρ', L', sim', fr, zi, qi⟩
  have kept : Kept H1 L H' := fr.1
  by_cases hlt : i < items.length
  · obtain ⟨⟨d, al⟩, ei⟩ : ∃ x, items[i]? = some x := ⟨items[i], List.getElem?_eq_getElem hlt⟩
    have ed : items.drop i = (d, al) :: items.drop (i + 1) := by
      rw [List.drop_eq_getElem_cons hlt]
      have := List.getElem?_eq_getElem hlt
      rw [ei] at this
      rw [← Option.some.inj this]
    rw [ed] at zi
    unfold forL at zi
    obtain ⟨ρ1, et, zi⟩ := bind_some zi
    obtain ⟨ob, eb, zi⟩ := bind_some zi
    refine .inr ⟨Y.go i d al H' ei kept, fun σ'' H'' => ∃ m', m' < items.length - i ∧ (m' = items.length - (i + 1) ∧ i + 1 ≤ items.length ∧ ∃ ρ' L', Sim K N H0 ρ' σ'' H'' L' ∧ Frm H1 L H'' L' ∧ forL t b (items.drop (i + 1)) ρ' = some o ∧ PostS K N H0 H'' L' o De), fun _ _ h => h, fun x H3 y => ?_⟩
    obtain ⟨s3, r3⟩ := Y.yld i d al H' x H3 ei kept y
    have fr3 : Frm H' L' H3 L' := Frm.same s3 fun b z => .inl z
    refine ⟨N, H0, ρ', L', L', d, al, ρ1, (sim'.same s3).h, r3.mono fun a z => ⟨z.1.1, fun _ w => (fr.2.2 a w).elim (z.1.2 rfl) z.2⟩, et, fun σ2 L2 sim2 sub2 _ => ?_⟩
    have fr2 : Frm H' L' H3 L2 := Frm.same s3 fun b z => .inl (sub2 b z)
    refine ⟨N, H0, ρ1, L2, ob, sim2.sim, eb, ?_⟩
    have again : ∀ {ρ2 : Env}, forL t b (items.drop (i + 1)) ρ2 = some o → ∀ σ4 H4 L4, Sim K N H0 ρ2 σ4 H4 L4 → Frm H3 L2 H4 L4 → ∃ m', m' < items.length - i ∧ (m' = items.length - (i + 1) ∧ i + 1 ≤ items.length ∧ ∃ ρ' L', Sim K N H0 ρ' σ4 H4 L' ∧ Frm H1 L H4 L' ∧ forL t b (items.drop (i + 1)) ρ' = some o ∧ PostS K N H0 H4 L' o De) :=
      fun z4 σ4 H4 L4 sim4 fr4 => ⟨_, by omega, rfl, hlt, _, L4, sim4, fr.trans (fr2.trans fr4), z4, qi.at_ (fr2.trans fr4)⟩
    cases ob with
    | nx ρ2 => exact again zi
    | ct ρ2 => exact again zi
    | bk ρ2 => cases zi; exact fun σ4 H4 L4 sim4 fr4 => qi σ4 H4 L4 sim4 (fr2.trans fr4)
    | rt ρ2 d l al => cases zi; exact qi.at_ fr2
  · have ei : i = items.length := by omega
    subst ei
    rw [List.drop_length] at zi
    unfold forL at zi
    cases zi
    exact .inl ⟨Y.stop H' kept, qi σ' H' L' sim' (Frm.refl _ _)⟩

def noPin (k : Nat) (ρ : Env) : Bool := ρ.all fun o => match o with
  | some s => decide (s.pn ≠ some k)
  | none => true
def clr (k : Nat) (ρ : Env) : Env := ρ.map fun o => o.map fun s => if s.pn = some k then ⟨s.d, s.l, s.al, none⟩ else s
def backH (j k : Nat) (s : Sv) : Out → Option Out
  | .nx ρ => match ρ[j]? with
    | some (some s2) => if s2.pn = some k then some (.nx ((clr k ρ).set j (some s))) else none
    | _ => none
  | .rt ρ d l al => some (.rt (clr k ρ) d l al)
  | _ => none
def topP : Env → Nat
  | [] => 0
  | some s :: ρ => match s.pn with
    | some k => max (k + 1) (topP ρ)
    | none => topP ρ
  | none :: ρ => topP ρ
theorem topP_no : ∀ (ρ : Env) (k : Nat), topP ρ ≤ k → noPin k ρ = true
  | [], _, _ => rfl
  | none :: ρ, k, h => by
    show (true && noPin k ρ) = true
    rw [topP_no ρ k h]; rfl
  | some s :: ρ, k, h => by
    show (decide (s.pn ≠ some k) && noPin k ρ) = true
    unfold topP at h
    cases e : s.pn with
    | none =>
      rw [e] at h
      rw [topP_no ρ k h]; rfl
    | some j =>
      rw [e] at h
      dsimp only at h
      rw [topP_no ρ k (by omega)]
      simp; omega
def sForH (fp : EvP) (t : Tg) (b : EvS) : EvS := fun ρ => (fp ρ).bind fun z => match z.2.2, ρ[z.1]? with
  | .lst ds, some (some s) => if immAll ds = true ∧ isNd s.d = true then (forL t b (ds.map fun d => (d, false)) (ρ.set z.1 (some ⟨.any, .full, false, some (topP ρ)⟩))).bind (backH z.1 (topP ρ) s) else none
  | _, _ => none
theorem Slots.into {K : PySem.W.Frag} {N N' : Nw} {L L' : List Addr} {H : Hp} {k0 : Nat} (hp : ∀ k, k ≠ k0 → N'.p k = N.p k) (h : ∀ al a, SR N L al false a → SR N' L' al false a) : ∀ {σ : St} {ρ : Env} {F : List Addr}, Slots K N L H σ ρ F → noPin k0 ρ = true → Slots K N' L' H σ ρ F
  | _, _, _, .nil, _ => .nil
  | _, _, _, .no q, e => .no (Slots.into hp h q (by simpa [noPin] using e))
  | _, _, _, .so (s := s) h0 h1 q, e => by
    simp only [noPin, List.all_cons, Bool.and_eq_true, decide_eq_true_eq] at e
    exact .so (fun k ek => by rw [hp k fun z => e.1 (by rw [ek, z])]; exact h0 k ek) (h1.mono fun a z => h _ a z) (Slots.into hp h q e.2)
theorem Slots.outof {K : PySem.W.Frag} {N N' : Nw} {L L' : List Addr} {H : Hp} {k0 : Nat} (hp : ∀ k, k ≠ k0 → N'.p k = N.p k) (h : ∀ al a, SR N' L' al false a → SR N L al false a) : ∀ {σ : St} {ρ : Env} {F : List Addr}, Slots K N' L' H σ ρ F → Slots K N L H σ (clr k0 ρ) F
  | _, _, _, .nil => .nil
  | _, _, _, .no q => .no (Slots.outof hp h q)
  | _, _, _, .so (s := s) h0 h1 q => by
    have r := Slots.outof (k0 := k0) hp h q
    by_cases e : s.pn = some k0
    · have z := Slots.so (K := K) (N := N) (L := L) (H := H) (s := ⟨s.d, s.l, s.al, none⟩) (fun _ z => nomatch z) (h1.mono fun a z => h _ a z) r
      unfold clr at z ⊢
      rw [List.map_cons, Option.map_some, if_pos e]
      exact z
    · have z := Slots.so (K := K) (N := N) (L := L) (H := H) (s := s) (fun k ek => by rw [← hp k fun z => e (by rw [ek, z])]; exact h0 k ek) (h1.mono fun a z => h _ a z) r
      unfold clr at z ⊢
      rw [List.map_cons, Option.map_some, if_neg e]
      exact z
end Ev

set_option Elab.async false
set_option linter.all false
set_option maxRecDepth 100000

namespace Ev
open PySem PySem.Spec L2
open PyProof.Rows hiding St
section
variable {X : Cx} {tg e : Expr} {fp : EvP} {t : Tg} {b : EvS} {body : List Stmt} {pos : Pos}
theorem s_forH (hc : X.calm = true) (h : PPv X e fp) (hg : PGv X tg t) (hb : PSsv X body b) (hp : PassesOwn (model X.prog X.w) X.A X.env X.xe := by exact PassesOwn.never) (hs : ∀ x, foldedSetIterable e X.env x = pure x := by intro _; rfl) : PSv X (.For tg e body [] pos) (sForH fp t b) := by
  refine imp_s (ps_for hp hc (pi_list h.run) hg hb hs) fun De σ H ⟨N, H0, ρ, L, o, sim, z, q⟩ => ?_
  unfold sForH at z
  obtain ⟨⟨j, p, d⟩, e1, z⟩ := bind_some z
  dsimp only at z
  split at z
  · rename_i ds s es
    split at z
    · rename_i hcd
      obtain ⟨hi, hnd⟩ := hcd
      generalize hk0 : topP ρ = k0 at z
      have hnp : noPin k0 ρ = true := topP_no ρ k0 (by omega)
      obtain ⟨o1, z1, z2⟩ := bind_some z
      obtain ⟨s', es', hl, hdp⟩ := h.ok ρ j p _ e1
      rw [es] at es'
      cases es'
      obtain ⟨F1, G, F2, v0, eL, ev, rp, sl⟩ := sim.sl.hide es
      have nd := sim.nd
      rw [eL, List.nodup_append, List.nodup_append] at nd
      obtain ⟨a1, ⟨a2, a3, a4⟩, a5⟩ := nd
      rw [hl] at rp
      obtain ⟨u, A, G2, B, eG, ru, w2, _⟩ := rp.way hdp a2
      obtain ⟨a, ob, vs, ds', F3, rfl, eG2, ha, hn, hr⟩ := ru.node rfl
      cases hn with
      | lst =>
        obtain ⟨a0, o0, vs0, ds0, F0, rfl, _⟩ := rp.node hnd
        have aG : a ∈ G := by rw [eG, eG2]; simp
        have gL : ∀ b ∈ G, b ∈ L := fun b m => by rw [eL]; simp [m]
        have n12 : (F1 ++ F2).Nodup := by
          rw [List.nodup_append]
          exact ⟨a1, a3, fun a m b m2 => a5 a m b (by simp [m2])⟩
        have g12 : ∀ b ∈ F1 ++ F2, b ∉ G := fun b m m2 => (List.mem_append.mp m).elim (fun y => a5 b y b (by simp [m2]) rfl) fun y => a4 b m2 b y rfl
        have sub12 : ∀ b ∈ F1 ++ F2, b ∈ L := fun b m => by
          rw [eL]
          rcases List.mem_append.mp m with m | m <;> simp [m]
        refine ⟨N, H0, ρ, L, L, j, p, _, sim.h, e1, fun u' H1 s1 at1 => ?_⟩
        have := (at1 _ ev).fn (w2.same s1)
        subst this
        refine ⟨a, rfl, ⟨vs, SqL.of (s1 _ _ ha)⟩, ?_⟩
        let N' : Nw := ⟨fun a => N a ∧ a ∉ G, fun a => N.s a ∧ a ∉ G, fun k => if k = k0 then a0 else N.p k⟩
        have hpin : ∀ k, k ≠ k0 → N'.p k = N.p k := fun k hk => if_neg hk
        have cvI : ∀ al b, SR N L al false b → SR N' (F1 ++ F2) al false b := fun al b w => by
          have hG : b ∉ G := fun m => w.2 rfl (gL b m)
          exact ⟨⟨w.1.1.imp (fun y => ⟨y, hG⟩) (fun y => ⟨y, hG⟩), fun ee => ⟨w.1.2 ee, hG⟩⟩, fun _ m => w.2 rfl (sub12 b m)⟩
        have np1 : noPin k0 (ρ.set j none) = true := by
          unfold noPin at hnp ⊢
          rw [List.all_eq_true] at hnp ⊢
          intro x hx
          rcases List.mem_or_eq_of_mem_set hx with hx | hx
          · exact hnp x hx
          · rw [hx]
        have sl1 : Slots X.K N' (F1 ++ F2) H σ (ρ.set j none) (F1 ++ F2) := sl.into hpin cvI np1
        obtain ⟨F4, sl2, f1, f2⟩ := sl1.put (s := ⟨.any, .full, false, some k0⟩) (G := []) ev (fun k ek => by cases ek; show V.ref a0 = V.ref (if k0 = k0 then a0 else N.p k0); rw [if_pos rfl]) .any
        rw [List.set_set] at sl2
        have nF4 := f2 n12 .nil (fun _ z => nomatch z)
        have F4s : ∀ b ∈ F4, b ∈ F1 ++ F2 := fun b m => (f1 b m).resolve_right (fun z => nomatch z)
        have F4L : ∀ b ∈ F4, b ∈ L := fun b m => sub12 b (F4s b m)
        have gN : ∀ b ∈ G, H b ≠ none := fun b m => sim.th b (gL b m)
        have simI : Sim X.K N' H (ρ.set j (some ⟨.any, .full, false, some k0⟩)) σ H F4 := ⟨fun b o e _ => e, fun b e => ⟨sim.nw b e, fun m => gN b m e⟩, nF4, fun b m => ⟨sim.ln b (F4L b m), g12 b (F4s b m)⟩, fun b m => sim.mu b (F4L b m), sl2.mono fun b y m => y (F4s b m)⟩
        have simI1 := simI.same s1
        have hvs := ((hr.same s1).of_imm (S' := SR N' F4 false false) (l' := .shr) hi).2
        have muW : ∀ b ∈ F4, Mut (H1 b) := simI1.mu
        have Y : Yld X.K N' F4 H1 (Itl X.K a) (ds.map fun d => (d, false)) := yld_list (fun H2 k => SqL.of (k _ _ (s1 _ _ ha) fun m => g12 a (F4s a m) aG)) muW hvs
        -- what stands behind the loop stands for us, too
        have keepG : ∀ {ρ2 : Env} {σ2 : St} {H2 : Hp} {L2 : List Addr}, Sim X.K N' H ρ2 σ2 H2 L2 → ∀ b o, H b = some o → (b ∈ G ∨ ¬ N b) → H2 b = some o := fun s2 b o e m => s2.kp b o e fun y => m.elim y.2 fun m => m y.1
        refine for_run simI1 Y z1 ?_
        have cvO : ∀ {L2 : List Addr}, ∀ al b, SR N' L2 al false b → SR N L2 al false b := fun al b w => ⟨⟨w.1.1.imp And.left And.left, fun ee => (w.1.2 ee).1⟩, w.2⟩
        cases o1 with
        | bk ρ2 => cases z2
        | ct ρ2 => cases z2
        | nx ρ2 =>
          have z2 : (match ρ2[j]? with
            | some (some s2) => if s2.pn = some k0 then some (Out.nx ((clr k0 ρ2).set j (some s))) else none
            | _ => none) = some o := z2
          split at z2
          · rename_i s2 es2
            split at z2
            · rename_i hpk
              cases z2
              intro σ2 H2 L2 sim2 fr2
              obtain ⟨v2, _, ev2, _, _, hp2⟩ := sim2.sl.get es2
              have hv2 := hp2 k0 hpk
              have : N'.p k0 = a0 := if_pos rfl
              rw [this] at hv2
              subst hv2
              have L2G : ∀ b ∈ L2, b ∉ G := fun b m => (sim2.ln b m).2
              have slO : Slots X.K N (L2 ++ G) H2 σ2 (clr k0 ρ2) L2 := sim2.sl.outof hpin fun al b w => ⟨⟨w.1.1.imp And.left And.left, fun ee => (w.1.2 ee).1⟩, fun _ m => (List.mem_append.mp m).elim (w.2 rfl) (w.1.1.elim And.right And.right)⟩
              have f4G : ∀ b ∈ G, b ∉ F4 := fun b m m2 => g12 b (F4s b m2) m
              have kp2 : ∀ b o, H b = some o → b ∉ F4 → H2 b = some o := fun b o e n => fr2.1 b o (s1 b o e) n
              have newL : ∀ b ∈ L2, b ∈ L ∨ H b = none := fun b m => (fr2.2.2 b m).imp (F4L b) s1.free
              have rpO : Rp X.K (SR N (L2 ++ G) s.al false) H2 .full (.ref a0) s.d G := (rp.trk.keep (H' := H2) fun b o e m => kp2 b o e fun m4 => by
                rcases m with m | m | ⟨xs, rfl⟩ | ⟨o', u, rfl⟩
                · exact m.1.2 rfl (F4L b m4)
                · exact f4G b m m4
                · have := simI.mu b m4; rw [e] at this; exact this
                · have := simI.mu b m4; rw [e] at this; exact this).mono fun b w => ⟨w.1.1, fun _ m => (List.mem_append.mp m).elim (fun m => (newL b m).elim (w.1.2 rfl) w.2) fun m => w.1.2 rfl (gL b m)⟩
              obtain ⟨v9, _, ev9, _, _, pin9⟩ := sim.sl.get es
              rw [ev] at ev9
              cases ev9
              obtain ⟨F6, sl6, g1, g2⟩ := slO.put (s := s) ev2 pin9 (by rw [hl]; exact rpO)
              have n6 := g2 sim2.nd a2 fun b m m2 => L2G b m2 m
              refine q σ2 H2 F6 ⟨fun b o e n => sim2.kp b o (sim.kp b o e n) fun y => n y.1, fun b e => (sim2.nw b e).1, n6, fun b m => (g1 b m).elim (fun m => (sim2.ln b m).1) fun m => sim.ln b (gL b m), fun b m => ?_, sl6.mono fun b y m => y ((g1 b m).elim (List.mem_append_left _) (List.mem_append_right _))⟩ ⟨fun b o e n => kp2 b o e fun m => n (F4L b m), fun b e => (fr2.2.1 b e).imp s1.free (F4L b), fun b m => (g1 b m).elim (newL b) fun m => .inl (gL b m)⟩
              rcases g1 b m with m | m
              · exact sim2.mu b m
              · obtain ⟨o, eo⟩ : ∃ o, H b = some o := Option.ne_none_iff_exists'.mp (gN b m)
                rw [kp2 b o eo (f4G b m), ← eo]
                exact sim.mu b (gL b m)
            · cases z2
          · cases z2
        | rt ρ2 d2 l2 al2 =>
          have z2 : some (Out.rt (clr k0 ρ2) d2 l2 al2) = some o := z2
          cases z2
          intro v σ2 H2 L2 F5 sim2 kp2 rp2
          refine q v σ2 H2 L2 F5 ⟨fun b o e n => ?_, fun b e => (sim2.nw b e).1, sim2.nd, fun b m => (sim2.ln b m).1, sim2.mu, sim2.sl.outof hpin cvO, sim2.sub, sim2.ndl⟩ (fun b o e n => kp2 b o (s1 b o e) fun m => n (F4L b m)) (rp2.mono fun b w => ⟨⟨w.1.1.imp And.left And.left, fun ee => (w.1.2 ee).1⟩, w.2⟩)
          exact sim2.kp b o (sim.kp b o e n) fun y => n y.1
    · cases z
  · cases z
end
end Ev

set_option Elab.async false
set_option linter.all false
set_option maxRecDepth 100000

namespace Ev
open PySem PySem.Spec L2
open PyProof.Rows hiding St
abbrev DctO (u : HO) : Prop := (∃ kv, u = .dK kv) ∨ ∃ kv, u = .dT kv
theorem DctO.mu {u : HO} (h : DctO u) : Mut (some u) := by
  rcases h with ⟨kv, rfl⟩ | ⟨kv, rfl⟩ <;> trivial
section
variable {K : PySem.W.Frag} {S : Addr → Prop} {H : Hp} {x : Addr} {od : Obj} {u : HO}
mutual
theorem Rp.lock (hu : H x = some u) (hd : DctO u) : ∀ {l : Lv} {v : V} {d : D} {F : List Addr}, Rp K S H l v d F → (∀ a ∈ F, a ≠ x) → Rp K S (upd H x (.frz od u)) l v d F
  | _, _, _, _, .any, _ => .any
  | _, _, _, _, .non, _ => .non
  | _, _, _, _, .bl, _ => .bl
  | _, _, _, _, .int, _ => .int
  | _, _, _, _, .str, _ => .str
  | _, _, _, _, .tup h1 h2, hF => .tup (by rw [upd_ne (fun y => by rw [y, hu] at h1; cases h1; rcases hd with ⟨_, e⟩ | ⟨_, e⟩ <;> cases e)]; exact h1) (Rps.lock hu hd h2 hF)
  | _, _, _, _, .fl h1 h3, hF => .fl (by
      rcases h1 with ⟨o, h1⟩ | h1
      · exact .inl ⟨o, by rw [upd_ne (fun y => by rw [y, hu] at h1; cases h1; rcases hd with ⟨_, e⟩ | ⟨_, e⟩ <;> cases e)]; exact h1⟩
      · exact .inr h1) (Rps.lock hu hd h3 (fun _ z => nomatch z))
  | _, _, _, _, .nd0 (a := a) h0 h1 h2 h3, hF => .nd0 h0 (by
      by_cases e : a = x
      · subst e
        rcases h1 with h1 | ⟨⟨o', h1⟩, _⟩
        · rw [hu] at h1
          cases h1
          exact .inr ⟨⟨od, upd_same⟩, hd⟩
        · rw [hu] at h1
          cases h1
          rcases hd with ⟨_, e⟩ | ⟨_, e⟩ <;> cases e
      · exact h1.imp fun _ q => by rw [upd_ne e]; exact q) h2 (Rps.lock hu hd h3 (fun _ z => nomatch z))
  | _, _, _, _, .nd1 h0 h1 h2 h3, hF => .nd1 h0 h1 (by rw [upd_ne (hF _ List.mem_cons_self)]; exact h2) (Rps.lock hu hd h3 (fun a z => hF a (List.mem_cons_of_mem _ z)))
theorem Rps.lock (hu : H x = some u) (hd : DctO u) : ∀ {l : Lv} {vs : List V} {ds : List D} {F : List Addr}, Rps K S H l vs ds F → (∀ a ∈ F, a ≠ x) → Rps K S (upd H x (.frz od u)) l vs ds F
  | _, _, _, _, .nil, _ => .nil
  | _, _, _, _, .cons h1 h2, hF => .cons (Rp.lock hu hd h1 fun a z => hF a (List.mem_append_left _ z)) (Rps.lock hu hd h2 fun a z => hF a (List.mem_append_right _ z))
end
mutual
theorem Rp.free (hx : H x = some (.frz od u)) (hd : DctO u) : ∀ {l : Lv} {v : V} {d : D} {F : List Addr}, Rp K S H l v d F → (∀ a ∈ F, a ≠ x) → Rp K S (upd H x u) l v d F
  | _, _, _, _, .any, _ => .any
  | _, _, _, _, .non, _ => .non
  | _, _, _, _, .bl, _ => .bl
  | _, _, _, _, .int, _ => .int
  | _, _, _, _, .str, _ => .str
  | _, _, _, _, .tup h1 h2, hF => .tup (by rw [upd_ne (fun y => by rw [y, hx] at h1; cases h1)]; exact h1) (Rps.free hx hd h2 hF)
  | _, _, _, _, .fl h1 h3, hF => .fl (by
      rcases h1 with ⟨o, h1⟩ | h1
      · exact .inl ⟨o, by rw [upd_ne (fun y => by rw [y, hx] at h1; cases h1; rcases hd with ⟨_, e⟩ | ⟨_, e⟩ <;> cases e)]; exact h1⟩
      · exact .inr h1) (Rps.free hx hd h3 (fun _ z => nomatch z))
  | _, _, _, _, .nd0 (a := a) h0 h1 h2 h3, hF => .nd0 h0 (by
      by_cases e : a = x
      · subst e
        rcases h1 with h1 | ⟨⟨o', h1⟩, _⟩
        · rw [hx] at h1
          cases h1
          cases h0
        · rw [hx] at h1
          cases h1
          exact .inl upd_same
      · exact h1.imp fun _ q => by rw [upd_ne e]; exact q) h2 (Rps.free hx hd h3 (fun _ z => nomatch z))
  | _, _, _, _, .nd1 h0 h1 h2 h3, hF => .nd1 h0 h1 (by rw [upd_ne (hF _ List.mem_cons_self)]; exact h2) (Rps.free hx hd h3 (fun a z => hF a (List.mem_cons_of_mem _ z)))
theorem Rps.free (hx : H x = some (.frz od u)) (hd : DctO u) : ∀ {l : Lv} {vs : List V} {ds : List D} {F : List Addr}, Rps K S H l vs ds F → (∀ a ∈ F, a ≠ x) → Rps K S (upd H x u) l vs ds F
  | _, _, _, _, .nil, _ => .nil
  | _, _, _, _, .cons h1 h2, hF => .cons (Rp.free hx hd h1 fun a z => hF a (List.mem_append_left _ z)) (Rps.free hx hd h2 fun a z => hF a (List.mem_append_right _ z))
end
variable {N : Nw} {H0 : Hp} {ρ : Env} {σ : St} {L W : List Addr}
theorem Slots.lock {L0 : List Addr} (hu : H x = some u) (hd : DctO u) : ∀ {σ : St} {ρ : Env} {F : List Addr}, Slots K N L0 H σ ρ F → (∀ a ∈ F, a ≠ x) → Slots K N L0 (upd H x (.frz od u)) σ ρ F
  | _, _, _, .nil, _ => .nil
  | _, _, _, .no h, k => .no (Slots.lock hu hd h k)
  | _, _, _, .so h0 h1 h2, k => .so h0 (h1.lock hu hd fun a z => k a (List.mem_append_left _ z)) (Slots.lock hu hd h2 fun a z => k a (List.mem_append_right _ z))
theorem Slots.free {L0 : List Addr} (hx : H x = some (.frz od u)) (hd : DctO u) : ∀ {σ : St} {ρ : Env} {F : List Addr}, Slots K N L0 H σ ρ F → (∀ a ∈ F, a ≠ x) → Slots K N L0 (upd H x u) σ ρ F
  | _, _, _, .nil, _ => .nil
  | _, _, _, .no h, k => .no (Slots.free hx hd h k)
  | _, _, _, .so h0 h1 h2, k => .so h0 (h1.free hx hd fun a z => k a (List.mem_append_left _ z)) (Slots.free hx hd h2 fun a z => k a (List.mem_append_right _ z))
theorem Sim.lock (s : Sim K N H0 ρ σ H L) (hu : H x = some u) (hd : DctO u) (hn : x ∉ L) : Sim K N (upd H x (.frz od u)) ρ σ (upd H x (.frz od u)) L where
  kp := fun _ _ e _ => e
  nw := fun b e => s.nw b (by
    by_cases q : b = x
    · subst q; rw [upd_same] at e; cases e
    · rw [upd_ne q] at e; exact e)
  nd := s.nd
  ln := s.ln
  mu := fun a m => by rw [upd_ne (fun e => hn (by rw [← e]; exact m))]; exact s.mu a m
  sl := s.sl.lock hu hd fun a m e => hn (by rw [← e]; exact m)

theorem SimH.free {ρ' : Env} {σ' : St} {H' : Hp} {L' W : List Addr} (s : Sim K N H0 ρ σ H L) (hu : H x = some u) (hd : DctO u) (s' : SimH K N (upd H x (.frz od u)) ρ' σ' H' L' W) (hx : H' x = some (.frz od u)) : SimH K N H0 ρ' σ' (upd H' x u) L' W := by
  have hw : ∀ a ∈ W, a ≠ x := fun a m e => by
    have := s'.mu a m
    rw [e, hx] at this
    exact this
  refine ⟨fun b o e n => ?_, fun b e => s'.nw b ?_, s'.nd, s'.ln, fun a m => ?_, s'.sl.free hx hd fun a m => hw a (s'.sub a m), s'.sub, s'.ndl⟩
  · have h1 := s.kp b o e n
    by_cases q : b = x
    · subst q; rw [upd_same]; rw [hu] at h1; exact h1
    · rw [upd_ne q]; exact s'.kp b o (by rw [upd_ne q]; exact h1) n
  · by_cases q : b = x
    · subst q; rw [upd_same] at e; cases e
    · rw [upd_ne q] at e; exact e
  · rw [upd_ne (hw a m)]; exact s'.mu a m
theorem frm_free {H' : Hp} {L' : List Addr} (hu : H x = some u) (k : Frm (upd H x (.frz od u)) L H' L') : Frm H L (upd H' x u) L' := by
  refine ⟨fun b o e n => ?_, fun b e => ?_, fun b m => (k.2.2 b m).imp id fun e => ?_⟩
  · by_cases q : b = x
    · subst q; rw [upd_same]; rw [hu] at e; exact e
    · rw [upd_ne q]; exact k.1 b o (by rw [upd_ne q]; exact e) n
  · by_cases q : b = x
    · subst q; rw [upd_same] at e; cases e
    · rw [upd_ne q] at e
      exact (k.2.1 b e).imp (fun z => by rw [upd_ne q] at z; exact z) id
  · by_cases q : b = x
    · subst q; rw [upd_same] at e; cases e
    · rw [upd_ne q] at e; exact e
theorem PostS.free {o : Out} {D : Ends} (s : Sim K N H0 ρ σ H L) (hu : H x = some u) (hd : DctO u) (hn : x ∉ L) (q : PostS K N H0 H L o D) :
    PostS K N (upd H x (.frz od u)) (upd H x (.frz od u)) L o ⟨fun σ' H' => H' x = some (.frz od u) ∧ D.nx σ' (upd H' x u), fun v H' => H' x = some (.frz od u) ∧ D.rt v (upd H' x u), fun σ' H' => H' x = some (.frz od u) ∧ D.bk σ' (upd H' x u), fun σ' H' => H' x = some (.frz od u) ∧ D.ct σ' (upd H' x u)⟩ := by
  have go : ∀ {ρ' : Env} {σ' : St} {H' : Hp} {L' : List Addr}, Sim K N (upd H x (.frz od u)) ρ' σ' H' L' → Frm (upd H x (.frz od u)) L H' L' → H' x = some (.frz od u) ∧ Sim K N H0 ρ' σ' (upd H' x u) L' ∧ Frm H L (upd H' x u) L' := fun s' k => by
    have hx := k.1 x _ upd_same hn
    exact ⟨hx, (SimH.free s hu hd s'.h hx).sim, frm_free hu k⟩
  cases o with
  | nx ρ' => exact fun σ' H' L' s' k => let ⟨a, b, c⟩ := go s' k; ⟨a, q _ _ _ b c⟩
  | bk ρ' => exact fun σ' H' L' s' k => let ⟨a, b, c⟩ := go s' k; ⟨a, q _ _ _ b c⟩
  | ct ρ' => exact fun σ' H' L' s' k => let ⟨a, b, c⟩ := go s' k; ⟨a, q _ _ _ b c⟩
  | rt ρ' d l al =>
    intro v σ' H' L' F s' k rp
    have hx := k x _ upd_same hn
    have hw : ∀ a ∈ L' ++ F, a ≠ x := fun a m e => by
      have := s'.mu a m
      rw [e, hx] at this
      exact this
    refine ⟨hx, q v σ' _ L' F (SimH.free s hu hd s' hx) (fun b o e n => ?_) (rp.free hx hd fun a m => hw a (List.mem_append_right _ m))⟩
    by_cases e2 : b = x
    · subst e2; rw [upd_same]; rw [hu] at e; exact e
    · rw [upd_ne e2]; exact k b o (by rw [upd_ne e2]; exact e) n
end

def rdSh (i : Nat) : Env → Option D := fun ρ => match ρ[i]? with
  | some (some s) => if s.l = .shr then some s.d else none
  | _ => none
def rdShF (C : Addr) (f : Str) (i : Nat) : Env → Option D := fun ρ => match ρ[i]? with
  | some (some s) => if s.l = .shr then (match s.d with
    | .ins C' fd => if C' = C then fd.lookup f else none
    | _ => none) else none
  | _ => none
structure DPS (X : Cx) (e : Expr) (fd : Env → Option D) : Prop where
  run : ∃ te, PE X e te ∧ ∀ {N : Nw} {H0 H : Hp} {ρ : Env} {σ : St} {L : List Addr} {dd : D}, Sim X.K N H0 ρ σ H L → fd ρ = some dd → isDct dd = true →
    ∃ d u vs ds, RdN H d u ∧ Node dd u vs ds ∧ d ∉ L ∧ (∃ S, Rps X.K S H .shr vs ds []) ∧ ∀ {H2 : Hp} {R : VK}, (∀ b o, b ≠ d → H b = some o → H2 b = some o) → R (.ref d) H2 → te σ H2 R
theorem rp_dctS {K : PySem.W.Frag} {S : Addr → Prop} {H : Hp} {v : V} {dd : D} {F : List Addr} (r : Rp K S H .shr v dd F) (h : isDct dd = true) : ∃ d u vs ds, v = .ref d ∧ RdN H d u ∧ Node dd u vs ds ∧ S d ∧ Rps K S H .shr vs ds [] := by
  cases r with
  | nd0 hn h1 h2 h3 => exact ⟨_, _, _, _, rfl, h1, hn, h2, h3⟩
  | nd1 h0 hn h1 h2 => exact absurd rfl h0
  | _ => cases h
section
variable {X : Cx} {e tg : Expr} {pos apos cpos : Pos} {C : Addr} {f : Str} {t : Tg} {b : EvS} {body : List Stmt} {fd : Env → Option D}
theorem ds_name (i : Nat) {x : Str} (hN : X.N[i]? = some x := by rfl) (hv : Vis X.env.scope x := by first | exact Or.inl rfl | exact Or.inr (Or.inl rfl) | exact Or.inr (Or.inr rfl)) (hd : (x == ("__debug__" : Str)) = false := by decide)
    (hcd : (x == ("__classdict__" : Str)) = false := by decide) : DPS X (.Name x pos) (rdSh i) := by
  refine ⟨_, pe_var hN hv hd hcd, fun {N H0 H ρ σ L dd} sim z hD => ?_⟩
  unfold rdSh at z
  split at z
  · rename_i s es
    split at z
    · rename_i hl
      cases z
      obtain ⟨v, G, ev, rp, _⟩ := sim.sl.get es
      rw [hl] at rp
      obtain ⟨d, u, vs, ds, rfl, hu, hn, hS, hr⟩ := rp_dctS rp hD
      exact ⟨d, u, vs, ds, hu, hn, hS.2 rfl, ⟨_, hr⟩, fun {H2 R} k r => ⟨_, ev, r⟩⟩
    · cases z
  · cases z
theorem ds_fld (i : Nat) {x : Str} {pos' : Pos} (c : Cls X.K C) (n : NoAttr X.K C f) (hN : X.N[i]? = some x := by rfl) (hv : Vis X.env.scope x := by first | exact Or.inl rfl | exact Or.inr (Or.inl rfl) | exact Or.inr (Or.inr rfl)) (hd : (x == ("__debug__" : Str)) = false := by decide)
    (hcd : (x == ("__classdict__" : Str)) = false := by decide) (hb : attributeBase (.Name x pos') f X.env (eval (.Name x pos') X.env) = eval (.Name x pos') X.env := by rfl) : DPS X (.Attribute (.Name x pos') f pos) (rdShF C f i) := by
  refine ⟨_, pe_fld (pe_var hN hv hd hcd) hb, fun {N H0 H ρ σ L dd} sim z hD => ?_⟩
  unfold rdShF at z
  split at z
  · rename_i s es
    split at z
    · rename_i hl
      split at z
      · rename_i C' fd hsd
        split at z
        · rename_i hC
          subst hC
          obtain ⟨v, G, ev, rp, _⟩ := sim.sl.get es
          rw [hsd, hl] at rp
          obtain ⟨a, dx, fv, G2, rfl, h1, h2, h3, h4⟩ := rp.ins_inv
          obtain ⟨u0, G3, e3, rp3, sub⟩ := fld_rp h2 h3 z
          have rp3 : Rp X.K (SR N L s.al false) H .shr u0 dd G3 := rp3
          obtain ⟨d, u, vs, ds, rfl, hu, hn, hS, hr⟩ := rp_dctS rp3 hD
          refine ⟨d, u, vs, ds, hu, hn, hS.2 rfl, ⟨_, hr⟩, fun {H2 R} k r => ⟨_, ev, a, C', dx, fv, _, rfl, k a _ (fun y => ?_) h1, c, n, e3, r⟩⟩
          rcases hu with hu | ⟨⟨od, hu⟩, _⟩
          · rw [y, hu] at h1
            cases h1
            cases hn <;> cases hD
          · rw [y, hu] at h1
            cases h1
        · cases z
      · cases z
    · cases z
  · cases z
def keysD : D → Option (List D)
  | .dk kd => some (kd.map fun p => keyD p.1)
  | .dt kd => some (kd.map fun p => .tup (p.1.map keyD))
  | _ => none
theorem keysD_dct {d : D} {ds : List D} (h : keysD d = some ds) : isDct d = true := by
  cases d <;> first | rfl | cases h
def sForK (fd : Env → Option D) (t : Tg) (b : EvS) : EvS := fun ρ => (fd ρ).bind fun dd => (keysD dd).bind fun ds => forL t b (ds.map fun d => (d, false)) ρ
theorem ps_lockO {st : Stmt} {t : TS} (h : PS X st t) : PS X st (fun D σ H => tLock t D σ H ∨ t D σ H) := ⟨fun pins s σ H D I hw => hw.elim ((ps_lock h).run pins s σ H D I) (h.run pins s σ H D I)⟩
theorem yld_keysK {K : PySem.W.Frag} {N : Nw} {L : List Addr} {H1 : Hp} {d : Addr} {od : Obj} {kv : List (Key × V)} {kd : List (Key × D)} (hx : H1 d = some (.frz od (.dK kv))) (hd : d ∉ L) (hk : kv.map (·.1) = kd.map (·.1)) : Yld K N L H1 (Itk d od kv) ((kd.map fun p => keyD p.1).map fun d => (d, false)) where
  go := fun i d' al H2 e k => ⟨k d _ hx hd, by
    have h1 := (List.getElem?_eq_some_iff.mp e).1
    have h2 := congrArg List.length hk
    simp at h1 h2
    omega⟩
  yld := fun i d' al H2 x H3 e k y => by
    obtain ⟨e3, key, v, e4, e5⟩ := y
    subst e3
    have h2 := congrArg (fun l => l[i]?) hk
    simp only [List.getElem?_map, e4, Option.map_some] at h2
    rw [List.getElem?_map, List.getElem?_map] at e
    cases e6 : kd[i]? with
    | none => rw [e6] at e; cases e
    | some p =>
      rw [e6] at e h2
      cases e
      rw [Option.map_some] at h2
      have h3 : key = p.1 := Option.some.inj h2
      rw [e5, h3]
      exact ⟨Same.refl _, key_rp _⟩
  stop := fun H2 k => ⟨k d _ hx hd, by
    have h2 := congrArg List.length hk
    simp at h2 ⊢
    omega⟩
theorem yld_keysT {K : PySem.W.Frag} {N : Nw} {L : List Addr} {H1 : Hp} {d : Addr} {od : Obj} {kv : List (List Key × V)} {kd : List (List Key × D)} (hx : H1 d = some (.frz od (.dT kv))) (hd : d ∉ L) (hk : kv.map (·.1) = kd.map (·.1)) : Yld K N L H1 (Itkt d od kv) ((kd.map fun p => D.tup (p.1.map keyD)).map fun d => (d, false)) where
  go := fun i d' al H2 e k => ⟨k d _ hx hd, by
    have h1 := (List.getElem?_eq_some_iff.mp e).1
    have h2 := congrArg List.length hk
    simp at h1 h2
    omega⟩
  yld := fun i d' al H2 x H3 e k y => by
    obtain ⟨e3, key, v, q, e4, e5, e7⟩ := y
    subst e3
    have h2 := congrArg (fun l => l[i]?) hk
    simp only [List.getElem?_map, e4, Option.map_some] at h2
    rw [List.getElem?_map, List.getElem?_map] at e
    cases e6 : kd[i]? with
    | none => rw [e6] at e; cases e
    | some p =>
      rw [e6] at e h2
      cases e
      rw [Option.map_some] at h2
      have h3 : key = p.1 := Option.some.inj h2
      rw [e5]
      show Same H3 H3 ∧ Rp K _ H3 .shr (.ref q) (.tup (p.1.map keyD)) []
      rw [← h3]
      exact ⟨Same.refl _, .tup e7 (keys_rp _)⟩
  stop := fun H2 k => ⟨k d _ hx hd, by
    have h2 := congrArg List.length hk
    simp at h2 ⊢
    omega⟩
theorem s_forK (hc : X.calm = true) (h : DPS X e fd) (hg : PGv X tg t) (hb : PSsv X body b) (hp : PassesOwn (model X.prog X.w) X.A X.env X.xe := by exact PassesOwn.never) (hs : ∀ x, foldedSetIterable e X.env x = pure x := by intro _; rfl) : PSv X (.For tg e body [] pos) (sForK fd t b) := by
  obtain ⟨te, pe, run⟩ := h.run
  refine imp_s (ps_lockO (ps_for hp hc (pi_keys pe) hg hb hs)) fun De σ H ⟨N, H0, ρ, L, o, sim, z, q⟩ => ?_
  unfold sForK at z
  obtain ⟨dd, e0, z⟩ := bind_some z
  obtain ⟨ds, e1, z⟩ := bind_some z
  obtain ⟨d, u, vs, es, hu, hn, hd, hrp, go⟩ := run sim e0 (keysD_dct e1)
  cases dd with
  | dk kd =>
    cases e1
    cases hn with
    | dk hk =>
      rename_i kv
      rcases hu with hu | ⟨⟨od, hu⟩, _⟩
      · refine .inl ⟨d, _, hu, trivial, fun od => go (fun b o hb e => by rw [upd_ne hb]; exact e) ⟨d, od, rfl, .inl ⟨kv, upd_same, ?_⟩⟩⟩
        exact for_run (sim.lock hu (.inl ⟨_, rfl⟩) hd) (yld_keysK upd_same hd hk) z (PostS.free sim hu (.inl ⟨_, rfl⟩) hd q)
      · refine .inr (go (fun _ _ _ e => e) ⟨d, od, rfl, .inl ⟨kv, hu, ?_⟩⟩)
        exact for_run sim (yld_keysK hu hd hk) z q
  | dt kd =>
    cases e1
    cases hn with
    | dt hk =>
      rename_i kv
      rcases hu with hu | ⟨⟨od, hu⟩, _⟩
      · refine .inl ⟨d, _, hu, trivial, fun od => go (fun b o hb e => by rw [upd_ne hb]; exact e) ⟨d, od, rfl, .inr ⟨kv, upd_same, ?_⟩⟩⟩
        exact for_run (sim.lock hu (.inr ⟨_, rfl⟩) hd) (yld_keysT upd_same hd hk) z (PostS.free sim hu (.inr ⟨_, rfl⟩) hd q)
      · refine .inr (go (fun _ _ _ e => e) ⟨d, od, rfl, .inr ⟨kv, hu, ?_⟩⟩)
        exact for_run sim (yld_keysT hu hd hk) z q
  | _ => cases e1
end
end Ev

set_option Elab.async false
set_option linter.all false
set_option maxRecDepth 100000

namespace Ev
open PySem PySem.Spec L2
open PyProof.Rows hiding St
section
variable {K : PySem.W.Frag} {H : Hp} {x : Addr} {od : Obj} {u : HO} {N : Nw} {H0 : Hp} {ρ : Env} {σ : St} {L W : List Addr}
theorem SimH.lock (s : SimH K N H0 ρ σ H L W) (hu : H x = some u) (hd : DctO u) (hn : x ∉ W) : SimH K N (upd H x (.frz od u)) ρ σ (upd H x (.frz od u)) L W where
  kp := fun _ _ e _ => e
  nw := fun b e => s.nw b (by
    by_cases q : b = x
    · subst q; rw [upd_same] at e; cases e
    · rw [upd_ne q] at e; exact e)
  nd := s.nd
  ln := s.ln
  mu := fun a m => by rw [upd_ne (fun e => hn (by rw [← e]; exact m))]; exact s.mu a m
  sl := s.sl.lock hu hd fun a m e => hn (by rw [← e]; exact s.sub a m)
  sub := s.sub
  ndl := s.ndl
theorem Post.free {r : Rv} {Q : VK} (hu : H x = some u) (hd : DctO u) (q : Post K N W H r Q) : Post K N W (upd H x (.frz od u)) r fun v H' => H' x = some (.frz od u) ∧ Q v (upd H' x u) := fun v H1 F s n nd rp => by
  have hx := s x _ upd_same
  have nF : ∀ a ∈ F, H a = none ∧ a ≠ x := fun a m => by
    have := n a m
    by_cases e : a = x
    · subst e; rw [upd_same] at this; cases this
    · rw [upd_ne e] at this; exact ⟨this, e⟩
  refine ⟨hx, q v _ F (fun b o e => ?_) (fun a m => (nF a m).1) nd (rp.free hx hd fun a m => (nF a m).2)⟩
  by_cases e2 : b = x
  · subst e2; rw [upd_same]; rw [hu] at e; exact e
  · rw [upd_ne e2]; exact s b o (by rw [upd_ne e2]; exact e)
end

structure DPH (X : Cx) (e : Expr) (fd : Env → Option D) : Prop where
  run : ∃ te, PE X e te ∧ ∀ {N : Nw} {H0 H : Hp} {ρ : Env} {σ : St} {L W : List Addr} {dd : D}, SimH X.K N H0 ρ σ H L W → fd ρ = some dd → isDct dd = true →
    ∃ d u vs ds, RdN H d u ∧ Node dd u vs ds ∧ d ∉ W ∧ (∃ S, Rps X.K S H .shr vs ds []) ∧ ∀ {H2 : Hp} {R : VK}, (∀ b o, b ≠ d → H b = some o → H2 b = some o) → R (.ref d) H2 → te σ H2 R
def itemsD : D → Option (List D) := fun d => (itDK d).or (itDT d)
def eLcS (itD : D → Option (List D)) (fd : Env → Option D) (vs : List Nat) (t : Tg) (c : EvT) (e : EvE) : EvE := fun ρ => (fd ρ).bind fun dd => (itD dd).bind fun ds => (lcL t c e (wipeE vs ρ) (ds.map fun d => (d, false))).bind mkBig
def sForI (itD : D → Option (List D)) (fd : Env → Option D) (t : Tg) (b : EvS) : EvS := fun ρ => (fd ρ).bind fun dd => (itD dd).bind fun ds => forL t b (ds.map fun d => (d, false)) ρ
section
variable {X : Cx} {e tg : Expr} {pos apos cpos tpos : Pos} {C : Addr} {f : Str} {t : Tg} {b : EvS} {body : List Stmt} {fd : Env → Option D} {c : EvT} {fe : EvE} {elt : Expr} {ifs : List Expr} {scope : Scope} {elts : List Expr} {kk : Nat}
theorem dh_name (i : Nat) {x : Str} (hN : X.N[i]? = some x := by rfl) (hv : Vis X.env.scope x := by first | exact Or.inl rfl | exact Or.inr (Or.inl rfl) | exact Or.inr (Or.inr rfl)) (hd : (x == ("__debug__" : Str)) = false := by decide)
    (hcd : (x == ("__classdict__" : Str)) = false := by decide) : DPH X (.Name x pos) (rdSh i) := by
  refine ⟨_, pe_var hN hv hd hcd, fun {N H0 H ρ σ L W dd} sim z hD => ?_⟩
  unfold rdSh at z
  split at z
  · rename_i s es
    split at z
    · rename_i hl
      cases z
      obtain ⟨v, G, ev, rp, _⟩ := sim.sl.get es
      rw [hl] at rp
      obtain ⟨d, u, vs, ds, rfl, hu, hn, hS, hr⟩ := rp_dctS rp hD
      exact ⟨d, u, vs, ds, hu, hn, hS.2 rfl, ⟨_, hr⟩, fun {H2 R} k r => ⟨_, ev, r⟩⟩
    · cases z
  · cases z
theorem dh_fld (i : Nat) {x : Str} {pos' : Pos} (c : Cls X.K C) (n : NoAttr X.K C f) (hN : X.N[i]? = some x := by rfl) (hv : Vis X.env.scope x := by first | exact Or.inl rfl | exact Or.inr (Or.inl rfl) | exact Or.inr (Or.inr rfl)) (hd : (x == ("__debug__" : Str)) = false := by decide)
    (hcd : (x == ("__classdict__" : Str)) = false := by decide) (hb : attributeBase (.Name x pos') f X.env (eval (.Name x pos') X.env) = eval (.Name x pos') X.env := by rfl) : DPH X (.Attribute (.Name x pos') f pos) (rdShF C f i) := by
  refine ⟨_, pe_fld (pe_var hN hv hd hcd) hb, fun {N H0 H ρ σ L W dd} sim z hD => ?_⟩
  unfold rdShF at z
  split at z
  · rename_i s es
    split at z
    · rename_i hl
      split at z
      · rename_i C' fd hsd
        split at z
        · rename_i hC
          subst hC
          obtain ⟨v, G, ev, rp, _⟩ := sim.sl.get es
          rw [hsd, hl] at rp
          obtain ⟨a, dx, fv, G2, rfl, h1, h2, h3, h4⟩ := rp.ins_inv
          obtain ⟨u0, G3, e3, rp3, sub⟩ := fld_rp h2 h3 z
          have rp3 : Rp X.K (SR N W s.al false) H .shr u0 dd G3 := rp3
          obtain ⟨d, u, vs, ds, rfl, hu, hn, hS, hr⟩ := rp_dctS rp3 hD
          refine ⟨d, u, vs, ds, hu, hn, hS.2 rfl, ⟨_, hr⟩, fun {H2 R} k r => ⟨_, ev, a, C', dx, fv, _, rfl, k a _ (fun y => ?_) h1, c, n, e3, r⟩⟩
          rcases hu with hu | ⟨⟨od, hu⟩, _⟩
          · rw [y, hu] at h1
            cases h1
            cases hn <;> cases hD
          · rw [y, hu] at h1
            cases h1
        · cases z
      · cases z
    · cases z
  · cases z
theorem yld_itemsT {K : PySem.W.Frag} {N : Nw} {L : List Addr} {H1 : Hp} {d : Addr} {o : Obj} {kv : List (List Key × V)} {kd : List (List Key × D)} (hd : H1 d = some (.frz o (.dT kv))) (hn : d ∉ L) (hm : ∀ b ∈ L, Mut (H1 b)) (hk : kv.map (·.1) = kd.map (·.1)) (hr : Rps K (fun _ => False) H1 .shr (kv.map (·.2)) (kd.map (·.2)) []) (hi : immAll (kd.map (·.2)) = true) :
    Yld K N L H1 (ItiT d o kv) ((kd.map fun p => D.tup [.tup (p.1.map keyD), p.2]).map fun d => (d, false)) where
  go := fun i d' al H3 e s => by
    refine ⟨s d _ hd hn, ?_⟩
    have := (List.getElem?_eq_some_iff.mp e).1
    have e2 := congrArg List.length hk
    simp at this e2
    omega
  yld := fun i d' al H3 x H4 e s y => by
    obtain ⟨T, k, v, q, e1, rfl, hT, hq, rfl⟩ := y
    rw [List.getElem?_map, List.getElem?_map] at e
    obtain ⟨d2, e2, e3⟩ := Option.map_eq_some_iff.mp e
    obtain ⟨p, e4, rfl⟩ := Option.map_eq_some_iff.mp e2
    cases e3
    have hk1 : k = p.1 := by
      have := congrArg (fun l => l[i]?) hk
      simp only [List.getElem?_map, e1, e4, Option.map_some] at this
      exact Option.some.inj this
    subst hk1
    have sm : Same H3 (upd H3 T (.tup [.ref q, v])) := same_upd hT
    obtain ⟨w, G, e5, rp, _⟩ := hr.get (i := i) (d := p.2) (by rw [List.getElem?_map, e4]; rfl)
    rw [List.getElem?_map, e1] at e5
    cases e5
    have ip := immAll_get hi (i := i) (d := p.2) (by rw [List.getElem?_map, e4]; rfl)
    refine ⟨sm, .tup upd_same (Rps.cons (F := []) (G := []) (.tup (sm q _ hq) (keys_rp _)) (Rps.cons (F := []) (G := []) ?_ .nil))⟩
    have k1 := rp.shr0
    subst k1
    exact ((((rp.mono (S' := fun a => False ∧ a ∉ L) fun _ z => z.elim).kept hm s).same sm).of_imm ip).2
  stop := fun H3 s => ⟨s d _ hd hn, by
    have e2 := congrArg List.length hk
    simp at e2 ⊢
    omega⟩
theorem yld_itemsK {K : PySem.W.Frag} {N : Nw} {L : List Addr} {H1 : Hp} {d : Addr} {o : Obj} {kv : List (Key × V)} {kd : List (Key × D)} (hd : H1 d = some (.frz o (.dK kv))) (hn : d ∉ L) (hm : ∀ b ∈ L, Mut (H1 b)) (hk : kv.map (·.1) = kd.map (·.1)) (hr : Rps K (fun _ => False) H1 .shr (kv.map (·.2)) (kd.map (·.2)) []) (hi : immAll (kd.map (·.2)) = true) :
    Yld K N L H1 (Iti d o kv) ((kd.map fun p => D.tup [keyD p.1, p.2]).map fun d => (d, false)) where
  go := fun i d' al H3 e s => by
    refine ⟨s d _ hd hn, ?_⟩
    have := (List.getElem?_eq_some_iff.mp e).1
    have e2 := congrArg List.length hk
    simp at this e2
    omega
  yld := fun i d' al H3 x H4 e s y => by
    obtain ⟨T, k, v, e1, rfl, hT, rfl⟩ := y
    rw [List.getElem?_map, List.getElem?_map] at e
    obtain ⟨d2, e2, e3⟩ := Option.map_eq_some_iff.mp e
    obtain ⟨p, e4, rfl⟩ := Option.map_eq_some_iff.mp e2
    cases e3
    have hk1 : k = p.1 := by
      have := congrArg (fun l => l[i]?) hk
      simp only [List.getElem?_map, e1, e4, Option.map_some] at this
      exact Option.some.inj this
    subst hk1
    have sm : Same H3 (upd H3 T (.tup [kV p.1, v])) := same_upd hT
    obtain ⟨w, G, e5, rp, _⟩ := hr.get (i := i) (d := p.2) (by rw [List.getElem?_map, e4]; rfl)
    rw [List.getElem?_map, e1] at e5
    cases e5
    have ip := immAll_get hi (i := i) (d := p.2) (by rw [List.getElem?_map, e4]; rfl)
    refine ⟨sm, .tup upd_same (Rps.cons (F := []) (G := []) (key_rp _) (Rps.cons (F := []) (G := []) ?_ .nil))⟩
    have k1 := rp.shr0
    subst k1
    exact ((((rp.mono (S' := fun a => False ∧ a ∉ L) fun _ z => z.elim).kept hm s).same sm).of_imm ip).2
  stop := fun H3 s => ⟨s d _ hd hn, by
    have e2 := congrArg List.length hk
    simp at e2 ⊢
    omega⟩

theorem rps_lock {K : PySem.W.Frag} {S : Addr → Prop} {H : Hp} {d : Addr} {u : HO} {od : Obj} {vs : List V} {ds : List D} (r : Rps K S H .shr vs ds []) (hi : immAll ds = true) (hu : H d = some u) (hd : DctO u) : Rps K (fun _ => False) (upd H d (.frz od u)) .shr vs ds [] :=
  ((r.of_imm (S' := fun _ => False) (l' := .shr) hi).2).lock hu hd fun _ z => nomatch z
theorem lcK_read {te : TE} {vs : List Nat} (run : ∀ {N : Nw} {H0 H : Hp} {ρ : Env} {σ : St} {L W : List Addr} {dd : D}, SimH X.K N H0 ρ σ H L W → fd ρ = some dd → isDct dd = true →
    ∃ d u vs ds, RdN H d u ∧ Node dd u vs ds ∧ d ∉ W ∧ (∃ S, Rps X.K S H .shr vs ds []) ∧ ∀ {H2 : Hp} {R : VK}, (∀ b o, b ≠ d → H b = some o → H2 b = some o) → R (.ref d) H2 → te σ H2 R) (hv : (tgSlots t).all (fun j => decide (j ∈ vs)) = true) {σ : St} {H : Hp} {Q : VK}
    (h : tE X.K (eLcS keysD fd vs t c fe) σ H Q) : tLockE (tLc (iKeys te) (tG X.K t) (tT X.K c) (tE X.K fe) vs) σ H Q ∨ tLc (iKeys te) (tG X.K t) (tT X.K c) (tE X.K fe) vs σ H Q := by
  obtain ⟨N, H0, ρ, L, W, r, sim, z, q⟩ := h
  unfold eLcS at z
  obtain ⟨dd, e0, z⟩ := bind_some z
  obtain ⟨ds, e1, z⟩ := bind_some z
  obtain ⟨rs, e2, e3⟩ := bind_some z
  obtain ⟨d, u, vs, es, hu, hn, hd, hrp, go⟩ := run sim e0 (keysD_dct e1)
  cases dd with
  | dk kd =>
    cases e1
    cases hn with
    | dk hk =>
      rename_i kv
      rcases hu with hu | ⟨⟨od, hu⟩, _⟩
      · refine .inl ⟨d, _, hu, trivial, fun od => go (fun b o hb e => by rw [upd_ne hb]; exact e) ⟨d, od, rfl, .inl ⟨_, upd_same, ?_⟩⟩⟩
        exact lc_core hv (sim.lock hu (.inl ⟨_, rfl⟩) hd) e2 e3 (Post.free hu (.inl ⟨_, rfl⟩) q) (Same.refl _) (yld_keysK upd_same hd hk).s
      · refine .inr (go (fun _ _ _ e => e) ⟨d, od, rfl, .inl ⟨_, hu, ?_⟩⟩)
        exact lc_core hv sim e2 e3 q (Same.refl _) (yld_keysK hu hd hk).s
  | dt kd =>
    cases e1
    cases hn with
    | dt hk =>
      rename_i kv
      rcases hu with hu | ⟨⟨od, hu⟩, _⟩
      · refine .inl ⟨d, _, hu, trivial, fun od => go (fun b o hb e => by rw [upd_ne hb]; exact e) ⟨d, od, rfl, .inr ⟨_, upd_same, ?_⟩⟩⟩
        exact lc_core hv (sim.lock hu (.inr ⟨_, rfl⟩) hd) e2 e3 (Post.free hu (.inr ⟨_, rfl⟩) q) (Same.refl _) (yld_keysT upd_same hd hk).s
      · refine .inr (go (fun _ _ _ e => e) ⟨d, od, rfl, .inr ⟨_, hu, ?_⟩⟩)
        exact lc_core hv sim e2 e3 q (Same.refl _) (yld_keysT hu hd hk).s
  | _ => cases e1
theorem e_lcK (own : List (Str × Nat)) (hc : X.calm = true) (hN : X.N.Nodup) (he : DPH X e fd) (ok : BlkOk X.N X.env.scope scope own)
    (hg : ∀ (s : Shared) (H : Hp) (C : Addr) (cl : List (Str × Addr)) (fp : List Addr), PGv (X.blk s H scope (compEnvC scope cl C X.env) fp) tg t) (ht : ∀ (s : Shared) (H : Hp) (C : Addr) (cl : List (Str × Addr)) (fp : List Addr), PTsv (X.blk s H scope (compEnvC scope cl C X.env) fp) ifs c)
    (hel : ∀ (s : Shared) (H : Hp) (C : Addr) (cl : List (Str × Addr)) (fp : List Addr), PEv (X.blk s H scope (compEnvC scope cl C X.env) fp) elt fe) (hv : (tgSlots t).all (fun j => decide (j ∈ own.map (·.2))) = true := by rfl)
    (hs : ∀ x, foldedSetIterable e X.env x = pure x := by intro _; rfl) : PEv X (.ListComp elt [⟨tg, e, ifs, 0⟩] scope pos) (eLcS keysD fd (own.map (·.2)) t c fe) := by
  obtain ⟨te, pe, run⟩ := he.run
  exact imp_e (pe_lockO (pe_lc (g := tG X.K t) (tt := tT X.K c) (te := tE X.K fe) hc hN (pi_keys pe) ok hg ht hel hs)) fun σ H Q h => lcK_read run hv h
theorem s_setLcK (i : Nat) {y : Str} {py spos : Pos} (own : List (Str × Nat)) (hc : X.calm = true) (hN : X.N.Nodup) (he : DPH X e fd) (ok : BlkOk X.N X.env.scope scope own)
    (hg : ∀ (s : Shared) (H : Hp) (C : Addr) (cl : List (Str × Addr)) (fp : List Addr), PGv (X.blk s H scope (compEnvC scope cl C X.env) fp) tg t) (ht : ∀ (s : Shared) (H : Hp) (C : Addr) (cl : List (Str × Addr)) (fp : List Addr), PTsv (X.blk s H scope (compEnvC scope cl C X.env) fp) ifs c)
    (hel : ∀ (s : Shared) (H : Hp) (C : Addr) (cl : List (Str × Addr)) (fp : List Addr), PEv (X.blk s H scope (compEnvC scope cl C X.env) fp) elt fe) (hsw : swapsWith (.ListComp elt [⟨tg, e, ifs, 0⟩] scope pos) (some (.Name y py)) spos.line X.env = pure true) (hy : X.N[i]? = some y := by rfl) (hyl : X.env.scope.names.lookup y = some .local := by rfl)
    (hv : (tgSlots t).all (fun j => decide (j ∈ own.map (·.2))) = true := by rfl)
    (hs : ∀ x, foldedSetIterable e X.env x = pure x := by intro _; rfl) : PSv X (.Assign [.Name y py] (.ListComp elt [⟨tg, e, ifs, 0⟩] scope pos) spos) (sSet [] i (eLcS keysD fd (own.map (·.2)) t c fe)) := by
  obtain ⟨te, pe, run⟩ := he.run
  refine imp_s (ps_lockO (ps_setLc (g := tG X.K t) (tt := tT X.K c) (te := tE X.K fe) hc hN hy hyl hsw (pi_keys pe) ok hg ht hel hs)) fun D σ H ⟨N, H0, ρ, L, o, sim, z, q⟩ => ?_
  unfold sSet at z
  obtain ⟨r, e1, z⟩ := bind_some z
  split at z
  · rename_i hcc
    rw [Bool.and_eq_true, decide_eq_true_eq] at hcc
    cases z
    refine lcK_read (Q := fun v H1 => D.nx (σ.set i (some v)) H1) run hv (?_)
    refine one sim.h e1 fun v H1 F s1 n1 d1 p1 => ?_
    have hvw : r.vw = false := by simpa using hcc.1
    obtain ⟨L2, sim2, sub2⟩ := sim.set (r := ⟨r.d, r.l, r.al, none⟩) (fun _ z => nomatch z) s1 n1 d1 (p1.mono fun a z => ⟨⟨z.1.1, fun _ => z.1.2 hvw⟩, z.2⟩) hcc.2
    exact q _ H1 L2 sim2 (Frm.same s1 fun b z => (sub2 b z).imp id (n1 b))
  · cases z
theorem s_setLcKB (j i : Nat) {y : Str} {py spos : Pos} (own : List (Str × Nat)) (hc : X.calm = true) (hN : X.N.Nodup) (he : DPH X e fd) (ok : BlkOk X.N X.env.scope scope own)
    (hg : ∀ (s : Shared) (H : Hp) (C : Addr) (cl : List (Str × Addr)) (fp : List Addr), PGv (X.blk s H scope (compEnvC scope cl C X.env) fp) tg t) (ht : ∀ (s : Shared) (H : Hp) (C : Addr) (cl : List (Str × Addr)) (fp : List Addr), PTsv (X.blk s H scope (compEnvC scope cl C X.env) fp) ifs c)
    (hel : ∀ (s : Shared) (H : Hp) (C : Addr) (cl : List (Str × Addr)) (fp : List Addr), PEv (X.blk s H scope (compEnvC scope cl C X.env) fp) elt fe) (hsw : swapsWith (.ListComp elt [⟨tg, e, ifs, 0⟩] scope pos) (some (.Name y py)) spos.line X.env = pure true) (hy : X.N[i]? = some y := by rfl) (hyl : X.env.scope.names.lookup y = some .local := by rfl)
    (hv : (tgSlots t).all (fun j => decide (j ∈ own.map (·.2))) = true := by rfl)
    (hs : ∀ x, foldedSetIterable e X.env x = pure x := by intro _; rfl) : PSv X (.Assign [.Name y py] (.ListComp elt [⟨tg, e, ifs, 0⟩] scope pos) spos) (sSet [] i (eBor j (eLcS keysD fd (own.map (·.2)) t c fe))) := by
  obtain ⟨te, pe, run⟩ := he.run
  refine imp_s (ps_lockO (ps_setLc (g := tG X.K t) (tt := tT X.K c) (te := tE X.K fe) hc hN hy hyl hsw (pi_keys pe) ok hg ht hel hs)) fun D σ H ⟨N, H0, ρ, L, o, sim, z, q⟩ => ?_
  unfold sSet at z
  obtain ⟨r, e1, z⟩ := bind_some z
  split at z
  · rename_i hcc
    rw [Bool.and_eq_true, decide_eq_true_eq] at hcc
    cases z
    refine lcK_read (Q := fun v H1 => D.nx (σ.set i (some v)) H1) run hv (bor_te (i := j) ?_)
    refine one sim.h e1 fun v H1 F s1 n1 d1 p1 => ?_
    have hvw : r.vw = false := by simpa using hcc.1
    obtain ⟨L2, sim2, sub2⟩ := sim.set (r := ⟨r.d, r.l, r.al, none⟩) (fun _ z => nomatch z) s1 n1 d1 (p1.mono fun a z => ⟨⟨z.1.1, fun _ => z.1.2 hvw⟩, z.2⟩) hcc.2
    exact q _ H1 L2 sim2 (Frm.same s1 fun b z => (sub2 b z).imp id (n1 b))
  · cases z
theorem lcIK_read {te : TE} {vs : List Nat} (run : ∀ {N : Nw} {H0 H : Hp} {ρ : Env} {σ : St} {L W : List Addr} {dd : D}, SimH X.K N H0 ρ σ H L W → fd ρ = some dd → isDct dd = true →
    ∃ d u vs ds, RdN H d u ∧ Node dd u vs ds ∧ d ∉ W ∧ (∃ S, Rps X.K S H .shr vs ds []) ∧ ∀ {H2 : Hp} {R : VK}, (∀ b o, b ≠ d → H b = some o → H2 b = some o) → R (.ref d) H2 → te σ H2 R) (hv : (tgSlots t).all (fun j => decide (j ∈ vs)) = true) {σ : St} {H : Hp} {Q : VK}
    (h : tE X.K (eLcS itDK fd vs t c fe) σ H Q) : tLockE (tLc (iItems te) (tG X.K t) (tT X.K c) (tE X.K fe) vs) σ H Q ∨ tLc (iItems te) (tG X.K t) (tT X.K c) (tE X.K fe) vs σ H Q := by
  obtain ⟨N, H0, ρ, L, W, r, sim, z, q⟩ := h
  unfold eLcS at z
  obtain ⟨dd, e0, z⟩ := bind_some z
  obtain ⟨ds, e1, z⟩ := bind_some z
  obtain ⟨rs, e2, e3⟩ := bind_some z
  unfold itDK at e1
  split at e1
  · rename_i kd
    split at e1
    · rename_i hi
      cases e1
      obtain ⟨d, u, vs, es, hu, hn, hd, ⟨S, hrp⟩, go⟩ := run sim e0 rfl
      cases hn with
      | dk hk =>
        rename_i kv
        have mu := sim.mu
        rcases hu with hu | ⟨⟨od, hu⟩, _⟩
        · refine .inl ⟨d, _, hu, trivial, fun od => go (fun b o hb e => by rw [upd_ne hb]; exact e) ⟨d, od, _, rfl, upd_same, ?_⟩⟩
          have Y := yld_itemsK (K := X.K) (N := N) (L := W) (o := od) upd_same hd (fun b m => by rw [upd_ne (fun e => hd (by rw [← e]; exact m))]; exact mu b m) hk (rps_lock hrp hi hu (.inl ⟨_, rfl⟩)) hi
          exact lc_core hv (sim.lock hu (.inl ⟨_, rfl⟩) hd) e2 e3 (Post.free hu (.inl ⟨_, rfl⟩) q) (Same.refl _) Y.s
        · refine .inr (go (fun _ _ _ e => e) ⟨d, od, _, rfl, hu, ?_⟩)
          have Y := yld_itemsK (K := X.K) (N := N) (L := W) hu hd mu hk ((hrp.of_imm (S' := fun _ => False) (l' := .shr) hi).2) hi
          exact lc_core hv sim e2 e3 q (Same.refl _) Y.s
    · cases e1
  · cases e1
theorem e_lcIK (own : List (Str × Nat)) (hc : X.calm = true) (hN : X.N.Nodup) (he : DPH X e fd) (ok : BlkOk X.N X.env.scope scope own)
    (hg : ∀ (s : Shared) (H : Hp) (C : Addr) (cl : List (Str × Addr)) (fp : List Addr), PGv (X.blk s H scope (compEnvC scope cl C X.env) fp) (.Tuple elts kk tpos) t) (ht : ∀ (s : Shared) (H : Hp) (C : Addr) (cl : List (Str × Addr)) (fp : List Addr), PTsv (X.blk s H scope (compEnvC scope cl C X.env) fp) ifs c)
    (hel : ∀ (s : Shared) (H : Hp) (C : Addr) (cl : List (Str × Addr)) (fp : List Addr), PEv (X.blk s H scope (compEnvC scope cl C X.env) fp) elt fe) (hv : (tgSlots t).all (fun j => decide (j ∈ own.map (·.2))) = true := by rfl)
    (hs : ∀ x, foldedSetIterable (.Call (.Attribute e "items" apos) [] [] cpos) X.env x = pure x := by intro _; rfl) (hbase : attributeBase e "items" X.env (eval e X.env) = eval e X.env := by rfl) (hline : (apos.endLine == cpos.line) = true := by rfl) :
    PEv X (.ListComp elt [⟨.Tuple elts kk tpos, .Call (.Attribute e "items" apos) [] [] cpos, ifs, 0⟩] scope pos) (eLcS itDK fd (own.map (·.2)) t c fe) := by
  obtain ⟨te, pe, run⟩ := he.run
  exact imp_e (pe_lockO (pe_lc (g := tG X.K t) (tt := tT X.K c) (te := tE X.K fe) hc hN (pi_items pe hbase hline) ok hg ht hel hs)) fun σ H Q h => lcIK_read run hv h
theorem s_setLcIK (i : Nat) {y : Str} {py spos : Pos} (own : List (Str × Nat)) (hc : X.calm = true) (hN : X.N.Nodup) (he : DPH X e fd) (ok : BlkOk X.N X.env.scope scope own)
    (hg : ∀ (s : Shared) (H : Hp) (C : Addr) (cl : List (Str × Addr)) (fp : List Addr), PGv (X.blk s H scope (compEnvC scope cl C X.env) fp) (.Tuple elts kk tpos) t) (ht : ∀ (s : Shared) (H : Hp) (C : Addr) (cl : List (Str × Addr)) (fp : List Addr), PTsv (X.blk s H scope (compEnvC scope cl C X.env) fp) ifs c)
    (hel : ∀ (s : Shared) (H : Hp) (C : Addr) (cl : List (Str × Addr)) (fp : List Addr), PEv (X.blk s H scope (compEnvC scope cl C X.env) fp) elt fe) (hsw : swapsWith (.ListComp elt [⟨.Tuple elts kk tpos, .Call (.Attribute e "items" apos) [] [] cpos, ifs, 0⟩] scope pos) (some (.Name y py)) spos.line X.env = pure true) (hy : X.N[i]? = some y := by rfl) (hyl : X.env.scope.names.lookup y = some .local := by rfl)
    (hv : (tgSlots t).all (fun j => decide (j ∈ own.map (·.2))) = true := by rfl)
    (hs : ∀ x, foldedSetIterable (.Call (.Attribute e "items" apos) [] [] cpos) X.env x = pure x := by intro _; rfl) (hbase : attributeBase e "items" X.env (eval e X.env) = eval e X.env := by rfl) (hline : (apos.endLine == cpos.line) = true := by rfl) :
    PSv X (.Assign [.Name y py] (.ListComp elt [⟨.Tuple elts kk tpos, .Call (.Attribute e "items" apos) [] [] cpos, ifs, 0⟩] scope pos) spos) (sSet [] i (eLcS itDK fd (own.map (·.2)) t c fe)) := by
  obtain ⟨te, pe, run⟩ := he.run
  refine imp_s (ps_lockO (ps_setLc (g := tG X.K t) (tt := tT X.K c) (te := tE X.K fe) hc hN hy hyl hsw (pi_items pe hbase hline) ok hg ht hel hs)) fun D σ H ⟨N, H0, ρ, L, o, sim, z, q⟩ => ?_
  unfold sSet at z
  obtain ⟨r, e1, z⟩ := bind_some z
  split at z
  · rename_i hcc
    rw [Bool.and_eq_true, decide_eq_true_eq] at hcc
    cases z
    refine lcIK_read (Q := fun v H1 => D.nx (σ.set i (some v)) H1) run hv (?_)
    refine one sim.h e1 fun v H1 F s1 n1 d1 p1 => ?_
    have hvw : r.vw = false := by simpa using hcc.1
    obtain ⟨L2, sim2, sub2⟩ := sim.set (r := ⟨r.d, r.l, r.al, none⟩) (fun _ z => nomatch z) s1 n1 d1 (p1.mono fun a z => ⟨⟨z.1.1, fun _ => z.1.2 hvw⟩, z.2⟩) hcc.2
    exact q _ H1 L2 sim2 (Frm.same s1 fun b z => (sub2 b z).imp id (n1 b))
  · cases z
theorem s_setLcIKB (j i : Nat) {y : Str} {py spos : Pos} (own : List (Str × Nat)) (hc : X.calm = true) (hN : X.N.Nodup) (he : DPH X e fd) (ok : BlkOk X.N X.env.scope scope own)
    (hg : ∀ (s : Shared) (H : Hp) (C : Addr) (cl : List (Str × Addr)) (fp : List Addr), PGv (X.blk s H scope (compEnvC scope cl C X.env) fp) (.Tuple elts kk tpos) t) (ht : ∀ (s : Shared) (H : Hp) (C : Addr) (cl : List (Str × Addr)) (fp : List Addr), PTsv (X.blk s H scope (compEnvC scope cl C X.env) fp) ifs c)
    (hel : ∀ (s : Shared) (H : Hp) (C : Addr) (cl : List (Str × Addr)) (fp : List Addr), PEv (X.blk s H scope (compEnvC scope cl C X.env) fp) elt fe) (hsw : swapsWith (.ListComp elt [⟨.Tuple elts kk tpos, .Call (.Attribute e "items" apos) [] [] cpos, ifs, 0⟩] scope pos) (some (.Name y py)) spos.line X.env = pure true) (hy : X.N[i]? = some y := by rfl) (hyl : X.env.scope.names.lookup y = some .local := by rfl)
    (hv : (tgSlots t).all (fun j => decide (j ∈ own.map (·.2))) = true := by rfl)
    (hs : ∀ x, foldedSetIterable (.Call (.Attribute e "items" apos) [] [] cpos) X.env x = pure x := by intro _; rfl) (hbase : attributeBase e "items" X.env (eval e X.env) = eval e X.env := by rfl) (hline : (apos.endLine == cpos.line) = true := by rfl) :
    PSv X (.Assign [.Name y py] (.ListComp elt [⟨.Tuple elts kk tpos, .Call (.Attribute e "items" apos) [] [] cpos, ifs, 0⟩] scope pos) spos) (sSet [] i (eBor j (eLcS itDK fd (own.map (·.2)) t c fe))) := by
  obtain ⟨te, pe, run⟩ := he.run
  refine imp_s (ps_lockO (ps_setLc (g := tG X.K t) (tt := tT X.K c) (te := tE X.K fe) hc hN hy hyl hsw (pi_items pe hbase hline) ok hg ht hel hs)) fun D σ H ⟨N, H0, ρ, L, o, sim, z, q⟩ => ?_
  unfold sSet at z
  obtain ⟨r, e1, z⟩ := bind_some z
  split at z
  · rename_i hcc
    rw [Bool.and_eq_true, decide_eq_true_eq] at hcc
    cases z
    refine lcIK_read (Q := fun v H1 => D.nx (σ.set i (some v)) H1) run hv (bor_te (i := j) ?_)
    refine one sim.h e1 fun v H1 F s1 n1 d1 p1 => ?_
    have hvw : r.vw = false := by simpa using hcc.1
    obtain ⟨L2, sim2, sub2⟩ := sim.set (r := ⟨r.d, r.l, r.al, none⟩) (fun _ z => nomatch z) s1 n1 d1 (p1.mono fun a z => ⟨⟨z.1.1, fun _ => z.1.2 hvw⟩, z.2⟩) hcc.2
    exact q _ H1 L2 sim2 (Frm.same s1 fun b z => (sub2 b z).imp id (n1 b))
  · cases z
theorem s_forIK (hc : X.calm = true) (h : DPS X e fd) (hg : PGv X (.Tuple elts kk tpos) t) (hb : PSsv X body b) (hp : PassesOwn (model X.prog X.w) X.A X.env X.xe := by exact PassesOwn.never)
    (hs : ∀ x, foldedSetIterable (.Call (.Attribute e "items" apos) [] [] cpos) X.env x = pure x := by intro _; rfl) (hbase : attributeBase e "items" X.env (eval e X.env) = eval e X.env := by rfl) (hline : (apos.endLine == cpos.line) = true := by rfl) :
    PSv X (.For (.Tuple elts kk tpos) (.Call (.Attribute e "items" apos) [] [] cpos) body [] pos) (sForI itDK fd t b) := by
  obtain ⟨te, pe, run⟩ := h.run
  refine imp_s (ps_lockO (ps_for hp hc (pi_items pe hbase hline) hg hb hs)) fun De σ H ⟨N, H0, ρ, L, o, sim, z, q⟩ => ?_
  unfold sForI at z
  obtain ⟨dd, e0, z⟩ := bind_some z
  obtain ⟨ds, e1, z⟩ := bind_some z
  unfold itDK at e1
  split at e1
  · rename_i kd
    split at e1
    · rename_i hi
      cases e1
      obtain ⟨d, u, vs, es, hu, hn, hd, ⟨S, hrp⟩, go⟩ := run sim e0 rfl
      cases hn with
      | dk hk =>
        rename_i kv
        have mu := sim.mu
        rcases hu with hu | ⟨⟨od, hu⟩, _⟩
        · refine .inl ⟨d, _, hu, trivial, fun od => go (fun b o hb e => by rw [upd_ne hb]; exact e) ⟨d, od, _, rfl, upd_same, ?_⟩⟩
          have Y := yld_itemsK (K := X.K) (N := N) (L := L) (o := od) upd_same hd (fun b m => by rw [upd_ne (fun e => hd (by rw [← e]; exact m))]; exact mu b m) hk (rps_lock hrp hi hu (.inl ⟨_, rfl⟩)) hi
          exact for_run (sim.lock hu (.inl ⟨_, rfl⟩) hd) Y z (PostS.free sim hu (.inl ⟨_, rfl⟩) hd q)
        · refine .inr (go (fun _ _ _ e => e) ⟨d, od, _, rfl, hu, ?_⟩)
          have Y := yld_itemsK (K := X.K) (N := N) (L := L) hu hd mu hk ((hrp.of_imm (S' := fun _ => False) (l' := .shr) hi).2) hi
          exact for_run sim Y z q
    · cases e1
  · cases e1
theorem lcIT_read {te : TE} {vs : List Nat} (run : ∀ {N : Nw} {H0 H : Hp} {ρ : Env} {σ : St} {L W : List Addr} {dd : D}, SimH X.K N H0 ρ σ H L W → fd ρ = some dd → isDct dd = true →
    ∃ d u vs ds, RdN H d u ∧ Node dd u vs ds ∧ d ∉ W ∧ (∃ S, Rps X.K S H .shr vs ds []) ∧ ∀ {H2 : Hp} {R : VK}, (∀ b o, b ≠ d → H b = some o → H2 b = some o) → R (.ref d) H2 → te σ H2 R) (hv : (tgSlots t).all (fun j => decide (j ∈ vs)) = true) {σ : St} {H : Hp} {Q : VK}
    (h : tE X.K (eLcS itDT fd vs t c fe) σ H Q) : tLockE (tLc (iItemsT te) (tG X.K t) (tT X.K c) (tE X.K fe) vs) σ H Q ∨ tLc (iItemsT te) (tG X.K t) (tT X.K c) (tE X.K fe) vs σ H Q := by
  obtain ⟨N, H0, ρ, L, W, r, sim, z, q⟩ := h
  unfold eLcS at z
  obtain ⟨dd, e0, z⟩ := bind_some z
  obtain ⟨ds, e1, z⟩ := bind_some z
  obtain ⟨rs, e2, e3⟩ := bind_some z
  unfold itDT at e1
  split at e1
  · rename_i kd
    split at e1
    · rename_i hi
      cases e1
      obtain ⟨d, u, vs, es, hu, hn, hd, ⟨S, hrp⟩, go⟩ := run sim e0 rfl
      cases hn with
      | dt hk =>
        rename_i kv
        have mu := sim.mu
        rcases hu with hu | ⟨⟨od, hu⟩, _⟩
        · refine .inl ⟨d, _, hu, trivial, fun od => go (fun b o hb e => by rw [upd_ne hb]; exact e) ⟨d, od, _, rfl, upd_same, ?_⟩⟩
          have Y := yld_itemsT (K := X.K) (N := N) (L := W) (o := od) upd_same hd (fun b m => by rw [upd_ne (fun e => hd (by rw [← e]; exact m))]; exact mu b m) hk (rps_lock hrp hi hu (.inr ⟨_, rfl⟩)) hi
          exact lc_core hv (sim.lock hu (.inr ⟨_, rfl⟩) hd) e2 e3 (Post.free hu (.inr ⟨_, rfl⟩) q) (Same.refl _) Y.s
        · refine .inr (go (fun _ _ _ e => e) ⟨d, od, _, rfl, hu, ?_⟩)
          have Y := yld_itemsT (K := X.K) (N := N) (L := W) hu hd mu hk ((hrp.of_imm (S' := fun _ => False) (l' := .shr) hi).2) hi
          exact lc_core hv sim e2 e3 q (Same.refl _) Y.s
    · cases e1
  · cases e1
theorem e_lcIT (own : List (Str × Nat)) (hc : X.calm = true) (hN : X.N.Nodup) (he : DPH X e fd) (ok : BlkOk X.N X.env.scope scope own)
    (hg : ∀ (s : Shared) (H : Hp) (C : Addr) (cl : List (Str × Addr)) (fp : List Addr), PGv (X.blk s H scope (compEnvC scope cl C X.env) fp) (.Tuple elts kk tpos) t) (ht : ∀ (s : Shared) (H : Hp) (C : Addr) (cl : List (Str × Addr)) (fp : List Addr), PTsv (X.blk s H scope (compEnvC scope cl C X.env) fp) ifs c)
    (hel : ∀ (s : Shared) (H : Hp) (C : Addr) (cl : List (Str × Addr)) (fp : List Addr), PEv (X.blk s H scope (compEnvC scope cl C X.env) fp) elt fe) (hv : (tgSlots t).all (fun j => decide (j ∈ own.map (·.2))) = true := by rfl)
    (hs : ∀ x, foldedSetIterable (.Call (.Attribute e "items" apos) [] [] cpos) X.env x = pure x := by intro _; rfl) (hbase : attributeBase e "items" X.env (eval e X.env) = eval e X.env := by rfl) (hline : (apos.endLine == cpos.line) = true := by rfl) :
    PEv X (.ListComp elt [⟨.Tuple elts kk tpos, .Call (.Attribute e "items" apos) [] [] cpos, ifs, 0⟩] scope pos) (eLcS itDT fd (own.map (·.2)) t c fe) := by
  obtain ⟨te, pe, run⟩ := he.run
  exact imp_e (pe_lockO (pe_lc (g := tG X.K t) (tt := tT X.K c) (te := tE X.K fe) hc hN (pi_itemsT pe hbase hline) ok hg ht hel hs)) fun σ H Q h => lcIT_read run hv h
theorem s_setLcIT (i : Nat) {y : Str} {py spos : Pos} (own : List (Str × Nat)) (hc : X.calm = true) (hN : X.N.Nodup) (he : DPH X e fd) (ok : BlkOk X.N X.env.scope scope own)
    (hg : ∀ (s : Shared) (H : Hp) (C : Addr) (cl : List (Str × Addr)) (fp : List Addr), PGv (X.blk s H scope (compEnvC scope cl C X.env) fp) (.Tuple elts kk tpos) t) (ht : ∀ (s : Shared) (H : Hp) (C : Addr) (cl : List (Str × Addr)) (fp : List Addr), PTsv (X.blk s H scope (compEnvC scope cl C X.env) fp) ifs c)
    (hel : ∀ (s : Shared) (H : Hp) (C : Addr) (cl : List (Str × Addr)) (fp : List Addr), PEv (X.blk s H scope (compEnvC scope cl C X.env) fp) elt fe) (hsw : swapsWith (.ListComp elt [⟨.Tuple elts kk tpos, .Call (.Attribute e "items" apos) [] [] cpos, ifs, 0⟩] scope pos) (some (.Name y py)) spos.line X.env = pure true) (hy : X.N[i]? = some y := by rfl) (hyl : X.env.scope.names.lookup y = some .local := by rfl)
    (hv : (tgSlots t).all (fun j => decide (j ∈ own.map (·.2))) = true := by rfl)
    (hs : ∀ x, foldedSetIterable (.Call (.Attribute e "items" apos) [] [] cpos) X.env x = pure x := by intro _; rfl) (hbase : attributeBase e "items" X.env (eval e X.env) = eval e X.env := by rfl) (hline : (apos.endLine == cpos.line) = true := by rfl) :
    PSv X (.Assign [.Name y py] (.ListComp elt [⟨.Tuple elts kk tpos, .Call (.Attribute e "items" apos) [] [] cpos, ifs, 0⟩] scope pos) spos) (sSet [] i (eLcS itDT fd (own.map (·.2)) t c fe)) := by
  obtain ⟨te, pe, run⟩ := he.run
  refine imp_s (ps_lockO (ps_setLc (g := tG X.K t) (tt := tT X.K c) (te := tE X.K fe) hc hN hy hyl hsw (pi_itemsT pe hbase hline) ok hg ht hel hs)) fun D σ H ⟨N, H0, ρ, L, o, sim, z, q⟩ => ?_
  unfold sSet at z
  obtain ⟨r, e1, z⟩ := bind_some z
  split at z
  · rename_i hcc
    rw [Bool.and_eq_true, decide_eq_true_eq] at hcc
    cases z
    refine lcIT_read (Q := fun v H1 => D.nx (σ.set i (some v)) H1) run hv (?_)
    refine one sim.h e1 fun v H1 F s1 n1 d1 p1 => ?_
    have hvw : r.vw = false := by simpa using hcc.1
    obtain ⟨L2, sim2, sub2⟩ := sim.set (r := ⟨r.d, r.l, r.al, none⟩) (fun _ z => nomatch z) s1 n1 d1 (p1.mono fun a z => ⟨⟨z.1.1, fun _ => z.1.2 hvw⟩, z.2⟩) hcc.2
    exact q _ H1 L2 sim2 (Frm.same s1 fun b z => (sub2 b z).imp id (n1 b))
  · cases z
theorem s_setLcITB (j i : Nat) {y : Str} {py spos : Pos} (own : List (Str × Nat)) (hc : X.calm = true) (hN : X.N.Nodup) (he : DPH X e fd) (ok : BlkOk X.N X.env.scope scope own)
    (hg : ∀ (s : Shared) (H : Hp) (C : Addr) (cl : List (Str × Addr)) (fp : List Addr), PGv (X.blk s H scope (compEnvC scope cl C X.env) fp) (.Tuple elts kk tpos) t) (ht : ∀ (s : Shared) (H : Hp) (C : Addr) (cl : List (Str × Addr)) (fp : List Addr), PTsv (X.blk s H scope (compEnvC scope cl C X.env) fp) ifs c)
    (hel : ∀ (s : Shared) (H : Hp) (C : Addr) (cl : List (Str × Addr)) (fp : List Addr), PEv (X.blk s H scope (compEnvC scope cl C X.env) fp) elt fe) (hsw : swapsWith (.ListComp elt [⟨.Tuple elts kk tpos, .Call (.Attribute e "items" apos) [] [] cpos, ifs, 0⟩] scope pos) (some (.Name y py)) spos.line X.env = pure true) (hy : X.N[i]? = some y := by rfl) (hyl : X.env.scope.names.lookup y = some .local := by rfl)
    (hv : (tgSlots t).all (fun j => decide (j ∈ own.map (·.2))) = true := by rfl)
    (hs : ∀ x, foldedSetIterable (.Call (.Attribute e "items" apos) [] [] cpos) X.env x = pure x := by intro _; rfl) (hbase : attributeBase e "items" X.env (eval e X.env) = eval e X.env := by rfl) (hline : (apos.endLine == cpos.line) = true := by rfl) :
    PSv X (.Assign [.Name y py] (.ListComp elt [⟨.Tuple elts kk tpos, .Call (.Attribute e "items" apos) [] [] cpos, ifs, 0⟩] scope pos) spos) (sSet [] i (eBor j (eLcS itDT fd (own.map (·.2)) t c fe))) := by
  obtain ⟨te, pe, run⟩ := he.run
  refine imp_s (ps_lockO (ps_setLc (g := tG X.K t) (tt := tT X.K c) (te := tE X.K fe) hc hN hy hyl hsw (pi_itemsT pe hbase hline) ok hg ht hel hs)) fun D σ H ⟨N, H0, ρ, L, o, sim, z, q⟩ => ?_
  unfold sSet at z
  obtain ⟨r, e1, z⟩ := bind_some z
  split at z
  · rename_i hcc
    rw [Bool.and_eq_true, decide_eq_true_eq] at hcc
    cases z
    refine lcIT_read (Q := fun v H1 => D.nx (σ.set i (some v)) H1) run hv (bor_te (i := j) ?_)
    refine one sim.h e1 fun v H1 F s1 n1 d1 p1 => ?_
    have hvw : r.vw = false := by simpa using hcc.1
    obtain ⟨L2, sim2, sub2⟩ := sim.set (r := ⟨r.d, r.l, r.al, none⟩) (fun _ z => nomatch z) s1 n1 d1 (p1.mono fun a z => ⟨⟨z.1.1, fun _ => z.1.2 hvw⟩, z.2⟩) hcc.2
    exact q _ H1 L2 sim2 (Frm.same s1 fun b z => (sub2 b z).imp id (n1 b))
  · cases z
theorem s_forIT (hc : X.calm = true) (h : DPS X e fd) (hg : PGv X (.Tuple elts kk tpos) t) (hb : PSsv X body b) (hp : PassesOwn (model X.prog X.w) X.A X.env X.xe := by exact PassesOwn.never)
    (hs : ∀ x, foldedSetIterable (.Call (.Attribute e "items" apos) [] [] cpos) X.env x = pure x := by intro _; rfl) (hbase : attributeBase e "items" X.env (eval e X.env) = eval e X.env := by rfl) (hline : (apos.endLine == cpos.line) = true := by rfl) :
    PSv X (.For (.Tuple elts kk tpos) (.Call (.Attribute e "items" apos) [] [] cpos) body [] pos) (sForI itDT fd t b) := by
  obtain ⟨te, pe, run⟩ := h.run
  refine imp_s (ps_lockO (ps_for hp hc (pi_itemsT pe hbase hline) hg hb hs)) fun De σ H ⟨N, H0, ρ, L, o, sim, z, q⟩ => ?_
  unfold sForI at z
  obtain ⟨dd, e0, z⟩ := bind_some z
  obtain ⟨ds, e1, z⟩ := bind_some z
  unfold itDT at e1
  split at e1
  · rename_i kd
    split at e1
    · rename_i hi
      cases e1
      obtain ⟨d, u, vs, es, hu, hn, hd, ⟨S, hrp⟩, go⟩ := run sim e0 rfl
      cases hn with
      | dt hk =>
        rename_i kv
        have mu := sim.mu
        rcases hu with hu | ⟨⟨od, hu⟩, _⟩
        · refine .inl ⟨d, _, hu, trivial, fun od => go (fun b o hb e => by rw [upd_ne hb]; exact e) ⟨d, od, _, rfl, upd_same, ?_⟩⟩
          have Y := yld_itemsT (K := X.K) (N := N) (L := L) (o := od) upd_same hd (fun b m => by rw [upd_ne (fun e => hd (by rw [← e]; exact m))]; exact mu b m) hk (rps_lock hrp hi hu (.inr ⟨_, rfl⟩)) hi
          exact for_run (sim.lock hu (.inr ⟨_, rfl⟩) hd) Y z (PostS.free sim hu (.inr ⟨_, rfl⟩) hd q)
        · refine .inr (go (fun _ _ _ e => e) ⟨d, od, _, rfl, hu, ?_⟩)
          have Y := yld_itemsT (K := X.K) (N := N) (L := L) hu hd mu hk ((hrp.of_imm (S' := fun _ => False) (l' := .shr) hi).2) hi
          exact for_run sim Y z q
    · cases e1
  · cases e1
end
end Ev

set_option Elab.async false
set_option linter.all false
set_option maxRecDepth 100000

namespace Ev
open PySem PySem.Spec L2
open PyProof.Rows hiding St

section
variable {X : Cx}
def rSetdT : V → List V → Hp → VK → Prop := fun x xs H Q => ∃ (a : Addr) (kvs : List (List L2.Key × V)) (k : List L2.Key) (b : Addr) (d : V), x = .ref a ∧ xs = [.ref b, d] ∧ H a = some (.dT kvs) ∧ H b = some (.tup (k.map kV)) ∧ kvs.length < sizeLine ∧
  (∀ v, valV kvs k = some v → Q v H) ∧ (valV kvs k = none → Q d (upd H a (.dT (putK kvs k d))))
theorem mt_setdT (hu : X.A.units + 1 < cLine) : MtR X "dict.setdefault" rSetdT := by
  intro pins s σ H x xs v us Q I rx rxs h
  obtain ⟨a, kvs, k, b, d, rfl, rfl, ha, hb, hlen, q1, q2⟩ := h
  cases rx
  obtain ⟨u1, u2, rfl, r1, r2⟩ := rxs.two
  cases r1
  obtain ⟨z, hd, xs', rel, dd⟩ := dt_of I.hok ha
  have hz : xs'.length ≤ sizeLine := by rw [← Paired.length rel]; exact z
  refine call_setdefault_heap (hsz := hz) (tupleKind_room_in1 hu) (key_of I.hok hb) hd dd (fun p hp => ?_) fun hn h' dd' hs => ?_
  · have r := rel.val k
    rw [hp] at r
    obtain ⟨v0, ev, rv⟩ : ∃ v0, valV kvs k = some v0 ∧ RelV v0 p.2 := by
      cases ev : valV kvs k with
      | none =>
        rw [ev] at r
        exact (show False from r).elim
      | some v0 =>
        rw [ev] at r
        exact ⟨v0, rfl, r⟩
    show EP X pins σ Q p.2 _
    exact ⟨v0, H, I.tok _, rv, q1 v0 ev⟩
  · have r := rel.val k
    rw [hn] at r
    have e : valV kvs k = none := by
      cases ev : valV kvs k with
      | none => rfl
      | some v0 =>
        rw [ev] at r
        exact (show False from r).elim
    have hl : (putK kvs k d).length ≤ sizeLine := by have := length_putK kvs k d; omega
    obtain ⟨q, es, ep, hq, h2, h3, h4, _, h5⟩ := dd'
    refine ⟨d, upd H a (.dT (putK kvs k d)), ?_, r2, q2 e⟩
    refine d_write I (by rw [ha]; exact True.intro) hs ⟨q, hq⟩ ⟨hl, hd, _, (rel.put k hb r2).keeps fun c ys ec => ?_, q, es, ep, hq, h2, h3, h4, h5⟩
    rw [upd_ne (ne_of ec ha (fun z => nomatch z))]
    exact ec
def rPopT1 : V → List V → Hp → VK → Prop := fun x xs H Q => ∃ (a : Addr) (kvs : List (List L2.Key × V)) (k : List L2.Key) (b : Addr) (v : V), x = .ref a ∧ xs = [.ref b] ∧ H a = some (.dT kvs) ∧ H b = some (.tup (k.map kV)) ∧
  valV kvs k = some v ∧ Q v (upd H a (.dT (dropK kvs k)))
theorem mt_popT1 (hu : X.A.units + 1 < cLine) : MtR X "dict.pop" rPopT1 := by
  intro pins s σ H x xs v us Q I rx rxs h
  obtain ⟨a, kvs, k, b, v0, rfl, rfl, ha, hb, ev, q1⟩ := h
  cases rx
  obtain ⟨u1, rfl, r1⟩ := rxs.one
  cases r1
  obtain ⟨z, hd, xs', rel, dd⟩ := dt_of I.hok ha
  have hz : xs'.length ≤ sizeLine := by rw [← Paired.length rel]; exact z
  have r := rel.val k
  rw [ev] at r
  cases hp : atKey xs' k with
  | none =>
    rw [hp] at r
    exact (show False from r).elim
  | some p =>
    rw [hp] at r
    refine call_pop_heap (more := []) (hsz := hz) (.inl rfl) (PySem.F.args_dict_pop_2 _ _) (tupleKind_room_in1 hu) (key_of I.hok hb) hd dd hp fun h' dd' hs => ?_
    obtain ⟨o, es, ep, hq, h2, h3, h4, _, h5⟩ := dd'
    have I2 : Inv X pins σ (upd H a (.dT (dropK kvs k))) { s with heap := h', toks := s.toks + (tupleKind (mixKind X.prog X.w)).draws k } :=
      d_write I (by rw [ha]; exact True.intro) hs ⟨o, hq⟩ ⟨Nat.le_trans (dropK_le kvs k) z, hd, _, (DX.KT_drop k rel).keeps (fun c ys ec => (by rw [upd_ne (ne_of ec ha (fun z => nomatch z))]; exact ec)), o, es, ep, hq, h2, h3, h4, h5⟩
    exact ⟨v0, _, I2, r, q1⟩
end

section
variable {K : PySem.W.Frag} {S : Addr → Prop} {H : Hp} {l : Lv} {κ : Type} [DecidableEq κ]
theorem ddrop_rps {k : κ} : ∀ {kv : List (κ × V)} {kd : List (κ × D)} {F : List Addr}, kv.map (·.1) = kd.map (·.1) → Rps K S H l (kv.map (·.2)) (kd.map (·.2)) F → F.Nodup →
    (dropK kv k).map (·.1) = (ddrop kd k).map (·.1) ∧ ∃ F', Rps K S H l ((dropK kv k).map (·.2)) ((ddrop kd k).map (·.2)) F' ∧ (∀ b ∈ F', b ∈ F) ∧ F'.Nodup
  | [], [], F, e, r, nd => ⟨rfl, F, r, fun _ z => z, nd⟩
  | [], _ :: _, _, e, _, _ => by cases e
  | _ :: _, [], _, e, _, _ => by cases e
  | q :: kv, q' :: kd, F, e, r, nd => by
    have e1 : q.1 = q'.1 := by have := congrArg List.head? e; simpa using this
    have e2 : kv.map (·.1) = kd.map (·.1) := by have := congrArg List.tail e; simpa using this
    obtain ⟨k1, v1⟩ := q
    obtain ⟨k2, d2⟩ := q'
    dsimp only at e1
    subst e1
    have r : Rps K S H l (v1 :: kv.map (·.2)) (d2 :: kd.map (·.2)) F := r
    cases r with
    | cons h1 h2 =>
      rename_i F1 G1
      rw [List.nodup_append] at nd
      obtain ⟨i1, F', i2, i3, i4⟩ := ddrop_rps (k := k) e2 h2 nd.2.1
      by_cases hk : k1 = k
      · refine ⟨?_, F', ?_, fun b z => List.mem_append_right _ (i3 b z), i4⟩
        · simpa [dropK, ddrop, hk] using i1
        · simpa [dropK, ddrop, hk] using i2
      · refine ⟨?_, F1 ++ F', ?_, fun b z => ?_, ?_⟩
        · simpa [dropK, ddrop, hk] using i1
        · have := Rps.cons h1 i2
          simpa [dropK, ddrop, hk] using this
        · rcases List.mem_append.mp z with z | z
          · exact List.mem_append_left _ z
          · exact List.mem_append_right _ (i3 b z)
        · rw [List.nodup_append]
          exact ⟨nd.1, i4, fun b hb c hc y => nd.2.2 b hb c (i3 c hc) y⟩
end


def sSetdT (i : Nat) (fk fv : EvE) : EvS := fun ρ => match ρ[i]? with
  | some (some s) => match s.d with
    | .dt kd => (fk ρ).bind fun y => (fv ρ).bind fun r => match y.d with
      | .tup ks => (keysOf ks).bind fun k => if s.l = .full ∧ kd.length < 1000000 ∧ imm r.d = true then some (.nx (if dhas kd k = true then ρ else ρ.set i (some ⟨.dt (dput kd k r.d), .full, s.al || false, s.pn⟩))) else none
      | _ => none
    | _ => none
  | _ => none

def sPopT (i : Nat) (fk : EvE) : EvS := fun ρ => match ρ[i]? with
  | some (some s) => match s.d with
    | .dt kd => (fk ρ).bind fun y => match y.d with
      | .tup ks => (keysOf ks).bind fun k => if s.l = .full ∧ dhas kd k = true then some (.nx (ρ.set i (some ⟨.dt (ddrop kd k), .full, s.al || false, s.pn⟩))) else none
      | _ => none
    | _ => none
  | _ => none
section
variable {X : Cx} {e e2 : Expr} {fk fv : EvE} {pos apos cpos npos : Pos} {x : Str}
theorem s_setdT (i : Nat) (hu : X.A.units + 65 < cLine) (hk : PEv X e fk) (hv : PEv X e2 fv)
    (hN : X.N[i]? = some x := by rfl) (hvs : Vis X.env.scope x := by first | exact Or.inl rfl | exact Or.inr (Or.inl rfl) | exact Or.inr (Or.inr rfl)) (hd : (x == ("__debug__" : Str)) = false := by decide) (hcd : (x == ("__classdict__" : Str)) = false := by decide)
    (hsw : swapsWith (.Call (.Attribute (.Name x npos) "setdefault" apos) [e, e2] [] cpos) none pos.line X.env = pure false := by rfl)
    (hbase : attributeBase (.Name x npos) "setdefault" X.env (eval (.Name x npos) X.env) = eval (.Name x npos) X.env := by rfl)
    (hfew : ((backTo cpos (starEach [e, e2] X.env)).all (fun x => !x.1) && (backToKw cpos (keywordEach [] X.env)).all (fun x => x.1.isSome)
      && decide ([e, e2].length + ([] : List Keyword).length + (if ([] : List Keyword).isEmpty then 0 else 1) < 30)) = true := by rfl)
    (hline : (apos.endLine == cpos.line) = true := by rfl) (hs : starEach [e, e2] X.env = (false, eval e X.env) :: starEach [e2] X.env := by rfl) (hs2 : starEach [e2] X.env = (false, eval e2 X.env) :: starEach [] X.env := by rfl) (hplain : (backTo cpos (starEach [e2] X.env)).any (·.1) = false := by rfl) :
    PSv X (.Expr (.Call (.Attribute (.Name x npos) "setdefault" apos) [e, e2] [] cpos) pos) (sSetdT i fk fv) := by
  refine imp_s (ps_expr (pe_bm PySem.F.plainAttrs_dict PySem.F.slot_dict_setdefault PySem.F.type_dict_setdefault (mt_setdT (by omega)) (pe_var hN hvs hd hcd) (pa_cons hk (pa_cons hv pa_nil hs2) hs) hbase hfew hline hs hplain) hsw) fun D σ H ⟨N, H0, ρ, L, o, sim, z, q⟩ => ?_
  unfold sSetdT at z
  split at z
  · rename_i s es
    split at z
    · rename_i kd hd
      obtain ⟨y, e1, z⟩ := bind_some z
      obtain ⟨r, e2', z⟩ := bind_some z
      split at z
      · rename_i ks hy
        obtain ⟨k, e3, z⟩ := bind_some z
        split at z
        · rename_i hc
          cases z
          obtain ⟨hl, hlen, hi⟩ := hc
          obtain ⟨v0, a, o, vs, ds, F, ev, w2, ha, hnd, ⟨S0, hx⟩, go⟩ := sim.store (p := []) (e := .dt kd) es hl (by rw [← hd]; rfl) rfl
          cases w2
          cases hnd with
          | dt ek =>
            rename_i kv
            refine ⟨.ref a, ev, .inr (.inr (.inl ⟨rfl, .inr ⟨kv, ha⟩⟩)), one sim.h e1 fun ky H1 T s1 n1 d1 p1 => ?_⟩
            have hold := sim.h.hold s1 n1 d1 p1.own_mut
            refine one hold e2' fun w H2 T2 s2 n2 d2 p2 => ?_
            have sall : Same H H2 := s1.trans s2
            rw [hy] at p1
            obtain ⟨c, ws, rfl, h5, h6⟩ := p1.tup_inv
            have hkk := h6.keys e3
            subst hkk
            have rw0 : ∀ {S : Addr → Prop} {H' : Hp} {l' : Lv}, Same H2 H' → Rp X.K S H' l' w r.d [] := fun sm => ((p2.same sm).of_imm hi).2
            have hlen' : kv.length < sizeLine := by
              have := congrArg List.length ek
              rw [List.length_map, List.length_map] at this
              rw [this, sizeLine_eq]
              omega
            have hh := has_keys ek k
            refine ⟨a, kv, k, c, w, rfl, rfl, sall _ _ ha, s2 _ _ h5, hlen', fun v' hv' => ?_, fun hn => ?_⟩
            · rw [hv'] at hh
              have hh : dhas kd k = true := hh.symm
              rw [if_pos hh] at q
              exact q σ H2 L (sim.same sall) (Frm.same sall fun b z => .inl z)
            · rw [hn] at hh
              have hh : dhas kd k = false := hh.symm
              rw [if_neg (by rw [hh]; exact Bool.false_ne_true)] at q
              obtain ⟨L', sim', fr⟩ := go (H1 := H2) (w := w) (dw := r.d) (al := false) (T := []) (e' := .dt (dput kd k r.d)) (o' := .dT (putK kv k w)) sall (fun _ z => nomatch z) .nil (rw0 (Same.refl H2)) trivial (fun r1 r2 nd => by
                rw [List.append_nil] at nd
                obtain ⟨i1, F', i2, i3, i4⟩ := dput_rps (k := k) r2 ek r1 nd
                exact ⟨_, _, F', .dt i1, i2, fun b z => by simpa using i3 b z, i4⟩)
              exact q _ _ L' sim' fr
        · cases z
      · cases z
    · cases z
  · cases z
theorem s_popT (i : Nat) (hu : X.A.units + 65 < cLine) (hk : PEv X e fk)
    (hN : X.N[i]? = some x := by rfl) (hvs : Vis X.env.scope x := by first | exact Or.inl rfl | exact Or.inr (Or.inl rfl) | exact Or.inr (Or.inr rfl)) (hd : (x == ("__debug__" : Str)) = false := by decide) (hcd : (x == ("__classdict__" : Str)) = false := by decide)
    (hsw : swapsWith (.Call (.Attribute (.Name x npos) "pop" apos) [e] [] cpos) none pos.line X.env = pure false := by rfl)
    (hbase : attributeBase (.Name x npos) "pop" X.env (eval (.Name x npos) X.env) = eval (.Name x npos) X.env := by rfl)
    (hfew : ((backTo cpos (starEach [e] X.env)).all (fun x => !x.1) && (backToKw cpos (keywordEach [] X.env)).all (fun x => x.1.isSome)
      && decide ([e].length + ([] : List Keyword).length + (if ([] : List Keyword).isEmpty then 0 else 1) < 30)) = true := by rfl)
    (hline : (apos.endLine == cpos.line) = true := by rfl) (hs : starEach [e] X.env = (false, eval e X.env) :: starEach [] X.env := by rfl) (hplain : (backTo cpos (starEach [] X.env)).any (·.1) = false := by rfl) :
    PSv X (.Expr (.Call (.Attribute (.Name x npos) "pop" apos) [e] [] cpos) pos) (sPopT i fk) := by
  refine imp_s (ps_expr (pe_bm PySem.F.plainAttrs_dict PySem.F.slot_dict_pop PySem.F.type_dict_pop (mt_popT1 (by omega)) (pe_var hN hvs hd hcd) (pa_cons hk pa_nil hs) hbase hfew hline hs hplain) hsw) fun D σ H ⟨N, H0, ρ, L, o, sim, z, q⟩ => ?_
  unfold sPopT at z
  split at z
  · rename_i s es
    split at z
    · rename_i kd hd
      obtain ⟨y, e1, z⟩ := bind_some z
      split at z
      · rename_i ks hy
        obtain ⟨k, e3, z⟩ := bind_some z
        split at z
        · rename_i hc
          cases z
          obtain ⟨hl, hhas⟩ := hc
          obtain ⟨v0, a, o, vs, ds, F, ev, w2, ha, hnd, ⟨S0, hx⟩, go⟩ := sim.store (p := []) (e := .dt kd) es hl (by rw [← hd]; rfl) rfl
          cases w2
          cases hnd with
          | dt ek =>
            rename_i kv
            refine ⟨.ref a, ev, .inr (.inr (.inl ⟨rfl, .inr ⟨kv, ha⟩⟩)), one sim.h e1 fun ky H1 T s1 n1 d1 p1 => ?_⟩
            rw [hy] at p1
            obtain ⟨c, ws, rfl, h5, h6⟩ := p1.tup_inv
            have hkk := h6.keys e3
            subst hkk
            have hh := has_keys ek k
            rw [hhas] at hh
            obtain ⟨v', ev'⟩ := Option.isSome_iff_exists.mp hh
            refine ⟨a, kv, k, c, v', rfl, rfl, s1 _ _ ha, h5, ev', ?_⟩
            obtain ⟨L', sim', fr⟩ := go (H1 := H1) (w := .non) (dw := .non) (al := false) (T := []) (e' := .dt (ddrop kd k)) (o' := .dT (dropK kv k)) s1 (fun _ z => nomatch z) .nil .non trivial (fun r1 r2 nd => by
              rw [List.append_nil] at nd
              obtain ⟨i1, F', i2, i3, i4⟩ := ddrop_rps (k := k) ek r1 nd
              exact ⟨_, _, F', .dt i1, i2, fun b z => by simpa using i3 b z, i4⟩)
            exact q _ _ L' sim' fr
        · cases z
      · cases z
    · cases z
  · cases z
end
end Ev

set_option Elab.async false
set_option linter.all false
set_option maxRecDepth 100000

namespace Ev
open PySem PySem.Spec L2
open PyProof.Rows hiding St

section
variable {κ : Type} [DecidableEq κ]
theorem key_at : ∀ {kv : List (κ × V)} {kd : List (κ × D)} {k : κ} {n : Nat}, kv.map (·.1) = kd.map (·.1) → (kd.findIdx? fun q => decide (q.1 = k)) = some n → ∃ v, valV kv k = some v ∧ (kv.map (·.2))[n]? = some v
  | [], [], k, n, _, h => by simp at h
  | [], _ :: _, k, n, e, _ => by cases e
  | _ :: _, [], k, n, e, _ => by cases e
  | p :: kv, p' :: kd, k, n, e, h => by
    have e1 : p.1 = p'.1 := by have := congrArg List.head? e; simpa using this
    have e2 : kv.map (·.1) = kd.map (·.1) := by have := congrArg List.tail e; simpa using this
    rw [List.findIdx?_cons] at h
    by_cases hk : p.1 = k
    · have hk' : p'.1 = k := e1.symm.trans hk
      simp [hk'] at h
      subst h
      exact ⟨p.2, valV_pos hk, rfl⟩
    · have hk' : ¬ p'.1 = k := fun z => hk (e1.trans z)
      simp [hk'] at h
      obtain ⟨j', hj, rfl⟩ := h
      obtain ⟨v, q1, q2⟩ := key_at e2 (by simpa using hj)
      exact ⟨v, by rw [valV_neg hk]; exact q1, by simpa using q2⟩
theorem key_no : ∀ {kd : List (κ × D)} {k : κ}, (kd.findIdx? fun q => decide (q.1 = k)) = none → dhas kd k = false
  | kd, k, h => by
    unfold dhas
    rw [List.findIdx?_eq_none_iff] at h
    rw [List.any_eq_false]
    intro x hx
    have := h x hx
    simpa using this
end
def sda (kd : List (Key × D)) (k : Key) (d : D) : Option (List (Key × D)) := match kd.findIdx? (fun q => decide (q.1 = k)) with
  | some n => match ((kd.map fun q => q.2)[n]? : Option D) with
    | some (.lst ds) => if ds.length ≤ 1000000 then some (setSnd kd n (.lst (ds ++ [d]))) else none
    | _ => none
  | none => some (kd ++ [(k, .lst [d])])

def sSDA (i : Nat) (fk : EvE) (j : Nat) : EvS := fun ρ => match ρ[i]? with
  | some (some s) => match s.d with
    | .dk kd => (fk ρ).bind fun y => (keyOf y.d).bind fun k => match ρ[j]? with
      | some (some r) => if s.l = .full ∧ imm r.d = true ∧ kd.length < 1000000 then (sda kd k r.d).map fun kd' => .nx (ρ.set i (some ⟨.dk kd', .full, s.al || false, s.pn⟩)) else none
      | _ => none
    | _ => none
  | _ => none
section
variable {X : Cx} {e : Expr} {fk : EvE} {pos apos cpos npos apos2 cpos2 npos2 lpos : Pos} {x x2 : Str}
theorem s_sda (i j : Nat) (hk : PEv X e fk)
    (hN : X.N[i]? = some x := by rfl) (hvs : Vis X.env.scope x := by first | exact Or.inl rfl | exact Or.inr (Or.inl rfl) | exact Or.inr (Or.inr rfl)) (hd : (x == ("__debug__" : Str)) = false := by decide) (hcd : (x == ("__classdict__" : Str)) = false := by decide)
    (hN2 : X.N[j]? = some x2 := by rfl) (hvs2 : Vis X.env.scope x2 := by first | exact Or.inl rfl | exact Or.inr (Or.inl rfl) | exact Or.inr (Or.inr rfl)) (hd2 : (x2 == ("__debug__" : Str)) = false := by decide) (hcd2 : (x2 == ("__classdict__" : Str)) = false := by decide)
    (m : M2 X (.Name x npos) "setdefault" apos e (.List [] lpos) cpos := by exact ⟨rfl, rfl, rfl, rfl⟩)
    (hsw : swapsWith (.Call (.Attribute (.Call (.Attribute (.Name x npos) "setdefault" apos) [e, .List [] lpos] [] cpos) "append" apos2) [.Name x2 npos2] [] cpos2) none pos.line X.env = pure false := by rfl)
    (hbase : attributeBase (.Call (.Attribute (.Name x npos) "setdefault" apos) [e, .List [] lpos] [] cpos) "append" X.env (eval (.Call (.Attribute (.Name x npos) "setdefault" apos) [e, .List [] lpos] [] cpos) X.env) = eval (.Call (.Attribute (.Name x npos) "setdefault" apos) [e, .List [] lpos] [] cpos) X.env := by rfl)
    (hfew : ((backTo cpos2 (starEach [.Name x2 npos2] X.env)).all (fun x => !x.1) && (backToKw cpos2 (keywordEach [] X.env)).all (fun x => x.1.isSome)
      && decide ([Expr.Name x2 npos2].length + ([] : List Keyword).length + (if ([] : List Keyword).isEmpty then 0 else 1) < 30)) = true := by rfl)
    (hline : (apos2.endLine == cpos2.line) = true := by rfl) (hs : starEach [.Name x2 npos2] X.env = (false, eval (.Name x2 npos2) X.env) :: starEach [] X.env := by rfl) (hplain : (backTo cpos2 (starEach [] X.env)).any (·.1) = false := by rfl) :
    PSv X (.Expr (.Call (.Attribute (.Call (.Attribute (.Name x npos) "setdefault" apos) [e, .List [] lpos] [] cpos) "append" apos2) [.Name x2 npos2] [] cpos2) pos) (sSDA i fk j) := by
  obtain ⟨r0, hm, hr⟩ := (l_app (X := X)).ok
  refine imp_s (ps_expr (pe_bm PySem.F.plainAttrs_list PySem.F.slot_list_append PySem.F.type_list_append hm (pe_dsetd (pe_var hN hvs hd hcd) hk (pe_lst pa_nil) m) (pa_cons (pe_var hN2 hvs2 hd2 hcd2) pa_nil hs) hbase hfew hline hs hplain) hsw) fun D σ H ⟨N, H0, ρ, L, o, sim, z, q⟩ => ?_
  unfold sSDA at z
  split at z
  · rename_i s es
    split at z
    · rename_i kd hd
      obtain ⟨y, e1, z⟩ := bind_some z
      obtain ⟨k, e3, z⟩ := bind_some z
      split at z
      · rename_i r er
        split at z
        · rename_i hc
          obtain ⟨hl, hi, hlen⟩ := hc
          obtain ⟨kd', e4, z⟩ := Option.map_eq_some_iff.mp z
          subst z
          obtain ⟨v0, a, o, vs, ds, F, ev, w2, ha, hnd, ⟨S0, hx⟩, go⟩ := sim.store (p := []) (e := .dk kd) es hl (by rw [← hd]; rfl) rfl
          cases w2
          obtain ⟨vj, Gj, evj, rpj, _⟩ := sim.sl.get er
          have rj0 : ∀ {S : Addr → Prop} {H' : Hp} {l' : Lv}, Same H H' → Rp X.K S H' l' vj r.d [] := fun sm => ((rpj.same sm).of_imm hi).2
          cases hnd with
          | dk ek =>
            rename_i kv
            refine ⟨.ref a, ev, a, rfl, .inl ⟨kv, .inl ha⟩, one sim.h e1 fun ky H1 T s1 n1 d1 p1 => ?_⟩
            have hkk := p1.key e3
            subst hkk
            refine ⟨Nat.zero_le _, fun p hp => ?_⟩
            have spp : Same H1 (upd H1 p (.lst [])) := fun b u eb => by
              rw [upd_ne (ne_of_none eb hp)]
              exact eb
            have hap : a ≠ p := fun z => by
              have := s1 _ _ ha
              rw [z, hp] at this
              cases this
            have sall := s1.trans spp
            have hlen' : kv.length < sizeLine := by
              have := congrArg List.length ek
              rw [List.length_map, List.length_map] at this
              rw [this, sizeLine_eq]
              omega
            have hh := has_keys ek k
            refine ⟨kv, k, sall _ _ ha, rfl, hlen', fun v' hv' => ?_, fun hn => ?_⟩
            · -- there
              unfold sda at e4
              split at e4
              · rename_i n en
                split at e4
                · rename_i ds' eds
                  split at e4
                  · rename_i hlds
                    cases e4
                    obtain ⟨v1, k1, k2⟩ := key_at ek en
                    rw [hv'] at k1
                    cases k1
                    have hd' : dAt s.d [n] = some (.lst ds') := by
                      rw [hd]
                      show (((kd.map (·.2))[n]?).bind fun e => dAt e []) = _
                      rw [eds]
                      rfl
                    obtain ⟨v2, a2, o2, vs2, ds2, F2, ev2, w3, ha2, hnd2, ⟨S2, hx2⟩, go2⟩ := sim.store (p := [n]) (e := .lst ds') es hl hd' rfl
                    rw [ev] at ev2
                    cases ev2
                    cases w3 with
                    | cons g1 g2 g3 =>
                      rw [ha] at g1
                      cases g1
                      have g2 : (kv.map (·.2))[n]? = _ := g2
                      rw [k2] at g2
                      cases g2
                      cases g3
                      cases hnd2
                      have hlv := hx2.len
                      refine ⟨.inl ⟨rfl, vs2, SqL.of (sall _ _ ha2)⟩, vj, evj, ?_⟩
                      refine hr _ a2 vs2 [vj] (vs2 ++ [vj]) _ (sall _ _ ha2) (by rw [hlv]; exact hlds) rfl ?_
                      obtain ⟨L', sim', fr⟩ := go2 (H1 := upd H1 p (.lst [])) (w := vj) (dw := r.d) (al := false) (T := []) (e' := .lst (ds' ++ [r.d])) (o' := .lst (vs2 ++ [vj])) sall (fun _ z => nomatch z) .nil (rj0 sall) trivial (fun r1 r2 nd => by
                        rw [List.append_nil] at nd
                        refine ⟨_, _, F2, .lst, ?_, fun b z => by simpa using z, nd⟩
                        have := Rps.app r1 (Rps.cons (F := []) (G := []) r2 .nil)
                        rw [List.append_nil, List.append_nil] at this
                        exact this)
                      have hset : dSet s.d [n] (.lst (ds' ++ [r.d])) = .dk (setSnd kd n (.lst (ds' ++ [r.d]))) := by
                        rw [hd]
                        unfold dSet
                        show (match (kd.map (·.2))[n]? with | some e => _ | none => _) = _
                        rw [eds]
                        rfl
                      rw [hset] at sim'
                      exact q _ _ L' sim' fr
                  · cases e4
                · cases e4
              · rename_i en
                have := key_no en
                rw [← hh, hv'] at this
                cases this
            · -- not there
              rw [hn] at hh
              have hh : dhas kd k = false := hh.symm
              have e5 : kd' = kd ++ [(k, .lst [r.d])] := by
                unfold sda at e4
                split at e4
                · rename_i n en
                  obtain ⟨v1, k1, k2⟩ := key_at ek en
                  rw [hn] at k1
                  cases k1
                · cases e4
                  rfl
              have hput : putK kv k (V.ref p) = kv ++ [(k, V.ref p)] := by
                unfold putK
                rw [if_neg]
                rw [valV_any, hn]
                exact Bool.false_ne_true
              refine ⟨.inl ⟨rfl, [], SqL.of (by rw [upd_ne (Ne.symm hap), upd_same])⟩, vj, evj, ?_⟩
              refine hr _ p [] [vj] [vj] _ (by rw [upd_ne (Ne.symm hap), upd_same]) (Nat.zero_le _) rfl ?_
              have e6 : upd (upd (upd H1 p (.lst [])) a (.dK (putK kv k (.ref p)))) p (.lst [vj]) = upd (upd H1 p (.lst [vj])) a (.dK (putK kv k (.ref p))) := by
                funext b
                by_cases hb : b = p
                · subst hb
                  rw [upd_same, upd_ne (Ne.symm hap), upd_same]
                · rw [upd_ne hb]
                  by_cases hb2 : b = a
                  · subst hb2
                    rw [upd_same, upd_same]
                  · rw [upd_ne hb2, upd_ne hb2, upd_ne hb, upd_ne hb]
              rw [e6]
              have sH : Same H (upd H1 p (.lst [vj])) := fun b u eb => by
                have := s1 b u eb
                rw [upd_ne (ne_of_none this hp)]
                exact this
              obtain ⟨L', sim', fr⟩ := go (H1 := upd H1 p (.lst [vj])) (w := .ref p) (dw := .lst [r.d]) (al := false) (T := [p]) (e' := .dk (kd ++ [(k, .lst [r.d])])) (o' := .dK (putK kv k (.ref p))) sH
                (fun b z => by rw [List.mem_singleton.mp z]; exact s1.free hp) nodup1 (.nd1 (fun z => nomatch z) .lst upd_same (by
                  have := Rps.cons (F := []) (G := []) (rj0 (S := fun b => SR N L false false b ∧ b ∉ [p]) (l' := .full) sH) .nil
                  exact this)) trivial (fun r1 r2 nd => by
                  have e7 : (putK kv k (V.ref p)).map (·.1) = (kd ++ [(k, Ev.D.lst [r.d])]).map (·.1) := by
                    rw [hput, List.map_append, List.map_append, ek]
                    rfl
                  refine ⟨_, _, F ++ [p], .dk e7, ?_, fun b z => z, nd⟩
                  rw [hput, List.map_append, List.map_append]
                  have := Rps.app r1 (Rps.cons (G := []) r2 .nil)
                  rw [List.append_nil] at this
                  exact this)
              subst e5
              rw [hd] at sim'
              exact q _ _ L' sim' fr
        · cases z
      · cases z
    · cases z
  · cases z
end
end Ev

set_option Elab.async false
set_option linter.all false
set_option maxRecDepth 100000

namespace Ev
open PySem PySem.Spec L2
open PyProof.Rows hiding St

section
variable {K : PySem.W.Frag} {S : Addr → Prop} {H : Hp} {l : Lv}
theorem Rps.erase : ∀ {vs : List V} {ds : List D} {F : List Addr} (j : Nat), Rps K S H l vs ds F → F.Nodup → ∃ F', Rps K S H l (vs.eraseIdx j) (ds.eraseIdx j) F' ∧ (∀ b ∈ F', b ∈ F) ∧ F'.Nodup
  | _, _, _, j, .nil, nd => ⟨[], .nil, fun _ z => z, nd⟩
  | _, _, _, 0, .cons (F := F) (G := G) h1 h2, nd => ⟨G, h2, fun b z => List.mem_append_right _ z, (List.nodup_append.mp nd).2.1⟩
  | _, _, _, j + 1, .cons (F := F) (G := G) h1 h2, nd => by
    rw [List.nodup_append] at nd
    obtain ⟨F', r, sub, nd'⟩ := Rps.erase j h2 nd.2.1
    refine ⟨F ++ F', .cons h1 r, fun b z => ?_, ?_⟩
    · rcases List.mem_append.mp z with z | z
      · exact List.mem_append_left _ z
      · exact List.mem_append_right _ (sub b z)
    · rw [List.nodup_append]
      exact ⟨nd.1, nd', fun b hb c hc y => nd.2.2 b hb c (sub c hc) y⟩
theorem Rps.setv {w : V} {d : D} {G : List Addr} (hw : Rp K S H l w d G) : ∀ {vs : List V} {ds : List D} {F : List Addr} (j : Nat), Rps K S H l vs ds F → (F ++ G).Nodup → j < ds.length → ∃ F', Rps K S H l (vs.set j w) (ds.set j d) F' ∧ (∀ b ∈ F', b ∈ F ++ G) ∧ F'.Nodup
  | _, _, _, j, .nil, nd, hj => absurd hj (Nat.not_lt_zero _)
  | _, _, _, 0, .cons (F := F) (G := F2) h1 h2, nd, _ => by
    refine ⟨G ++ F2, .cons hw h2, fun b z => ?_, ?_⟩
    · rcases List.mem_append.mp z with z | z <;> simp [z]
    · rw [List.append_assoc, List.nodup_append] at nd
      exact List.perm_append_comm.nodup_iff.mp nd.2.1
  | _, _, _, j + 1, .cons (F := F) (G := F2) h1 h2, nd, hj => by
    rw [List.append_assoc, List.nodup_append] at nd
    obtain ⟨F', r, sub, nd'⟩ := Rps.setv hw j h2 nd.2.1 (by simpa using hj)
    refine ⟨F ++ F', .cons h1 r, fun b z => ?_, ?_⟩
    · rcases List.mem_append.mp z with z | z
      · simp [z]
      · have := sub b z
        rw [List.append_assoc]
        exact List.mem_append_right _ this
    · rw [List.nodup_append]
      exact ⟨nd.1, nd', fun b hb c hc y => nd.2.2 b hb c (sub c hc) y⟩
end

def sPopI (i : Nat) (fk : EvE) : EvS := fun ρ => match ρ[i]? with
  | some (some s) => match s.d with
    | .lst ds => (fk ρ).bind fun y => match y.d with
      | .int k => (L2.ixN ds.length k).bind fun j => if s.l ≠ .shr ∧ ds.length ≤ 1000000 then some (.nx (ρ.set i (some ⟨.lst (ds.eraseIdx j), keepLv s.l .full, s.al || false, s.pn⟩))) else none
      | _ => none
    | _ => none
  | _ => none

def sPutI (i : Nat) (fk fv : EvE) : EvS := fun ρ => (fv ρ).bind fun r => match ρ[i]? with
  | some (some s) => match s.d with
    | .lst ds => (fk ρ).bind fun y => match y.d with
      | .int k => (L2.ixN ds.length k).bind fun j => if s.l ≠ .shr ∧ r.vw = false then some (.nx (ρ.set i (some ⟨.lst (ds.set j r.d), keepLv s.l (if r.l = .full then .full else .top), s.al || r.al, s.pn⟩))) else none
      | _ => none
    | _ => none
  | _ => none
section
variable {X : Cx} {e e2 : Expr} {fk fv : EvE} {pos pos' apos cpos npos : Pos} {x : Str}
theorem s_popI (i : Nat) (hk : PEv X e fk)
    (hN : X.N[i]? = some x := by rfl) (hvs : Vis X.env.scope x := by first | exact Or.inl rfl | exact Or.inr (Or.inl rfl) | exact Or.inr (Or.inr rfl)) (hd : (x == ("__debug__" : Str)) = false := by decide) (hcd : (x == ("__classdict__" : Str)) = false := by decide)
    (hsw : swapsWith (.Call (.Attribute (.Name x npos) "pop" apos) [e] [] cpos) none pos.line X.env = pure false := by rfl)
    (hbase : attributeBase (.Name x npos) "pop" X.env (eval (.Name x npos) X.env) = eval (.Name x npos) X.env := by rfl)
    (hfew : ((backTo cpos (starEach [e] X.env)).all (fun x => !x.1) && (backToKw cpos (keywordEach [] X.env)).all (fun x => x.1.isSome)
      && decide ([e].length + ([] : List Keyword).length + (if ([] : List Keyword).isEmpty then 0 else 1) < 30)) = true := by rfl)
    (hline : (apos.endLine == cpos.line) = true := by rfl) (hs : starEach [e] X.env = (false, eval e X.env) :: starEach [] X.env := by rfl) (hplain : (backTo cpos (starEach [] X.env)).any (·.1) = false := by rfl) :
    PSv X (.Expr (.Call (.Attribute (.Name x npos) "pop" apos) [e] [] cpos) pos) (sPopI i fk) := by
  refine imp_s (ps_expr (pe_bm PySem.F.plainAttrs_list PySem.F.slot_list_pop PySem.F.type_list_pop mt_popAt (pe_var hN hvs hd hcd) (pa_cons hk pa_nil hs) hbase hfew hline hs hplain) hsw) fun D σ H ⟨N, H0, ρ, L, o, sim, z, q⟩ => ?_
  unfold sPopI at z
  split at z
  · rename_i s es
    split at z
    · rename_i ds hd
      obtain ⟨y, e1, z⟩ := bind_some z
      split at z
      · rename_i k hy
        obtain ⟨j, e3, z⟩ := bind_some z
        split at z
        · rename_i hc
          cases z
          obtain ⟨sd, sl, sa, sp⟩ := s
          dsimp only at hd hc
          subst hd
          obtain ⟨a, vs, ev, ha, hlen, go⟩ := sim.relist es hc.1
          refine ⟨.ref a, ev, .inl ⟨rfl, vs, SqL.of ha⟩, one sim.h e1 fun ky H1 T s1 n1 d1 p1 => ?_⟩
          rw [hy] at p1
          obtain ⟨rfl, _⟩ := p1.int_inv
          obtain ⟨g1, g2, g3, g4⟩ := ixN_seq e3
          have hsz := hc.2
          have hj : j < vs.length := by rw [hlen]; exact g2
          refine ⟨a, vs, k, j, vs[j], rfl, rfl, s1 _ _ ha, by omega, by omega, by rw [hlen]; exact g1, List.getElem?_eq_getElem hj, ?_⟩
          obtain ⟨L', sim', fr⟩ := go (H1 := H1) (us := []) (rs := []) (T := []) (ws := vs.eraseIdx j) (es := ds.eraseIdx j) (fun r1 r2 nd => by
            cases r2
            rw [List.append_nil] at nd
            obtain ⟨F', q1, q2, q3⟩ := r1.erase j nd
            exact ⟨F', q1, fun b z => by simpa using q2 b z, q3⟩) s1 (fun _ z => nomatch z) .nil .nil rfl
          exact q _ _ L' sim' fr
        · cases z
      · cases z
    · cases z
  · cases z
theorem s_putI (i : Nat) (hk : PEv X e fk) (hv : PEv X e2 fv)
    (hN : X.N[i]? = some x := by rfl) (hvs : Vis X.env.scope x := by first | exact Or.inl rfl | exact Or.inr (Or.inl rfl) | exact Or.inr (Or.inr rfl)) (hd : (x == ("__debug__" : Str)) = false := by decide) (hcd : (x == ("__classdict__" : Str)) = false := by decide)
    (ha : ∀ v, assign (.Subscript (.Name x npos) e pos') X.env v = (do
      let ov ← holding [v] (eval (.Name x npos) X.env)
      let iv ← holding [v, ov] (eval e X.env)
      standAt pos'
      holding [v, ov, iv] (setItem ov iv v)
      release [v, ov, iv] []) := by intro _; rfl)
    (hs : swapsWithSole [.Subscript (.Name x npos) e pos'] e2 pos.line X.env = pure false := by rfl) (hw : swappedStores [.Subscript (.Name x npos) e pos'] e2 X.env = pure none := by rfl)
    (h1 : (assignEach [.Subscript (.Name x npos) e pos'] X.env).map (·.2) = [assign (.Subscript (.Name x npos) e pos') X.env] := by rfl) :
    PSv X (.Assign [.Subscript (.Name x npos) e pos'] e2 pos) (sPutI i fk fv) := by
  refine imp_s (ps_asg hv (pg_sub (pe_var hN hvs hd hcd) hk set_list ha) hs hw h1) fun D σ H ⟨N, H0, ρ, L, o, sim, z, q⟩ => ?_
  unfold sPutI at z
  obtain ⟨r, e0, z⟩ := bind_some z
  split at z
  · rename_i s es
    split at z
    · rename_i ds hd
      obtain ⟨y, e1, z⟩ := bind_some z
      split at z
      · rename_i k hy
        obtain ⟨j, e3, z⟩ := bind_some z
        split at z
        · rename_i hc
          cases z
          obtain ⟨sd, sl, sa, sp⟩ := s
          dsimp only at hd hc
          subst hd
          obtain ⟨a, vs, ev, ha', hlen, go⟩ := sim.relist es hc.1
          refine one sim.h e0 fun w H1 T s1 n1 d1 p1 => ?_
          refine ⟨.ref a, ev, one (sim.h.hold s1 n1 d1 p1.own_mut) e1 fun ky H2 T2 s2 n2 d2 p2 => ?_⟩
          rw [hy] at p2
          obtain ⟨rfl, _⟩ := p2.int_inv
          have sall := s1.trans s2
          refine ⟨a, vs, k, j, rfl, rfl, sall _ _ ha', by rw [hlen]; exact e3, ?_⟩
          have hvw := hc.2
          obtain ⟨L', sim', fr⟩ := go (H1 := H2) (us := [w]) (rs := [r]) (T := T) (ws := vs.set j w) (es := ds.set j r.d) (fun r1 r2 nd => by
            cases r2 with
            | cons h1 h2 =>
              cases h2
              obtain ⟨g1, g2, g3, g4⟩ := ixN_seq e3
              rw [List.append_nil]
              exact r1.setv h1 j (by rw [List.append_nil] at nd; exact nd) g2) sall n1 d1 (RpL.one (p1.same s2)) (by simp [hvw])
          have hb : ([r].all fun r => !r.vw && decide (r.l = .full)) = decide (r.l = .full) := by simp [hvw]
          rw [hb] at sim'
          have hb2 : ([r].any fun r => r.al) = r.al := by simp
          rw [hb2] at sim'
          simp only [decide_eq_true_eq] at sim'
          exact q _ _ L' sim' fr
        · cases z
      · cases z
    · cases z
  · cases z
end
end Ev

set_option Elab.async false
set_option linter.all false
set_option maxRecDepth 100000

namespace Ev
open PySem PySem.Spec L2
open PyProof.Rows hiding St

section
variable {X : Cx}
def gIsB : D → D → Option Bool
  | .bl a, .bl b => some (decide (a = b))
  | _, _ => none
def gIsNotB : D → D → Option Bool
  | .bl a, .bl b => some (!decide (a = b))
  | _, _ => none
theorem c_isB : CmpOk X .Is gIsB :=
  ⟨_, op_isBl, fun S S' H l l' v w d e F G b Q p1 p2 h q => by
    unfold gIsB at h
    split at h
    · cases h
      obtain ⟨rfl, _⟩ := p1.bl_inv
      obtain ⟨rfl, _⟩ := p2.bl_inv
      exact ⟨_, _, rfl, rfl, q⟩
    · cases h⟩
theorem c_isnotB : CmpOk X .IsNot gIsNotB :=
  ⟨_, op_notBl, fun S S' H l l' v w d e F G b Q p1 p2 h q => by
    unfold gIsNotB at h
    split at h
    · cases h
      obtain ⟨rfl, _⟩ := p1.bl_inv
      obtain ⟨rfl, _⟩ := p2.bl_inv
      exact ⟨_, _, rfl, rfl, q⟩
    · cases h⟩
theorem x_isB (hu : X.A.units + 65 < cLine) : CmpOk X .Is gIsB := c_isB
theorem x_isnotB (hu : X.A.units + 65 < cLine) : CmpOk X .IsNot gIsNotB := c_isnotB
end


def sExtI (i : Nat) (fe : EvE) : EvS := fun ρ => match ρ[i]? with
  | some (some s) => match s.d with
    | .lst ds => (fe ρ).bind fun y => match y.d with
      | .lst es => if s.l ≠ .shr ∧ ds.length + es.length ≤ 1000000 ∧ immAll es = true then some (.nx (ρ.set i (some ⟨.lst (ds ++ es), keepLv s.l .full, s.al || false, s.pn⟩))) else none
      | _ => none
    | _ => none
  | _ => none
section
variable {X : Cx} {e : Expr} {fe : EvE} {pos apos cpos npos : Pos} {x : Str}
theorem s_extI (i : Nat) (hk : PEv X e fe)
    (hN : X.N[i]? = some x := by rfl) (hvs : Vis X.env.scope x := by first | exact Or.inl rfl | exact Or.inr (Or.inl rfl) | exact Or.inr (Or.inr rfl)) (hd : (x == ("__debug__" : Str)) = false := by decide) (hcd : (x == ("__classdict__" : Str)) = false := by decide)
    (hsw : swapsWith (.Call (.Attribute (.Name x npos) "extend" apos) [e] [] cpos) none pos.line X.env = pure false := by rfl)
    (hbase : attributeBase (.Name x npos) "extend" X.env (eval (.Name x npos) X.env) = eval (.Name x npos) X.env := by rfl)
    (hfew : ((backTo cpos (starEach [e] X.env)).all (fun x => !x.1) && (backToKw cpos (keywordEach [] X.env)).all (fun x => x.1.isSome)
      && decide ([e].length + ([] : List Keyword).length + (if ([] : List Keyword).isEmpty then 0 else 1) < 30)) = true := by rfl)
    (hline : (apos.endLine == cpos.line) = true := by rfl) (hs : starEach [e] X.env = (false, eval e X.env) :: starEach [] X.env := by rfl) (hplain : (backTo cpos (starEach [] X.env)).any (·.1) = false := by rfl) :
    PSv X (.Expr (.Call (.Attribute (.Name x npos) "extend" apos) [e] [] cpos) pos) (sExtI i fe) := by
  refine imp_s (ps_expr (pe_bm PySem.F.plainAttrs_list PySem.F.slot_list_extend PySem.F.type_list_extend mt_extend (pe_var hN hvs hd hcd) (pa_cons hk pa_nil hs) hbase hfew hline hs hplain) hsw) fun D σ H ⟨N, H0, ρ, L, o, sim, z, q⟩ => ?_
  unfold sExtI at z
  split at z
  · rename_i s es
    split at z
    · rename_i ds hd
      obtain ⟨y, e1, z⟩ := bind_some z
      split at z
      · rename_i es' hy
        split at z
        · rename_i hc
          cases z
          obtain ⟨sd, sl, sa, sp⟩ := s
          dsimp only at hd hc
          subst hd
          obtain ⟨a, vs, ev, ha, hlen, go⟩ := sim.relist es hc.1
          refine ⟨.ref a, ev, .inl ⟨rfl, vs, SqL.of ha⟩, one sim.h e1 fun ky H1 T s1 n1 d1 p1 => ?_⟩
          rw [hy] at p1
          obtain ⟨a2, vs2, G2, rfl, h1, h2, _⟩ := p1.lst_inv
          have hlen2 := h2.len
          have himm := hc.2.2
          refine ⟨a, a2, vs, vs2, rfl, rfl, s1 _ _ ha, h1, by rw [hlen, hlen2, sizeLine_eq]; have := hc.2.1; omega, ?_⟩
          obtain ⟨L', sim', fr⟩ := go (H1 := H1) (us := []) (rs := []) (T := []) (ws := vs ++ vs2) (es := ds ++ es') (fun r1 r2 nd => by
            cases r2
            rw [List.append_nil] at nd
            have := Rps.app r1 (Rps.of_imm h2 himm).2
            rw [List.append_nil] at this
            exact ⟨_, this, fun b z => by simpa using z, nd⟩) s1 (fun _ z => nomatch z) .nil .nil rfl
          exact q _ _ L' sim' fr
        · cases z
      · cases z
    · cases z
  · cases z
end
end Ev
namespace Ev
open PySem
open PySem.SeqAt PySem.MeetsSeq
open PySem.AutoSeq1 (wpAny_loadPart')

theorem rem_walk (at_ : Addr) (its : Array Value) (cnt : Nat) (w0 : Value) (p : Value → Bool) (j : Nat) (inb : j < its.size) (yes : p its[j] = true) (small : its.size ≤ sizeLine) :
    ∀ (left i : Nat), j - i = left → i ≤ j → (∀ m (hm : m < its.size), i ≤ m → m < j → p its[m] = false) →
      Meets (Builtin.«list.remove.loop» ⟨[.ref at_, w0, rawInt i], []⟩) (fun A R s =>
        s.heap.get? at_ = some { cls := .type "list", dict := none, data := .seq its cnt, slots := #[] } ∧ (∀ y, y ∈ its → EqAt A.in1 s y w0 (p y)) ∧
          R (.ok (.ret .none)) { s with heap := s.heap.update at_ (Obj.mapSeq fun xs => xs.eraseIdxIfInBounds j) })
  | 0, i, hk, hij, hno => fun prog w A R s h => by
    obtain ⟨hp, g, d, tk, os⟩ := s
    obtain ⟨hl, he, hR⟩ := h
    obtain rfl : i = j := by omega
    wp_walk using wpAny_loadPart' hl
    have here : its[((i : Nat) : Int).toNat]? = some its[i] := by simp [inb]
    rw [here]
    refine wpAny_bind (he _ (Array.getElem_mem inb) prog w _ _ ?_)
    rw [yes]
    have fits : (its.eraseIdxIfInBounds i).size ≤ sizeLine + 1 := Nat.le_trans (size_erased its _) (Nat.le_succ_of_le small)
    wp_walk using (wpAny_updateSeq hl rfl (hz := small) (_hz' := fits)), wpAny_loadPart' hl
    simpa using hR
  | left + 1, i, hk, hij, hno => fun prog w A R s h => by
    obtain ⟨hp, g, d, tk, os⟩ := s
    obtain ⟨hl, he, hR⟩ := h
    have inb2 : i < its.size := by omega
    wp_walk using wpAny_loadPart' hl
    have here : its[((i : Nat) : Int).toNat]? = some its[i] := by simp [inb2]
    have next : ((i : Int) + 1) = ((i + 1 : Nat) : Int) := by push_cast; rfl
    rw [here]
    refine wpAny_bind (he _ (Array.getElem_mem inb2) prog w _ _ ?_)
    rw [hno i inb2 (Nat.le_refl _) (by omega)]
    wp_walk
    rw [next]
    exact ⟨plainId_quiet plain_remove_loop _, codeAny_builtin entry_remove_loop (by
      rw [Around.under_plainId plain_remove_loop]
      exact rem_walk at_ its cnt w0 p j inb yes small left (i + 1) (by omega) (by omega) (fun m hm q1 q2 => hno m hm (by omega) q2) prog w A R _ ⟨hl, he, hR⟩)⟩
theorem rem_meets (at_ : Addr) (its : Array Value) (cnt : Nat) (w0 : Value) (p : Value → Bool) (j : Nat) (inb : j < its.size) (yes : p its[j] = true) (small : its.size ≤ sizeLine) (hno : ∀ m (hm : m < its.size), m < j → p its[m] = false) :
    Meets (Builtin.«list.remove» ⟨[.ref at_, w0], []⟩) (fun A R s =>
        s.heap.get? at_ = some { cls := .type "list", dict := none, data := .seq its cnt, slots := #[] } ∧ (∀ y, y ∈ its → EqAt A.in1 s y w0 (p y)) ∧
          R (.ok (.ret .none)) { s with heap := s.heap.update at_ (Obj.mapSeq fun xs => xs.eraseIdxIfInBounds j) }) := fun prog w A R s h => by
  obtain ⟨hp, g, d, tk, os⟩ := s
  obtain ⟨hl, he, hR⟩ := h
  wp_walk using wpAny_loadPart' hl
  exact ⟨plainId_quiet plain_remove_loop _, codeAny_builtin entry_remove_loop (by
    rw [Around.under_plainId plain_remove_loop]
    exact rem_walk at_ its cnt w0 p j inb yes small _ 0 rfl (Nat.zero_le _) (fun m hm _ q2 => hno m hm q2) prog w A R _ ⟨hl, he, hR⟩)⟩
end Ev
namespace Ev
open PySem PySem.Spec L2
open PyProof.Rows hiding St
section
variable {X : Cx}
def rRemD (K : PySem.W.Frag) : V → List V → Hp → VK → Prop := fun x xs H Q => ∃ (a : Addr) (y : V) (d : PyData) (vs : List V) (ds : List PyData) (j : Nat) (z : PyData), x = V.ref a ∧ xs = [y] ∧ H a = some (.lst vs) ∧ DpAll K H vs ds ∧ Dp K H y d ∧
  SeqAt.shaped (.list ds) = true ∧ SeqAt.shaped d = true ∧ ds[j]? = some z ∧ PyData.eqv z d = true ∧ (∀ (m : Nat) (z' : PyData), m < j → ds[m]? = some z' → PyData.eqv z' d = false) ∧ Q .non (upd H a (.lst (vs.eraseIdx j)))
theorem mt_remD (hu : X.A.units + 65 < cLine) : MtR X "list.remove" (rRemD X.K) := by
  intro pins s σ H x xs v us Q I rx rxs h
  obtain ⟨a, y, d, vs, ds, j, z, rfl, rfl, hH, ha, hy, sl, sd, hz, hzj, hno, q⟩ := h
  cases rx
  obtain ⟨uy, rfl, ry⟩ := rxs.one
  obtain ⟨bs, r1⟩ := Dp.reads I d y uy hy ry
  have lay := SeqAt.canLay_of_shaped sl
  have hroom : X.A.units + 1 + min (PyData.depthAll ds) d.depth < cLine := room_in_shaped sd hu
  obtain ⟨zz, its, n, rv, hl, ho⟩ := I.lstM hH
  obtain ⟨as, h4⟩ := Dp.readsAll I ds _ its ha rv
  have hn : its.length = ds.length := SeqAt.ReadsAll.length ds its as h4
  have hmap : its.map (SeqAt.readOf s.heap) = ds := SeqAt.readsAll_map ds its as lay h4
  obtain ⟨hjd, _⟩ := List.getElem?_eq_some_iff.mp hz
  have hjl : j < its.length := by omega
  have hj : j < its.toArray.size := by simpa using hjl
  have look : ∀ (m : Nat) (hm : m < its.toArray.size) (z' : PyData), ds[m]? = some z' → SeqAt.readOf s.heap its.toArray[m] = z' := fun m hm z' hz' => by
    have hml : m < its.length := by simpa using hm
    rw [← hmap, List.getElem?_map, List.getElem?_eq_getElem hml] at hz'
    have e1 : SeqAt.readOf s.heap its[m] = z' := Option.some.inj hz'
    simpa using e1
  refine call_meets PySem.F.slot_list_remove ⟨_, ho, rfl⟩ PySem.F.entry_list_remove (PySem.F.args_list_remove_2 _ _)
    (rem_meets a its.toArray n uy (fun u => PyData.eqv (SeqAt.readOf s.heap u) d) j hj ?_ (by rw [List.size_toArray]; omega) ?_)
    ⟨ho, SeqAt.items_eqAt (vs := its.toArray) (show ReadsAll s.heap its.toArray.toList ds as from h4) r1 lay (SeqAt.canLay_of_shaped sd) hroom, ?_⟩
  · show PyData.eqv (SeqAt.readOf s.heap its.toArray[j]) d = true
    rw [look j hj z hz]
    exact hzj
  · intro m hm hmj
    have hz' : ds[m]? = some (ds[m]'(by omega)) := List.getElem?_eq_getElem (by omega)
    show PyData.eqv (SeqAt.readOf s.heap its.toArray[m]) d = false
    rw [look m hm _ hz']
    exact hno m _ hmj hz'
  · refine ⟨.non, _, I.lset (its' := its.eraseIdx j) (t' := s.toks) hH ho ?_ (rv.eraseIdx j) ?_, rfl, q⟩
    · show its.toArray.eraseIdxIfInBounds j = (its.eraseIdx j).toArray
      rw [List.eraseIdxIfInBounds_toArray]
    · have := len_erase vs j
      omega
end

def sRemI (i : Nat) (fe : EvE) : EvS := fun ρ => match ρ[i]? with
  | some (some s) => match s.d with
    | .lst ds => (fe ρ).bind fun y => (ds.findIdx? fun z => deq z y.d).bind fun j => if s.l ≠ .shr ∧ (shp 8 y.d && shps 7 ds) = true then some (.nx (ρ.set i (some ⟨.lst (ds.eraseIdx j), keepLv s.l .full, s.al || false, s.pn⟩))) else none
    | _ => none
  | _ => none
section
variable {X : Cx} {e : Expr} {fe : EvE} {pos apos cpos npos : Pos} {x : Str}
theorem s_remI (i : Nat) (hu : X.A.units + 65 < cLine) (hk : PEv X e fe)
    (hN : X.N[i]? = some x := by rfl) (hvs : Vis X.env.scope x := by first | exact Or.inl rfl | exact Or.inr (Or.inl rfl) | exact Or.inr (Or.inr rfl)) (hd : (x == ("__debug__" : Str)) = false := by decide) (hcd : (x == ("__classdict__" : Str)) = false := by decide)
    (hsw : swapsWith (.Call (.Attribute (.Name x npos) "remove" apos) [e] [] cpos) none pos.line X.env = pure false := by rfl)
    (hbase : attributeBase (.Name x npos) "remove" X.env (eval (.Name x npos) X.env) = eval (.Name x npos) X.env := by rfl)
    (hfew : ((backTo cpos (starEach [e] X.env)).all (fun x => !x.1) && (backToKw cpos (keywordEach [] X.env)).all (fun x => x.1.isSome)
      && decide ([e].length + ([] : List Keyword).length + (if ([] : List Keyword).isEmpty then 0 else 1) < 30)) = true := by rfl)
    (hline : (apos.endLine == cpos.line) = true := by rfl) (hs : starEach [e] X.env = (false, eval e X.env) :: starEach [] X.env := by rfl) (hplain : (backTo cpos (starEach [] X.env)).any (·.1) = false := by rfl) :
    PSv X (.Expr (.Call (.Attribute (.Name x npos) "remove" apos) [e] [] cpos) pos) (sRemI i fe) := by
  refine imp_s (ps_expr (pe_bm PySem.F.plainAttrs_list PySem.F.slot_list_remove PySem.F.type_list_remove (mt_remD hu) (pe_var hN hvs hd hcd) (pa_cons hk pa_nil hs) hbase hfew hline hs hplain) hsw) fun D σ H ⟨N, H0, ρ, L, o, sim, z, q⟩ => ?_
  unfold sRemI at z
  split at z
  · rename_i s es
    split at z
    · rename_i ds hd
      obtain ⟨y, e1, z⟩ := bind_some z
      obtain ⟨j, ej, z⟩ := bind_some z
      split at z
      · rename_i hc
        cases z
        obtain ⟨sd, sl, sa, sp⟩ := s
        dsimp only at hd hc
        subst hd
        obtain ⟨hne, hsh⟩ := hc
        rw [Bool.and_eq_true] at hsh
        obtain ⟨a, vs, ev, ha, hlen, go⟩ := sim.relist es hne
        obtain ⟨v', G, ev', rp, _⟩ := sim.sl.get es
        rw [ev] at ev'
        cases ev'
        obtain ⟨a', vs', G1, e3, h1, r1, _⟩ := rp.lst_inv
        cases e3
        rw [ha] at h1
        cases h1
        refine ⟨.ref a, ev, .inl ⟨rfl, vs, SqL.of ha⟩, one sim.h e1 fun ky H1 T s1 n1 d1 p1 => ?_⟩
        obtain ⟨hj, hp, hno⟩ := List.findIdx?_eq_some_iff_getElem.mp ej
        have s3 := shaped_of (shp_lst hsh.2)
        simp only [pd] at s3
        refine ⟨a, ky, pd y.d, vs, pds ds, j, pd ds[j], rfl, rfl, s1 _ _ ha, (r1.same s1).dp hsh.2, p1.dp hsh.1, s3, shaped_of hsh.1, by rw [pds_map, List.getElem?_map, List.getElem?_eq_getElem hj]; rfl, hp, fun m z' hm hz => ?_, ?_⟩
        · rw [pds_map, List.getElem?_map, List.getElem?_eq_getElem (by omega)] at hz
          cases hz
          have := hno m hm
          simpa [deq] using this
        · obtain ⟨L', sim', fr⟩ := go (H1 := H1) (us := []) (rs := []) (T := []) (ws := vs.eraseIdx j) (es := ds.eraseIdx j) (fun r1 r2 nd => by
            cases r2
            rw [List.append_nil] at nd
            obtain ⟨F', q1, q2, q3⟩ := r1.erase j nd
            exact ⟨F', q1, fun b z => by simpa using q2 b z, q3⟩) s1 (fun _ z => nomatch z) .nil .nil rfl
          exact q _ _ L' sim' fr
      · cases z
    · cases z
  · cases z
end
end Ev

set_option Elab.async false
set_option linter.all false
set_option maxRecDepth 100000

namespace Ev
open PySem PySem.Spec L2
open PyProof.Rows hiding St
def isTC : D → Bool
  | .tup [_, .lst _] => true
  | _ => false
def clrD : D → D
  | .tup [a, .lst _] => .tup [a, .lst []]
  | d => d
def sForClr (j i : Nat) : EvS := fun ρ => match ρ[j]? with
  | some (some s) => match s.d with
    | .lst ds => if s.l = .full ∧ j ≠ i ∧ i < ρ.length ∧ ds.all isTC = true then some (.nx ((ρ.set i none).set j (some ⟨.lst (ds.map clrD), .full, s.al, s.pn⟩))) else none
    | _ => none
  | _ => none

def sClrP (fp : EvP) : EvS := fun ρ => (fp ρ).bind fun z => match z.2.2, ρ[z.1]? with
  | .lst _, some (some s) => some (.nx (ρ.set z.1 (some ⟨dSet s.d z.2.1 (.lst []), .full, s.al || false, s.pn⟩)))
  | _, _ => none
section
variable {X : Cx} {e : Expr} {fp : EvP} {pos p1 p2 p4 p5 apos cpos npos p3 : Pos} {x y : Str} {j1 : Int}
theorem s_forClr (j i : Nat) (hu : X.A.units + 65 < cLine) (hc : X.calm = true) (nd : X.N.Nodup) {jj : Nat}
    (hNj : X.N[j]? = some y := by rfl) (hvj : Vis X.env.scope y := by first | exact Or.inl rfl | exact Or.inr (Or.inl rfl) | exact Or.inr (Or.inr rfl)) (hdj : (y == ("__debug__" : Str)) = false := by decide) (hcj : (y == ("__classdict__" : Str)) = false := by decide)
    (hNi : X.N[i]? = some x := by rfl) (hvi : Vis X.env.scope x := by first | exact Or.inl rfl | exact Or.inr (Or.inl rfl) | exact Or.inr (Or.inr rfl)) (hdi : (x == ("__debug__" : Str)) = false := by decide) (hci : (x == ("__classdict__" : Str)) = false := by decide)
    (hx : Loc X.env.scope x := by first | exact Or.inl rfl | exact Or.inr rfl) (hf : X.fn x = true ∨ X.env.scope.names.lookup x = some .local := by first | exact .inl rfl | exact .inr rfl | assumption)
    (hsw : swapsWith (.Call (.Attribute (.Subscript (.Name x npos) (.Constant (.int 1) jj p4) p5) "clear" apos) [] [] cpos) none p3.line X.env = pure false := by rfl)
    (hbase : attributeBase (.Subscript (.Name x npos) (.Constant (.int 1) jj p4) p5) "clear" X.env (eval (.Subscript (.Name x npos) (.Constant (.int 1) jj p4) p5) X.env) = eval (.Subscript (.Name x npos) (.Constant (.int 1) jj p4) p5) X.env := by rfl)
    (hline : (apos.endLine == cpos.line) = true := by rfl)
    (hp : PassesOwn (model X.prog X.w) X.A X.env X.xe := by exact PassesOwn.never) (hfs : ∀ x, foldedSetIterable (.Name y p2) X.env x = pure x := by intro _; rfl) :
    PSv X (.For (.Name x p1) (.Name y p2) [.Expr (.Call (.Attribute (.Subscript (.Name x npos) (.Constant (.int 1) jj p4) p5) "clear" apos) [] [] cpos) p3] [] pos) (sForClr j i) := by
  refine imp_s (ps_for hp hc (pi_list (pe_var hNj hvj hdj hcj)) (pg_name nd hNi hx hf) (pss_one (ps_expr (pe_bm0 PySem.F.plainAttrs_list PySem.F.slot_list_clear PySem.F.type_list_clear mt_clear (pe_ix (ix_any (by omega)) (pe_var hNi hvi hdi hci) pe_int (fun _ _ => rfl)) hbase hline) hsw)) hfs) fun De σ H ⟨N, H0, ρ, L0, o, sim0, z, q0⟩ => ?_
  unfold sForClr at z
  split at z
  · rename_i s es0
    split at z
    · rename_i ds hd
      split at z
      · rename_i hcd
        obtain ⟨hl, hji, hi, hall⟩ := hcd
        cases z
        obtain ⟨sd, sl, sa, sp⟩ := s
        dsimp only at hd hl
        subst hd hl
        obtain ⟨v0, G0, ev0, rp0, _⟩ := sim0.sl.get es0
        obtain ⟨a, vs, _, rfl, ha, hr0, _⟩ := rp0.lst_inv
        obtain ⟨L, sim, subL⟩ := sim0.wipe i
        have es : (ρ.set i none)[j]? = some (some ⟨.lst ds, .full, sa, sp⟩) := by rw [List.getElem?_set_ne (fun q => hji q.symm)]; exact es0
        have hj : j < ρ.length := (List.getElem?_eq_some_iff.mp es0).1
        have hlen : vs.length = ds.length := hr0.len
        let dk : Nat → List D := fun k => (ds.take k).map clrD ++ ds.drop k
        let ρk : Nat → Env := fun k => (ρ.set i none).set j (some ⟨.lst (dk k), .full, sa, sp⟩)
        have ρ0 : ρk 0 = ρ.set i none := by
          show (ρ.set i none).set j (some ⟨.lst ((ds.take 0).map clrD ++ ds.drop 0), .full, sa, sp⟩) = _
          rw [List.take_zero, List.map_nil, List.nil_append, List.drop_zero]
          obtain ⟨h1, h2⟩ := List.getElem?_eq_some_iff.mp es
          rw [← h2, List.set_getElem_self]
        have ρlast : ρk ds.length = (ρ.set i none).set j (some ⟨.lst (ds.map clrD), .full, sa, sp⟩) := by
          show (ρ.set i none).set j (some ⟨.lst ((ds.take ds.length).map clrD ++ ds.drop ds.length), .full, sa, sp⟩) = _
          rw [List.take_length, List.drop_length, List.append_nil]
        have at_j : ∀ k, (ρk k)[j]? = some (some ⟨.lst (dk k), .full, sa, sp⟩) := fun k => List.getElem?_set_self (by rw [List.length_set]; exact hj)
        have at_i : ∀ k, (ρk k)[i]? = some none := fun k => by
          show ((ρ.set i none).set j _)[i]? = _
          rw [List.getElem?_set_ne hji, List.getElem?_set_self hi]
        have dk_len : ∀ k, (dk k).length = ds.length := fun k => by
          show ((ds.take k).map clrD ++ ds.drop k).length = _
          simp
          omega
        have dk_at : ∀ k (hk : k < ds.length), (dk k)[k]? = some ds[k] := fun k hk => by
          show ((ds.take k).map clrD ++ ds.drop k)[k]? = _
          rw [List.getElem?_append_right (by simp; omega)]
          simp [Nat.min_eq_left (Nat.le_of_lt hk), List.getElem?_eq_getElem hk]
        have dk_next : ∀ k (hk : k < ds.length), (dk k).set k (clrD ds[k]) = dk (k + 1) := fun k hk => by
          exact set_mid clrD ds k hk
        refine ⟨.ref a, ev0, a, rfl, ⟨vs, SqL.of ha⟩, ?_⟩
        refine ⟨fun k m σ' H' => m = ds.length - k ∧ k ≤ ds.length ∧ ∃ L', Sim X.K N H0 (ρk k) σ' H' L' ∧ Frm H L0 H' L' ∧ σ'[j]? = some (some (.ref a)), ⟨ds.length, by simp, Nat.zero_le _, L, by rw [ρ0]; exact sim, ⟨fun _ _ e _ => e, fun _ e => .inl e, fun b z => .inl (subL b z)⟩, ev0⟩, ?_⟩
        rintro k m σ' H' ⟨rfl, hk, L', sim', fr, evj⟩
        obtain ⟨v1, G1, ev1, rp1, _⟩ := sim'.sl.get (at_j k)
        rw [evj] at ev1
        cases ev1
        obtain ⟨a1, vs1, G2, e9, ha1, hr1, _⟩ := rp1.lst_inv
        cases e9
        have hl1 : vs1.length = ds.length := by rw [hr1.len, dk_len]
        by_cases hlt : k < ds.length
        · right
          refine ⟨⟨vs1, vs1[k]'(by omega), SqL.of ha1, List.getElem?_eq_getElem (by omega)⟩, fun σ'' H'' => ∃ m', m' < ds.length - k ∧ (m' = ds.length - (k + 1) ∧ k + 1 ≤ ds.length ∧ ∃ L', Sim X.K N H0 (ρk (k + 1)) σ'' H'' L' ∧ Frm H L0 H'' L' ∧ σ''[j]? = some (some (.ref a))), fun _ _ h => h, fun w H3 yy => ?_⟩
          obtain ⟨e8, hw⟩ := yy
          subst e8
          have hw := hw vs1 (SqL.of ha1)
          obtain ⟨d1, us, hus⟩ : ∃ d1 us, ds[k] = .tup [d1, .lst us] := by
            have := List.all_eq_true.mp hall ds[k] (List.getElem_mem hlt)
            unfold isTC at this
            split at this
            · rename_i d1 us hq
              exact ⟨d1, us, hq⟩
            · cases this
          have simA := sim'.any (some w) (at_i k)
          have hda : dAt (.lst (dk k)) [k, 1] = some (.lst us) := by
            unfold dAt
            show ((dk k)[k]?).bind _ = _
            rw [dk_at k hlt, hus]
            rfl
          obtain ⟨v2, b, ob, wsb, dsb, Fb, ev2, w2, hb, hnb, ⟨S0, hrb⟩, go⟩ := simA.store (at_j k) rfl hda rfl
          cases hnb
          have evj2 : (σ'.set i (some w))[j]? = some (some (.ref a)) := by rw [List.getElem?_set_ne (fun q => hji q.symm)]; exact evj
          rw [evj2] at ev2
          cases ev2
          cases w2 with
          | cons g1 g2 g3 =>
            rw [ha1] at g1
            cases g1
            have g2 : vs1[k]? = _ := g2
            rw [hw] at g2
            cases g2
            cases g3 with
            | @cons tp ot _ _ u _ q1 q2 q3 =>
              cases q3
              have hit : ∃ ws, ot = .tup ws ∧ ws[1]? = some (.ref b) := by
                obtain ⟨u3, G3, eu3, rp3, _⟩ := hr1.get (dk_at k hlt)
                rw [hw] at eu3
                cases eu3
                rw [hus] at rp3
                obtain ⟨c, ws, e5, h5, _⟩ := rp3.tup_inv
                cases e5
                rw [h5] at q1
                cases q1
                exact ⟨ws, rfl, q2⟩
              obtain ⟨ws, rfl, hw1⟩ := hit
              have hvi2 : (σ'.set i (some (.ref tp)))[i]? = some (some (.ref tp)) := List.getElem?_set_self (by rw [sim'.sl.len]; show i < ((ρ.set i none).set j _).length; rw [List.length_set, List.length_set]; exact hi)
              have hat : atI ws 1 = some (V.ref b) := by
                have hwl := (List.getElem?_eq_some_iff.mp hw1).1
                unfold L2.atI
                have : L2.ixN ws.length 1 = some 1 := by
                  unfold L2.ixN
                  rw [if_pos (by decide), if_pos (by omega)]
                  rfl
                rw [this]
                exact hw1
              refine ⟨.ref tp, hvi2, .inl (.inr (.inl ⟨tp, ws, 1, .ref b, rfl, rfl, SqT.of q1, hat, ?_⟩))⟩
              refine ⟨.inl ⟨rfl, wsb, SqL.of hb⟩, b, wsb, rfl, rfl, hb, ?_⟩
              obtain ⟨L5, sim5, fr5⟩ := go (H1 := H3) (w := .non) (dw := .non) (al := false) (T := []) (e' := .lst []) (o' := .lst []) (Same.refl H3) (fun _ z => nomatch z) .nil .non trivial (fun r1 r2 nd => ⟨[], [], [], .lst, .nil, fun _ z => (nomatch z), .nil⟩)
              refine ⟨ds.length - (k + 1), by omega, rfl, hlt, L5, ?_, fr.trans fr5, evj2⟩
              have e7 : (ρk k).set j (some ⟨dSet (.lst (dk k)) [k, 1] (.lst []), .full, sa || false, sp⟩) = ρk (k + 1) := by
                have e6 : dSet (.lst (dk k)) [k, 1] (.lst []) = .lst (dk (k + 1)) := by
                  rw [← dk_next k hlt, hus]
                  unfold dSet
                  show (match (dk k)[k]? with | some dj => _ | none => _) = _
                  rw [dk_at k hlt, hus]
                  rfl
                rw [e6, Bool.or_false]
                show ((ρ.set i none).set j _).set j _ = _
                rw [List.set_set]
              rw [e7] at sim5
              exact sim5
        · left
          have ek : k = ds.length := by omega
          subst ek
          refine ⟨⟨vs1, SqL.of ha1, by omega⟩, q0 σ' H' L' ?_ fr⟩
          rw [← ρlast]
          exact sim'
      · cases z
    · cases z
  · cases z
theorem s_clrP (h : PPv X e fp)
    (hsw : swapsWith (.Call (.Attribute e "clear" apos) [] [] cpos) none pos.line X.env = pure false := by rfl)
    (hbase : attributeBase e "clear" X.env (eval e X.env) = eval e X.env := by rfl)
    (hline : (apos.endLine == cpos.line) = true := by rfl) :
    PSv X (.Expr (.Call (.Attribute e "clear" apos) [] [] cpos) pos) (sClrP fp) := by
  refine imp_s (ps_expr (pe_bm0 PySem.F.plainAttrs_list PySem.F.slot_list_clear PySem.F.type_list_clear mt_clear h.run hbase hline) hsw) fun D σ H ⟨N, H0, ρ, L, o, sim, z, q⟩ => ?_
  unfold sClrP at z
  obtain ⟨⟨i, p, d⟩, e1, z1⟩ := bind_some z
  clear z
  dsimp only at z1
  split at z1
  · rename_i ds s es
    cases z1
    obtain ⟨s', es', hl, hd⟩ := h.ok ρ i p _ e1
    rw [es] at es'
    cases es'
    obtain ⟨v0, a, o, vs, ds', F, ev, w2, ha', hnd, ⟨S0, hx⟩, go⟩ := sim.store es hl hd rfl
    cases hnd
    refine ⟨N, H0, ρ, L, L, i, p, _, sim.h, e1, fun u H1 s1 at1 => ?_⟩
    have := (at1 v0 ev).fn (w2.same s1)
    subst this
    refine ⟨.inl ⟨rfl, vs, SqL.of (s1 _ _ ha')⟩, a, vs, rfl, rfl, s1 _ _ ha', ?_⟩
    obtain ⟨L', sim', fr⟩ := go (H1 := H1) (w := .non) (dw := .non) (al := false) (T := []) (e' := .lst []) (o' := .lst []) s1 (fun _ z => nomatch z) .nil .non trivial (fun r1 r2 nd => ⟨[], [], [], .lst, .nil, fun _ z => (nomatch z), .nil⟩)
    exact q _ _ L' sim' fr
  · cases z1
end
end Ev

set_option Elab.async false
set_option linter.all false
set_option maxRecDepth 100000

namespace Ev
open PySem PySem.Spec L2
open PyProof.Rows hiding St

section
variable {K : PySem.W.Frag} {N : Nw} {H0 H : Hp} {ρ : Env} {σ : St} {L : List Addr}
theorem Slots.cut {L0 : List Addr} : ∀ {σ : St} {ρ : Env} {F : List Addr} {j : Nat} {s : Sv}, Slots K N L0 H σ ρ F → ρ[j]? = some (some s) →
    ∃ v G F', σ[j]? = some (some v) ∧ Rp K (SR N L0 s.al false) H s.l v s.d G ∧ Slots K N L0 H σ (ρ.set j none) F' ∧ F.Perm (G ++ F')
  | _, _, _, _, _, .nil, e => by simp at e
  | _, _, _, 0, _, .no _, e => by simp at e
  | _, _, _, j + 1, s, .no h, e => by
    obtain ⟨v, G, F', e1, r, q, p⟩ := Slots.cut (j := j) (s := s) h (by simpa using e)
    exact ⟨v, G, F', by simpa using e1, r, .no q, p⟩
  | _, _, _, 0, _, .so (G := F2) h0 h h2, e => by
    simp at e; subst e
    exact ⟨_, _, F2, rfl, h, .no h2, List.Perm.refl _⟩
  | _, _, _, j + 1, s, .so (F := F1) h0 h h2, e => by
    obtain ⟨v, G, F', e1, r, q, p⟩ := Slots.cut (j := j) (s := s) h2 (by simpa using e)
    refine ⟨v, G, F1 ++ F', by simpa using e1, r, .so h0 h q, ?_⟩
    have h3 := List.Perm.append_left F1 p
    refine h3.trans ?_
    rw [← List.append_assoc, ← List.append_assoc]
    exact List.Perm.append_right F' List.perm_append_comm

def rem (H : Hp) (G : List Addr) : Hp := fun b => if b ∈ G then none else H b
theorem rem_in {G : List Addr} {b : Addr} (h : b ∈ G) : rem H G b = none := if_pos h
theorem rem_out {G : List Addr} {b : Addr} (h : b ∉ G) : rem H G b = H b := if_neg h
theorem rem_same (H : Hp) (G : List Addr) : Same (rem H G) H := fun b o e => by
  by_cases h : b ∈ G
  · rw [rem_in h] at e; cases e
  · rw [rem_out h] at e; exact e

theorem Sim.out (sim : Sim K N H0 ρ σ H L) {j : Nat} {s : Sv} (e : ρ[j]? = some (some s)) :
    ∃ v G L', σ[j]? = some (some v) ∧ Rp K (SR N L s.al false) H s.l v s.d G ∧ Sim K N H0 (ρ.set j none) σ (rem H G) L' ∧ L.Perm (G ++ L') := by
  obtain ⟨v, G, L', e1, r, q, p⟩ := sim.sl.cut e
  have nd := p.nodup_iff.mp sim.nd
  rw [List.nodup_append] at nd
  have inG : ∀ b ∈ G, b ∈ L := fun b h => p.mem_iff.mpr (List.mem_append_left _ h)
  have inL : ∀ b ∈ L', b ∈ L := fun b h => p.mem_iff.mpr (List.mem_append_right _ h)
  have off : ∀ b ∈ L', b ∉ G := fun b h1 h2 => nd.2.2 b h2 b h1 rfl
  refine ⟨v, G, L', e1, r, ⟨fun b o e n => ?_, fun b h => ?_, nd.2.1, fun a h => sim.ln a (inL a h), fun a h => by rw [rem_out (off a h)]; exact sim.mu a (inL a h), ?_⟩, p⟩
  · rw [rem_out fun h => n (sim.ln b (inG b h))]
    exact sim.kp b o e n
  · by_cases hb : b ∈ G
    · exact sim.ln b (inG b hb)
    · rw [rem_out hb] at h
      exact sim.nw b h
  · refine (q.keep fun al b o hb z => ?_).mono fun a h1 h2 => h1 (inL a h2)
    rw [rem_out]
    · exact hb
    · intro hG
      rcases z with z | z | ⟨xs, rfl⟩ | ⟨o', u, rfl⟩
      · exact z.2 rfl (inG b hG)
      · exact off b z hG
      · have := sim.mu b (inG b hG)
        rw [hb] at this
        cases this
      · have := sim.mu b (inG b hG)
        rw [hb] at this
        cases this
theorem Frm.rem {G L L' Lf : List Addr} {Hf : Hp} (p : L.Perm (G ++ L')) (f : Frm (rem H G) L' Hf Lf) : Frm H L Hf Lf := by
  have inG : ∀ b ∈ G, b ∈ L := fun b h => p.mem_iff.mpr (List.mem_append_left _ h)
  have inL : ∀ b ∈ L', b ∈ L := fun b h => p.mem_iff.mpr (List.mem_append_right _ h)
  refine ⟨fun b o e n => f.1 b o ?_ fun z => n (inL b z), fun b e => ?_, fun b h => ?_⟩
  · rw [rem_out fun z => n (inG b z)]
    exact e
  · rcases f.2.1 b e with h | h
    · by_cases hb : b ∈ G
      · exact .inr (inG b hb)
      · rw [rem_out hb] at h
        exact .inl h
    · exact .inr (inL b h)
  · rcases f.2.2 b h with h | h
    · exact .inl (inL b h)
    · by_cases hb : b ∈ G
      · exact .inl (inG b hb)
      · rw [rem_out hb] at h
        exact .inr h
end
def sAppMv (i j : Nat) (fe : EvE) : EvS := fun ρ => match ρ[i]? with
  | some (some s) => match ρ[j]? with
    | some (some r) => match s.d with
      | .lst ds => (fe ρ).bind fun x => if s.l ≠ .shr ∧ r.l = .full ∧ i ≠ j ∧ ds.length ≤ 1000000 ∧ imm x.d = true then some (.nx ((ρ.set j none).set i (some ⟨.lst (ds ++ [.tup [x.d, r.d]]), keepLv s.l .full, s.al || r.al, s.pn⟩))) else none
      | _ => none
    | _ => none
  | _ => none
section
variable {X : Cx} {e : Expr} {fe : EvE} {pos apos cpos npos npos2 tpos : Pos} {x y : Str}
theorem s_appMv (i j : Nat) {ct : Nat} (he : PEv X e fe)
    (hN : X.N[i]? = some x := by rfl) (hvs : Vis X.env.scope x := by first | exact Or.inl rfl | exact Or.inr (Or.inl rfl) | exact Or.inr (Or.inr rfl)) (hd : (x == ("__debug__" : Str)) = false := by decide) (hcd : (x == ("__classdict__" : Str)) = false := by decide)
    (hN2 : X.N[j]? = some y := by rfl) (hvs2 : Vis X.env.scope y := by first | exact Or.inl rfl | exact Or.inr (Or.inl rfl) | exact Or.inr (Or.inr rfl)) (hd2 : (y == ("__debug__" : Str)) = false := by decide) (hcd2 : (y == ("__classdict__" : Str)) = false := by decide)
    (hsw : swapsWith (.Call (.Attribute (.Name x npos) "append" apos) [.Tuple [e, .Name y npos2] ct tpos] [] cpos) none pos.line X.env = pure false := by rfl)
    (hbase : attributeBase (.Name x npos) "append" X.env (eval (.Name x npos) X.env) = eval (.Name x npos) X.env := by rfl)
    (hfew : ((backTo cpos (starEach [.Tuple [e, .Name y npos2] ct tpos] X.env)).all (fun x => !x.1) && (backToKw cpos (keywordEach [] X.env)).all (fun x => x.1.isSome)
      && decide ([Expr.Tuple [e, .Name y npos2] ct tpos].length + ([] : List Keyword).length + (if ([] : List Keyword).isEmpty then 0 else 1) < 30)) = true := by rfl)
    (hline : (apos.endLine == cpos.line) = true := by rfl) (hs : starEach [.Tuple [e, .Name y npos2] ct tpos] X.env = (false, eval (.Tuple [e, .Name y npos2] ct tpos) X.env) :: starEach [] X.env := by rfl) (hplain : (backTo cpos (starEach [] X.env)).any (·.1) = false := by rfl)
    (hs1 : starEach [e, .Name y npos2] X.env = (false, eval e X.env) :: starEach [.Name y npos2] X.env := by rfl) (hs2 : starEach [.Name y npos2] X.env = (false, eval (.Name y npos2) X.env) :: starEach [] X.env := by rfl) :
    PSv X (.Expr (.Call (.Attribute (.Name x npos) "append" apos) [.Tuple [e, .Name y npos2] ct tpos] [] cpos) pos) (sAppMv i j fe) := by
  obtain ⟨r0, hm, hr⟩ := (l_app (X := X)).ok
  refine imp_s (ps_expr (pe_bm PySem.F.plainAttrs_list PySem.F.slot_list_append PySem.F.type_list_append hm (pe_var hN hvs hd hcd) (pa_cons (pe_tup (pa_cons he (pa_cons (pe_var hN2 hvs2 hd2 hcd2) pa_nil hs2) hs1)) pa_nil hs) hbase hfew hline hs hplain) hsw) fun D σ H ⟨N, H0, ρ, L, o, sim, z, q⟩ => ?_
  unfold sAppMv at z
  split at z
  · rename_i s es
    split at z
    · rename_i r er
      split at z
      · rename_i ds hds
        obtain ⟨xv, e1, z⟩ := bind_some z
        split at z
        · rename_i hc
          obtain ⟨hl, hrl, hij, hlen, him⟩ := hc
          cases z
          obtain ⟨sd, sl, sa, sp⟩ := s
          dsimp only at hds hl
          subst hds
          obtain ⟨vj, G, L', evj, rj, sim', pm⟩ := sim.out er
          have es' : (ρ.set j none)[i]? = some (some ⟨.lst ds, sl, sa, sp⟩) := by rw [List.getElem?_set_ne (fun h => hij h.symm)]; exact es
          obtain ⟨a, vs, ev, ha, hvl, go⟩ := sim'.relist es' hl
          have haH : H a = some (.lst vs) := rem_same H G _ _ ha
          have inG : ∀ b ∈ G, b ∈ L := fun b h => pm.mem_iff.mpr (List.mem_append_left _ h)
          have nd := pm.nodup_iff.mp sim.nd
          rw [List.nodup_append] at nd
          refine ⟨.ref a, ev, .inl ⟨rfl, vs, SqL.of haH⟩, one sim.h e1 fun ve H1 T s1 n1 d1 p1 => ?_⟩
          refine ⟨vj, evj, by rw [sizeLine_eq]; show 2 ≤ 16777216; decide, fun p hp => ?_⟩
          have spp : Same H1 (upd H1 p (.tup [ve, vj])) := fun b u eb => by
            rw [upd_ne (ne_of_none eb hp)]
            exact eb
          have sall := s1.trans spp
          refine hr _ a vs [.ref p] (vs ++ [.ref p]) _ (sall _ _ haH) (by rw [hvl]; exact hlen) rfl ?_
          rw [hrl] at rj
          have r1 : Rp X.K (fun b => SR N L' r.al false b ∧ b ∉ G) (upd H1 p (.tup [ve, vj])) .full (.ref p) (.tup [xv.d, r.d]) G := by
            have h1 := (((p1.same spp).of_imm (S' := fun b => SR N L' r.al false b ∧ b ∉ G) (l' := .full) him).2)
            have h2 := (rj.same sall).mono (S' := fun b => SR N L' r.al false b ∧ b ∉ G) fun b z => ⟨⟨z.1, fun e w => z.2 e (pm.mem_iff.mpr (List.mem_append_right _ w))⟩, fun w => z.2 rfl (inG b w)⟩
            have := Rp.tup (K := X.K) (S := fun b => SR N L' r.al false b ∧ b ∉ G) (H := upd H1 p (.tup [ve, vj])) (a := p) upd_same (Rps.cons (F := []) h1 (Rps.cons h2 .nil))
            rw [List.append_nil] at this
            exact this
          obtain ⟨Lf, simf, fr⟩ := go (H1 := upd H1 p (.tup [ve, vj])) (us := [.ref p]) (rs := [⟨.tup [xv.d, r.d], .full, r.al, false⟩]) (T := G) (ws := vs ++ [.ref p]) (es := ds ++ [.tup [xv.d, r.d]]) (fun q1 q2 q3 => ⟨_, q1.app q2, fun _ z => z, q3⟩) ((rem_same H G).trans sall) (fun b z => rem_in z) nd.1 (RpL.one r1) rfl
          have e7 : (sa || [(⟨.tup [xv.d, r.d], .full, r.al, false⟩ : Rv)].any fun r => r.al) = (sa || r.al) := by simp
          rw [e7] at simf
          exact q _ _ Lf simf (fr.rem pm)
        · cases z
      · cases z
    · cases z
  · cases z
end
end Ev

set_option Elab.async false
set_option linter.all false
set_option maxRecDepth 100000

namespace Tg
open PySem PySem.Spec L2 Ev
open PyProof.Rows hiding St


@[reducible] def letB {α β : Type} (x : α) (k : α → β) : β := k x
@[reducible] def bindO {α β : Type} (o : Option α) (k : α → Option β) : Option β := o.bind k
theorem bindO_some {α β : Type} {o : Option α} {k : α → Option β} {y : β} (h : bindO o k = some y) : ∃ x, o = some x ∧ k x = some y := bind_some h

inductive Ctl (σ R : Type) where
  | nx (s : σ) | bk (s : σ) | rt (r : R)
def forS {α σ : Type} : List α → σ → (α → σ → Option σ) → Option σ
  | [], s, _ => some s
  | x :: xs, s, f => bindO (f x s) fun s' => forS xs s' f

def forC {α σ R : Type} : List α → σ → (α → σ → Option (Ctl σ R)) → Option (σ ⊕ R)
  | [], s, _ => some (.inl s)
  | x :: xs, s, f => bindO (f x s) fun c => match c with
    | .nx s' => forC xs s' f
    | .bk s' => some (.inl s')
    | .rt r => some (.inr r)
def whS {σ : Type} : Nat → σ → (σ → Option Bool) → (σ → Option σ) → Option σ
  | 0, _, _, _ => none
  | n + 1, s, c, f => bindO (c s) fun k => if k = true then bindO (f s) fun s' => whS n s' c f else some s
def whC {σ R : Type} : Nat → σ → (σ → Option Bool) → (σ → Option (Ctl σ R)) → Option (σ ⊕ R)
  | 0, _, _, _ => none
  | n + 1, s, c, f => bindO (c s) fun k => if k = true then bindO (f s) fun o => (match o with
    | .nx s' => whC n s' c f
    | .bk s' => some (.inl s')
    | .rt r => some (.inr r)) else some (.inl s)

def onS {σ R T : Type} (o : Option (σ ⊕ R)) (k : σ → Option T) (q : R → T) : Option T := bindO o fun c => match c with
  | .inl s => k s
  | .inr r => some (q r)
def big {α : Type} (xs : List α) : Option (List α) := if xs.length ≤ 1000000 then some xs else none
def appO {α : Type} (xs : List α) (x : α) : Option (List α) := if xs.length ≤ 1000000 then some (xs ++ [x]) else none
def catO {α : Type} (xs ys : List α) : Option (List α) := if xs.length + ys.length ≤ 1000000 then some (xs ++ ys) else none
def idx {α : Type} (xs : List α) (i : Int) : Option α := atI xs i
def lcM {α β : Type} (xs : List α) (p : α → Option Bool) (f : α → Option β) : Option (List β) := match xs with
  | [] => some []
  | x :: r => bindO (p x) fun k => if k = true then bindO (f x) fun y => (lcM r p f).map (y :: ·) else lcM r p f
def divO (i j : Int) : Option Int := if 0 < j ∧ j.natAbs.log2 < 9000 then some (i / j) else none
def modO (i j : Int) : Option Int := if 0 < j then some (i % j) else none
def mulO (i j : Int) : Option Int := if ((-(2 ^ 64) < i ∧ i < 2 ^ 64) ∨ (-(2 ^ 64) < j ∧ j < 2 ^ 64)) ∨ i.natAbs.log2 + j.natAbs.log2 < 1000000 then some (i * j) else none
def rngO (i j : Int) : Option (List Int) := if -(2 ^ 62) ≤ i ∧ i < 2 ^ 62 ∧ -(2 ^ 62) ≤ j ∧ j < 2 ^ 62 then some ((List.range (j - i).toNat).map fun (k : Nat) => i + (k : Int)) else none
def rng2O (i j : Int) : Option (List Int) := if (-1000000 < i ∧ i < 1000000) ∧ -1000000 < j ∧ j < 1000000 then some ((List.range (((j - i).toNat + 1) / 2)).map fun (k : Nat) => i + 2 * (k : Int)) else none
def enumI {α : Type} (xs : List α) : List (Int × α) := (xs.zipIdx).map fun p => ((p.2 : Int), p.1)

def aget {κ α : Type} [DecidableEq κ] (m : List (κ × α)) (k : κ) : Option α := (m.find? fun p => decide (p.1 = k)).map (·.2)
def ahas {κ α : Type} [DecidableEq κ] (m : List (κ × α)) (k : κ) : Bool := m.any fun p => decide (p.1 = k)
def aput {κ α : Type} [DecidableEq κ] (m : List (κ × α)) (k : κ) (v : α) : List (κ × α) := if ahas m k = true then m.map (fun p => if p.1 = k then (p.1, v) else p) else m ++ [(k, v)]
def aputO {κ α : Type} [DecidableEq κ] (m : List (κ × α)) (k : κ) (v : α) : Option (List (κ × α)) := if m.length < 1000000 then some (aput m k v) else none


abbrev dI : Int → D := D.int
abbrev dB : Bool → D := D.bl
abbrev dS : Str → D := D.str
abbrev dN : Unit → D := fun _ => D.non
section
variable {α β γ δ ε κ : Type}
def dO (e : α → D) : Option α → D
  | some x => e x
  | none => .non
abbrev dL (e : α → D) (xs : List α) : D := .lst (xs.map e)
abbrev dF (e : α → D) (xs : List α) : D := .fl (xs.map e)
abbrev dT1 (e : α → D) (p : α) : D := .tup [e p]
abbrev dT2 (e : α → D) (f : β → D) (p : α × β) : D := .tup [e p.1, f p.2]
abbrev dT3 (e : α → D) (f : β → D) (g : γ → D) (p : α × β × γ) : D := .tup [e p.1, f p.2.1, g p.2.2]
abbrev dT4 (e : α → D) (f : β → D) (g : γ → D) (h : δ → D) (p : α × β × γ × δ) : D := .tup [e p.1, f p.2.1, g p.2.2.1, h p.2.2.2]
abbrev dT5 (e : α → D) (f : β → D) (g : γ → D) (h : δ → D) (i : ε → D) (p : α × β × γ × δ × ε) : D := .tup [e p.1, f p.2.1, g p.2.2.1, h p.2.2.2.1, i p.2.2.2.2]
abbrev dKI (e : α → D) (m : List (Int × α)) : D := .dk (m.map fun p => (.inl p.1, e p.2))
abbrev dKS (e : α → D) (m : List (Str × α)) : D := .dk (m.map fun p => (.inr p.1, e p.2))
abbrev dKT (e : α → D) (m : List ((Int × Int) × α)) : D := .dt (m.map fun p => ([.inl p.1.1, .inl p.1.2], e p.2))
end


inductive Md where
  | s | a | t | f | p (k : Nat)
structure Cl where
  d : D
  m : Md
  al : Bool
def Md.ok : Md → Sv → Prop
  | .s, x => x.l = .shr
  | .a, _ => True
  | .t, x => x.l ≠ .shr
  | .f, x => x.l = .full
  | .p k, x => x.l = .full ∧ x.pn = some k
structure Cl.ok (c : Cl) (s : Sv) : Prop where
  d : s.d = c.d
  m : imm c.d = false → c.m.ok s
  al : imm c.d = false → s.al = true → c.al = true
abbrev CS := List (Option Cl)
structure Rel (ρ : Ev.Env) (cs : CS) : Prop where
  len : ρ.length = cs.length
  at_ : ∀ (i : Nat) (c : Cl), cs[i]? = some (some c) → ∃ s, ρ[i]? = some (some s) ∧ c.ok s
def nth : CS → Nat → Option Cl
  | [], _ => none
  | c :: _, 0 => c
  | _ :: cs, i + 1 => nth cs i
theorem nth_at : ∀ {cs : CS} {i : Nat} {c : Cl}, nth cs i = some c → cs[i]? = some (some c)
  | [], _, _, h => by cases h
  | x :: _, 0, _, h => by simp only [nth] at h; rw [h]; rfl
  | _ :: cs, i + 1, c, h => by simpa using nth_at (cs := cs) (i := i) h
theorem Rel.nth {ρ : Ev.Env} {cs : CS} (r : Rel ρ cs) {i : Nat} {c : Cl} (h : nth cs i = some c) : ∃ s, ρ[i]? = some (some s) ∧ c.ok s := r.at_ i c (nth_at h)
theorem Rel.lt {ρ : Ev.Env} {cs : CS} (r : Rel ρ cs) {i : Nat} {c : Cl} (h : Tg.nth cs i = some c) : i < ρ.length := by
  obtain ⟨s, e, _⟩ := r.nth h
  exact (List.getElem?_eq_some_iff.mp e).1
def put : CS → Nat → Cl → CS
  | [], _, _ => []
  | _ :: cs, 0, c => some c :: cs
  | x :: cs, i + 1, c => x :: put cs i c
theorem put_set : ∀ (cs : CS) (i : Nat) (c : Cl), put cs i c = cs.set i (some c)
  | [], _, _ => rfl
  | _ :: cs, 0, _ => rfl
  | x :: cs, i + 1, c => by show x :: put cs i c = _; rw [put_set cs i c]; rfl
theorem Rel.put {ρ : Ev.Env} {cs : CS} (r : Rel ρ cs) {i : Nat} {c : Cl} {s : Sv} (h : c.ok s) : Rel (ρ.set i (some s)) (put cs i c) where
  len := by rw [put_set, List.length_set, List.length_set, r.len]
  at_ := fun j c' e => by
    rw [put_set, List.getElem?_set] at e
    rw [List.getElem?_set]
    by_cases q : i = j
    · subst q
      rw [if_pos rfl] at e
      rw [if_pos rfl]
      split at e
      · rename_i hl
        cases e
        rw [if_pos (by rw [r.len]; exact hl)]
        exact ⟨s, rfl, h⟩
      · cases e
    · rw [if_neg q] at e
      rw [if_neg q]
      exact r.at_ j c' e

def leM : Md → Md → Bool
  | .s, .s => true | .f, .f => true | .f, .t => true | .t, .t => true | _, .a => true
  | .p _, .f => true | .p _, .t => true | .p k, .p j => decide (k = j) | _, _ => false
theorem leM_ok {m n : Md} (h : leM m n = true) {x : Sv} (k : m.ok x) : n.ok x := by
  cases m <;> cases n <;> first
    | exact k
    | trivial
    | (cases h; done)
    | (simp only [Md.ok] at k ⊢; rw [k]; decide)
    | exact k.1
    | (show x.l ≠ .shr; rw [k.1]; decide)
    | (have e := of_decide_eq_true h; subst e; exact k)
inductive Le : CS → CS → Prop
  | nil : Le [] []
  | no {x : Option Cl} {cs es : CS} : Le cs es → Le (x :: cs) (none :: es)
  | so {d : D} {m n : Md} {a b : Bool} {cs es : CS} : leM m n = true → (!a || b) = true → Le cs es → Le (some ⟨d, m, a⟩ :: cs) (some ⟨d, n, b⟩ :: es)
theorem Le.rel : ∀ {cs es : CS} {ρ : Ev.Env}, Le cs es → Rel ρ cs → Rel ρ es
  | _, _, _, .nil, r => r
  | _, _, [], .no h, r => by have := r.len; simp at this
  | _, _, [], .so h _ _, r => by have := r.len; simp at this
  | _, _, x :: ρ, .no (cs := cs) (es := es) h, r => by
    have q : Rel ρ es := h.rel ⟨by simpa using r.len, fun i c e => by simpa using r.at_ (i + 1) c (by simpa using e)⟩
    exact ⟨by simp [q.len], fun i c e => by
      cases i with
      | zero => simp at e
      | succ i => simpa using q.at_ i c (by simpa using e)⟩
  | _, _, x :: ρ, .so (d := d) (m := m) (n := n) (a := a) (b := b) (cs := cs) (es := es) h1 h2 h, r => by
    have q : Rel ρ es := h.rel ⟨by simpa using r.len, fun i c e => by simpa using r.at_ (i + 1) c (by simpa using e)⟩
    exact ⟨by simp [q.len], fun i c e => by
      cases i with
      | zero =>
        simp at e
        subst e
        obtain ⟨s, e1, k⟩ := r.at_ 0 ⟨d, m, a⟩ (by simp)
        refine ⟨s, e1, k.d, fun z => leM_ok h1 (k.m z), fun z w => ?_⟩
        have := k.al z w
        simp only at this
        subst this
        simpa using h2
      | succ i => simpa using q.at_ i c (by simpa using e)⟩

def fzC : CS → Nat → CS
  | [], _ => []
  | x :: cs, 0 => x.map (fun c => ⟨c.d, .s, c.al⟩) :: cs
  | x :: cs, i + 1 => x :: fzC cs i
def fzsC : List Nat → CS → CS
  | [], cs => cs
  | i :: is, cs => fzsC is (fzC cs i)
theorem fzC_get : ∀ (cs : CS) (i j : Nat) (c : Cl), (fzC cs i)[j]? = some (some c) → (j ≠ i ∧ cs[j]? = some (some c)) ∨ (j = i ∧ ∃ c0, cs[j]? = some (some c0) ∧ c = ⟨c0.d, .s, c0.al⟩)
  | [], _, _, _, h => by simp [fzC] at h
  | x :: cs, 0, 0, c, h => by
    cases x with
    | none => simp [fzC] at h
    | some c0 => simp [fzC] at h; exact .inr ⟨rfl, c0, rfl, h.symm⟩
  | x :: cs, 0, j + 1, c, h => .inl ⟨by omega, by simpa [fzC] using h⟩
  | x :: cs, i + 1, 0, c, h => .inl ⟨by omega, by simpa [fzC] using h⟩
  | x :: cs, i + 1, j + 1, c, h => by
    rcases fzC_get cs i j c (by simpa [fzC] using h) with ⟨h1, h2⟩ | ⟨h1, c0, h2, h3⟩
    · exact .inl ⟨by omega, by simpa using h2⟩
    · exact .inr ⟨by omega, c0, by simpa using h2, h3⟩
theorem fzC_len : ∀ (cs : CS) (i : Nat), (fzC cs i).length = cs.length
  | [], _ => rfl
  | x :: cs, 0 => rfl
  | x :: cs, i + 1 => by show (fzC cs i).length + 1 = _; rw [fzC_len cs i]; rfl
theorem frz_get (ρ : Ev.Env) (i j : Nat) : (frz i ρ)[j]? = if j = i then (ρ[j]?).map (fun x => x.map fun s => ⟨s.d, .shr, s.al, none⟩) else ρ[j]? := by
  unfold frz
  by_cases h : j = i
  · subst h
    rw [if_pos rfl]
    cases e : ρ[j]? with
    | none => simp [e]
    | some x =>
      cases x with
      | none => simp [e]
      | some s =>
        have := (List.getElem?_eq_some_iff.mp e).1
        simp [this]
  · rw [if_neg h]
    split
    · rw [List.getElem?_set_ne (fun z => h z.symm)]
    · rfl
theorem frz_len (ρ : Ev.Env) (i : Nat) : (frz i ρ).length = ρ.length := by
  unfold frz
  split <;> simp
theorem Rel.fz {ρ : Ev.Env} {cs : CS} (r : Rel ρ cs) (i : Nat) : Rel (frz i ρ) (fzC cs i) where
  len := by rw [frz_len, fzC_len, r.len]
  at_ := fun j c e => by
    rw [frz_get]
    rcases fzC_get cs i j c e with ⟨h1, h2⟩ | ⟨h1, c0, h2, rfl⟩
    · rw [if_neg h1]
      exact r.at_ j c h2
    · rw [if_pos h1]
      obtain ⟨s, e1, k⟩ := r.at_ j c0 h2
      rw [e1]
      exact ⟨_, rfl, k.d, fun _ => rfl, k.al⟩
theorem Rel.fzs : ∀ (is : List Nat) {ρ : Ev.Env} {cs : CS}, Rel ρ cs → Rel (frzs is ρ) (fzsC is cs)
  | [], _, _, r => r
  | i :: is, _, _, r => Rel.fzs is (r.fz i)


def leL : Lv → Lv → Bool
  | .shr, _ => true | .top, .top => true | .top, .full => true | .full, .full => true | _, _ => false
structure ROk (r : Rv) (d : D) (l : Lv) (al vw : Bool) : Prop where
  d : r.d = d
  l : leL l r.l = true
  al : r.al = true → al = true
  vw : r.vw = true → vw = true

def JE (cs : CS) (f : EvE) (d : D) (l : Lv) (al vw : Bool) : Prop := ∀ ρ, Rel ρ cs → ∃ r, f ρ = some r ∧ ROk r d l al vw
abbrev JI (cs : CS) (f : EvE) (d : D) : Prop := JE cs f d .full false false
def JEo {α : Type} (cs : CS) (f : EvE) (e : α → D) (o : Option α) (l : Lv) (al vw : Bool) : Prop := ∀ x, o = some x → JE cs f (e x) l al vw
def JT (cs : CS) (f : EvT) (b : Bool) : Prop := ∀ ρ, Rel ρ cs → f ρ = some b
def JTo (cs : CS) (f : EvT) (o : Option Bool) : Prop := ∀ b, o = some b → JT cs f b
structure AOk (rs : List Rv) (ds : List D) (fl al vw : Bool) : Prop where
  d : rs.map (·.d) = ds
  fl : fl = true → ∀ r ∈ rs, r.l = .full
  al : ∀ r ∈ rs, r.al = true → al = true
  vw : ∀ r ∈ rs, r.vw = true → vw = true
def JA (cs : CS) (g : EvA) (ds : List D) (fl al vw : Bool) : Prop := ∀ ρ, Rel ρ cs → ∃ rs, g ρ = some rs ∧ AOk rs ds fl al vw

def JIt {α : Type} (cs : CS) (it : EvI) (xs : List α) (e : α → D) (al : Bool) : Prop := ∀ ρ, Rel ρ cs → ∃ a, (a = true → al = true) ∧ it ρ = some (xs.map fun x => (e x, a))

def JS {T : Type} (cs : CS) (b : EvS) (o : Option T) (Ψ : T → Out → Prop) : Prop := ∀ ρ, Rel ρ cs → ∀ t, o = some t → ∃ out, b ρ = some out ∧ Ψ t out

def ΨR {R : Type} (e : R → D) (l : Lv) (a : Bool) (P : R → Ev.Env → Prop := fun _ _ => True) (r : R) : Out → Prop
  | .rt ρ d l' a' => d = e r ∧ leL l l' = true ∧ (a' = true → a = true) ∧ P r ρ
  | _ => False

def ΨN (r : Unit) : Out → Prop
  | .rt _ d l' _ => d = .non
  | .nx _ => True
  | _ => False

def ΨJ {σ : Type} (C : σ → CS) (s : σ) : Out → Prop
  | .nx ρ => Rel ρ (C s)
  | _ => False

def ΨL {σ : Type} (C : σ → CS) (s : σ) : Out → Prop
  | .nx ρ => Rel ρ (C s)
  | .ct ρ => Rel ρ (C s)
  | _ => False
def ΨC {σ R : Type} (C : σ → CS) (e : R → D) (l : Lv) (a : Bool) (P : R → Ev.Env → Prop := fun _ _ => True) : Ctl σ R → Out → Prop
  | .nx s, .nx ρ => Rel ρ (C s)
  | .nx s, .ct ρ => Rel ρ (C s)
  | .bk s, .bk ρ => Rel ρ (C s)
  | .rt r, .rt ρ d l' a' => d = e r ∧ leL l l' = true ∧ (a' = true → a = true) ∧ P r ρ
  | _, _ => False
end Tg

set_option Elab.async false
set_option linter.all false
set_option maxRecDepth 100000

namespace Tg
open PySem PySem.Spec L2 Ev
open PyProof.Rows hiding St

theorem ROk.i (d : D) : ROk (rA d) d .full false false := ⟨rfl, rfl, fun h => h, fun h => h⟩
theorem leL_shr (l : Lv) : leL .shr l = true := by cases l <;> rfl
theorem leL_refl (l : Lv) : leL l l = true := by cases l <;> rfl
theorem leL_full {l : Lv} (h : leL .full l = true) : l = .full := by cases l <;> first | rfl | cases h
theorem leL_trans {a b c : Lv} (h : leL a b = true) (h2 : leL b c = true) : leL a c = true := by cases a <;> cases b <;> cases c <;> first | rfl | (cases h; done) | (cases h2; done)
section
variable {cs : CS} {f g : EvE} {ga : EvA} {t t2 : EvT} {i j : Int} {d d2 : D} {l l2 : Lv} {a a2 v v2 : Bool} {α β γ δ ε : Type} {e : α → D} {e2 : β → D}

theorem JE.w (h : JE cs f d l a v) (hl : leL l2 l = true := by rfl) (ha : (!a || a2) = true := by rfl) (hv : (!v || v2) = true := by rfl) : JE cs f d l2 a2 v2 := fun ρ r => by
  obtain ⟨x, e, k⟩ := h ρ r
  refine ⟨x, e, k.d, leL_trans hl k.l, fun z => ?_, fun z => ?_⟩
  · have := k.al z; subst this; simpa using ha
  · have := k.vw z; subst this; simpa using hv
theorem JE.cast (h : JE cs f d l a v) (e : d = d2) : JE cs f d2 l a v := e ▸ h

theorem je_res (al vw : Bool) (z : Ret) (rs : List Rv) (h1 : al = true → a = true) (h2 : vw = true → v = true) : ROk (res al vw z) z.1 (if imm z.1 = true then .full else z.2) a v := by
  unfold res
  by_cases hi : imm z.1 = true
  · rw [if_pos hi, if_pos hi]
    exact ⟨rfl, rfl, fun h => (nomatch h), fun h => (nomatch h)⟩
  · rw [if_neg hi, if_neg hi]
    split
    · rename_i hw
      exact ⟨rfl, by rw [Bool.and_eq_true, decide_eq_true_eq] at hw; rw [hw.2]; rfl, fun h => (nomatch h), fun h => (nomatch h)⟩
    · exact ⟨rfl, leL_refl _, h1, h2⟩

theorem jn_i {i : Nat} {d : D} {m : Md} {al : Bool} (h : nth cs i = some ⟨d, m, al⟩) (hi : imm d = true) : JI cs (eName i) d := fun ρ r => by
  obtain ⟨s, e, k⟩ := r.nth h
  refine ⟨rA d, ?_, .i _⟩
  have hd : s.d = d := k.d
  unfold eName
  rw [e]
  simp only [hd, hi, if_true]
theorem jn_s {i : Nat} {d : D} {al : Bool} (h : nth cs i = some ⟨d, .s, al⟩) : JE cs (eName i) d .shr al false := fun ρ r => by
  obtain ⟨s, e, k⟩ := r.nth h
  unfold eName
  rw [e]
  by_cases hi : imm s.d = true
  · exact ⟨rA s.d, by simp only [hi, if_true], k.d, rfl, fun h => (nomatch h), fun h => nomatch h⟩
  · refine ⟨_, by simp only [hi]; rfl, k.d, rfl, ?_, ?_⟩
    · exact k.al (by rw [← k.d]; simpa using hi)
    · intro z
      have := k.m (by rw [← k.d]; simpa using hi)
      have : s.l = .shr := this
      simp [this] at z
theorem jn_v {i : Nat} {d : D} {m : Md} {al : Bool} (h : nth cs i = some ⟨d, m, al⟩) : JE cs (eName i) d .shr al true := fun ρ r => by
  obtain ⟨s, e, k⟩ := r.nth h
  unfold eName
  rw [e]
  by_cases hi : imm s.d = true
  · exact ⟨rA s.d, by simp only [hi, if_true], k.d, rfl, fun h => (nomatch h), fun h => rfl⟩
  · refine ⟨_, by simp only [hi]; rfl, k.d, rfl, ?_, fun _ => rfl⟩
    exact k.al (by rw [← k.d]; simpa using hi)
theorem jc : JI cs (eC d) d := fun ρ r => ⟨rA d, rfl, .i d⟩
theorem jn_o {o : Option α} {x : α} (h : JE cs f (dO e o) l a v) (hx : o = some x) : JE cs f (e x) l a v := by subst hx; exact h

theorem je_op {C : Int → Int → Bool} {G : Int → Int → D} (h1 : JE cs f (.int i) l a v) (h2 : JE cs g (.int j) l2 a2 v2) (hc : C i j = true) : JI cs (eOp C G f g) (G i j) := fun ρ r => by
  obtain ⟨x, e1, k1⟩ := h1 ρ r
  obtain ⟨y, e2, k2⟩ := h2 ρ r
  refine ⟨rA (G i j), ?_, .i _⟩
  unfold eOp
  rw [e1, e2]
  simp only [Option.bind_some, k1.d, k2.d, hc, if_true]
theorem je_add (h1 : JE cs f (.int i) l a v) (h2 : JE cs g (.int j) l2 a2 v2) : JI cs (ePlus f g) (.int (i + j)) := fun ρ r => by
  obtain ⟨x, e, k⟩ := je_op (C := cT) (G := fun i j => .int (i + j)) h1 h2 rfl ρ r
  refine ⟨x, ?_, k⟩
  have e' : eAdd f g ρ = some x := e
  unfold ePlus
  rw [e']
  rfl
theorem je_sub (h1 : JE cs f (.int i) l a v) (h2 : JE cs g (.int j) l2 a2 v2) : JI cs (eSub f g) (.int (i - j)) := je_op (C := cT) (G := fun i j => .int (i - j)) h1 h2 rfl
theorem je_mulO {k : Int} (h1 : JE cs f (.int i) l a v) (h2 : JE cs g (.int j) l2 a2 v2) (h : mulO i j = some k) : JI cs (eMul f g) (.int k) := by
  unfold mulO at h
  split at h
  · cases h
    exact je_op (G := fun i j => .int (i * j)) h1 h2 (decide_eq_true ‹_›)
  · cases h
theorem je_mulL (h1 : JE cs f (.int i) l a v) (h2 : JE cs g (.int j) l2 a2 v2) (h : decide (-(2 ^ 64) < i ∧ i < 2 ^ 64) = true := by decide) : JI cs (eMul f g) (.int (i * j)) := je_mulO h1 h2 (by unfold mulO; rw [if_pos (.inl (.inl (of_decide_eq_true h)))])
theorem je_mulR (h1 : JE cs f (.int i) l a v) (h2 : JE cs g (.int j) l2 a2 v2) (h : decide (-(2 ^ 64) < j ∧ j < 2 ^ 64) = true := by decide) : JI cs (eMul f g) (.int (i * j)) := je_mulO h1 h2 (by unfold mulO; rw [if_pos (.inl (.inr (of_decide_eq_true h)))])
theorem je_divO {k : Int} (h1 : JE cs f (.int i) l a v) (h2 : JE cs g (.int j) l2 a2 v2) (h : divO i j = some k) : JI cs (eDiv f g) (.int k) := by
  unfold divO at h
  split at h
  · cases h
    exact je_op (G := fun i j => .int (i / j)) h1 h2 (decide_eq_true ‹_›)
  · cases h
theorem je_divL (h1 : JE cs f (.int i) l a v) (h2 : JE cs g (.int j) l2 a2 v2) (h : decide (0 < j ∧ j.natAbs.log2 < 9000) = true := by decide +kernel) : JI cs (eDiv f g) (.int (i / j)) := je_divO h1 h2 (by unfold divO; rw [if_pos (of_decide_eq_true h)])
theorem je_modO {k : Int} (h1 : JE cs f (.int i) l a v) (h2 : JE cs g (.int j) l2 a2 v2) (h : modO i j = some k) : JI cs (eMod f g) (.int k) := by
  unfold modO at h
  split at h
  · cases h
    exact je_op (G := fun i j => .int (i % j)) h1 h2 (decide_eq_true ‹_›)
  · cases h
theorem je_modP (h1 : JE cs f (.int i) l a v) (h2 : JE cs g (.int j) l2 a2 v2) (h : 0 < j) : JI cs (eMod f g) (.int (i % j)) := je_modO h1 h2 (by unfold modO; rw [if_pos h])
theorem je_modL (h1 : JE cs f (.int i) l a v) (h2 : JE cs g (.int j) l2 a2 v2) (h : decide (0 < j) = true := by decide) : JI cs (eMod f g) (.int (i % j)) := je_modP h1 h2 (of_decide_eq_true h)
theorem je_powL (h1 : JE cs f (.int i) l a v) (h2 : JE cs g (.int j) l2 a2 v2) {k : Int} (hk : i ^ j.toNat = k := by decide) (h : decide (0 ≤ j ∧ j ≤ 1000000 ∧ i.natAbs < 2 ^ 64) = true := by decide) : JI cs (ePow f g) (.int k) := by
  subst hk
  exact je_op (G := fun i j => .int (i ^ j.toNat)) h1 h2 h
theorem je_neg (h1 : JE cs f (.int i) l a v) : JI cs (eNeg f) (.int (-i)) := fun ρ r => by
  obtain ⟨x, e1, k1⟩ := h1 ρ r
  refine ⟨rA (.int (-i)), ?_, .i _⟩
  unfold eNeg
  rw [e1]
  simp only [Option.bind_some, k1.d]
def maxI (i j : Int) : Int := if j > i then j else i
def minI (i j : Int) : Int := if j < i then j else i
def absI (i : Int) : Int := if i < 0 then -i else i
theorem maxI_pos {i j : Int} (h : decide (0 < i) = true := by decide) : 0 < maxI i j := by
  have := of_decide_eq_true h
  unfold maxI
  split <;> omega

theorem je_cmp {G : D → D → Option Bool} {b : Bool} (h1 : JE cs f d l a v) (h2 : JE cs g d2 l2 a2 v2) (h : G d d2 = some b) : JI cs (eCmp G f g) (.bl b) := fun ρ r => by
  obtain ⟨x, e1, k1⟩ := h1 ρ r
  obtain ⟨y, e2, k2⟩ := h2 ρ r
  refine ⟨rA (.bl b), ?_, .i _⟩
  unfold eCmp
  rw [e1, e2]
  simp only [Option.bind_some, k1.d, k2.d, h]
  rfl
theorem jt_cmp {G : D → D → Option Bool} {b : Bool} (h1 : JE cs f d l a v) (h2 : JE cs g d2 l2 a2 v2) (h : G d d2 = some b) : JT cs (tCmp G f g) b := fun ρ r => by
  obtain ⟨x, e1, k1⟩ := h1 ρ r
  obtain ⟨y, e2, k2⟩ := h2 ρ r
  unfold Ev.tCmp
  rw [e1, e2]
  simp only [Option.bind_some, k1.d, k2.d, h]
theorem q_ltI : gLt (.int i) (.int j) = some (decide (i < j)) := rfl
theorem q_leI : gLe (.int i) (.int j) = some (decide (i ≤ j)) := rfl
theorem q_gtI : gGt (.int i) (.int j) = some (decide (i > j)) := rfl
theorem q_geI : gGe (.int i) (.int j) = some (decide (i ≥ j)) := rfl

def ltP2 (p q : Int × Int) : Bool := HT.lexLt [p.1, p.2] [q.1, q.2]
def leP2 (p q : Int × Int) : Bool := leT [p.1, p.2] [q.1, q.2]
def geP2 (p q : Int × Int) : Bool := geT [p.1, p.2] [q.1, q.2]
def ltP3 (p q : Int × Int × Int) : Bool := HT.lexLt [p.1, p.2.1, p.2.2] [q.1, q.2.1, q.2.2]
theorem q_lt2 (p q : Int × Int) : gLt (dT2 dI dI p) (dT2 dI dI q) = some (ltP2 p q) := rfl
theorem q_le2 (p q : Int × Int) : gLe (dT2 dI dI p) (dT2 dI dI q) = some (leP2 p q) := rfl
theorem q_ge2 (p q : Int × Int) : gGe (dT2 dI dI p) (dT2 dI dI q) = some (geP2 p q) := rfl
theorem q_lt3 (p q : Int × Int × Int) : gLt (dT3 dI dI dI p) (dT3 dI dI dI q) = some (ltP3 p q) := rfl

structure EqOk (n : Nat) (e : α → D) [DecidableEq α] : Prop where
  shp : ∀ x m, n ≤ m → shp m (e x) = true
  eq : ∀ x y, deq (e x) (e y) = decide (x = y)
theorem ek_int : EqOk 0 dI := ⟨fun x m _ => by simp [Ev.shp], fun x y => deq_int x y⟩
theorem ek_bool : EqOk 0 dB := ⟨fun x m _ => by simp [Ev.shp], fun x y => by
  unfold deq
  simp only [pd, PyData.eqv]
  cases x <;> cases y <;> rfl⟩
theorem ek_non : EqOk 0 dN := ⟨fun x m _ => by simp [Ev.shp], fun x y => by
  unfold deq
  simp only [pd, PyData.eqv]
  rfl⟩
theorem shps_map {n : Nat} (h : ∀ x, shp n (e x) = true) : ∀ xs : List α, shps n (xs.map e) = true
  | [] => rfl
  | x :: xs => by rw [List.map_cons, shps, h, shps_map h xs]; rfl
theorem eqvAll_map [DecidableEq α] (h : ∀ x y, deq (e x) (e y) = decide (x = y)) : ∀ xs ys : List α, PyData.eqvAll (pds (xs.map e)) (pds (ys.map e)) = decide (xs = ys)
  | [], [] => by simp [pds, PyData.eqvAll]
  | [], _ :: _ => by simp [pds, PyData.eqvAll]
  | _ :: _, [] => by simp [pds, PyData.eqvAll]
  | x :: xs, y :: ys => by
    have hh := h x y
    unfold deq at hh
    simp only [List.map_cons, pds, PyData.eqvAll, eqvAll_map h xs ys, hh]
    by_cases q : x = y <;> simp [q]
theorem ek_list [DecidableEq α] {n : Nat} (h : EqOk n e) : EqOk (n + 1) (dL e) := ⟨fun x m hm => by
    obtain ⟨k, rfl⟩ : ∃ k, m = k + 1 := ⟨m - 1, by omega⟩
    simp only [Ev.shp]
    exact shps_map (fun y => h.shp y k (by omega)) x, fun x y => by
    unfold deq
    simp only [pd, PyData.eqv]
    exact eqvAll_map h.eq x y⟩
theorem ek_t2 [DecidableEq α] [DecidableEq β] {n m : Nat} (h : EqOk n e) (h2 : EqOk m e2) : EqOk (max n m + 1) (dT2 e e2) := ⟨fun x k hk => by
    obtain ⟨k, rfl⟩ : ∃ j, k = j + 1 := ⟨k - 1, by omega⟩
    simp only [Ev.shp, shps]
    rw [h.shp _ k (by omega), h2.shp _ k (by omega)]
    rfl, fun x y => by
    have q1 := h.eq x.1 y.1
    have q2 := h2.eq x.2 y.2
    unfold deq at q1 q2 ⊢
    simp only [pd, pds, PyData.eqv, PyData.eqvAll, q1, q2]
    obtain ⟨x1, x2⟩ := x
    obtain ⟨y1, y2⟩ := y
    by_cases z1 : x1 = y1 <;> by_cases z2 : x2 = y2 <;> simp [z1, z2]⟩
theorem ek_t3 [DecidableEq α] [DecidableEq β] [DecidableEq γ] {e3 : γ → D} {n m k : Nat} (h : EqOk n e) (h2 : EqOk m e2) (h3 : EqOk k e3) : EqOk (max n (max m k) + 1) (dT3 e e2 e3) := ⟨fun x j hj => by
    obtain ⟨j, rfl⟩ : ∃ i, j = i + 1 := ⟨j - 1, by omega⟩
    simp only [Ev.shp, shps]
    rw [h.shp _ j (by omega), h2.shp _ j (by omega), h3.shp _ j (by omega)]
    rfl, fun x y => by
    have q1 := h.eq x.1 y.1
    have q2 := h2.eq x.2.1 y.2.1
    have q3 := h3.eq x.2.2 y.2.2
    unfold deq at q1 q2 q3 ⊢
    simp only [pd, pds, PyData.eqv, PyData.eqvAll, q1, q2, q3]
    obtain ⟨x1, x2, x3⟩ := x
    obtain ⟨y1, y2, y3⟩ := y
    by_cases z1 : x1 = y1 <;> by_cases z2 : x2 = y2 <;> by_cases z3 : x3 = y3 <;> simp [z1, z2, z3]⟩

def NotN (e : α → D) : Prop := ∀ x, isN (e x) = false
theorem pd_non {d : D} (h : isN d = false) : PyData.eqv (pd d) .none = false ∧ PyData.eqv .none (pd d) = false := by
  cases d <;> first | (cases h; done) | (simp [pd, PyData.eqv])
theorem ek_opt [DecidableEq α] {n : Nat} (h : EqOk n e) (hn : NotN e) : EqOk n (dO e) := ⟨fun x m hm => by
    cases x with
    | none => simp [dO, Ev.shp]
    | some x => exact h.shp x m hm, fun x y => by
    cases x with
    | none => cases y with
      | none => unfold deq; simp [dO, pd, PyData.eqv]
      | some y => unfold deq; simp only [dO, pd]; rw [(pd_non (hn y)).2]; simp
    | some x => cases y with
      | none => unfold deq; simp only [dO, pd]; rw [(pd_non (hn x)).1]; simp
      | some y => simp only [dO]; rw [h.eq x y]; simp⟩
theorem q_eq [DecidableEq α] {n : Nat} (h : EqOk n e) (x y : α) [Decidable (x = y)] (hn : decide (n ≤ 8) = true := by decide) : gEq (e x) (e y) = some (decide (x = y)) := by
  unfold gEq
  rw [h.shp x 8 (of_decide_eq_true hn), h.shp y 8 (of_decide_eq_true hn), h.eq]
  simp only [Bool.and_self, if_true]
  congr 1
  first | exact decide_eq_decide.mpr Iff.rfl | exact congrArg _ (decide_eq_decide.mpr Iff.rfl)
theorem q_ne [DecidableEq α] {n : Nat} (h : EqOk n e) (x y : α) [Decidable (x = y)] (hn : decide (n ≤ 8) = true := by decide) : gNe (e x) (e y) = some (!decide (x = y)) := by
  unfold gNe
  rw [h.shp x 8 (of_decide_eq_true hn), h.shp y 8 (of_decide_eq_true hn), h.eq]
  simp only [Bool.and_self, if_true]
  congr 1
  first | exact decide_eq_decide.mpr Iff.rfl | exact congrArg _ (decide_eq_decide.mpr Iff.rfl)
theorem gIs_of {d : D} (h : isN d = false) : gIs d .non = some false ∧ gIsNot d .non = some true := by
  cases d <;> first | exact ⟨rfl, rfl⟩ | cases h
theorem q_is (hn : NotN e) (o : Option α) : gIs (dO e o) .non = some o.isNone := by
  cases o with
  | none => rfl
  | some x => exact (gIs_of (hn x)).1
theorem q_isnot (hn : NotN e) (o : Option α) : gIsNot (dO e o) .non = some o.isSome := by
  cases o with
  | none => rfl
  | some x => exact (gIs_of (hn x)).2
theorem any_map_mem' [DecidableEq α] (h : ∀ x y, deq (e x) (e y) = decide (x = y)) (x : α) : ∀ xs : List α, ((xs.map e).any fun z => deq z (e x)) = decide (x ∈ xs)
  | [] => by simp
  | y :: ys => by
    rw [List.map_cons, List.any_cons, any_map_mem' h x ys, h]
    by_cases q : y = x
    · simp [q]
    · simp [q]; exact fun z => absurd z.symm q
theorem any_map_mem [DecidableEq α] (h : ∀ x y, deq (e x) (e y) = decide (x = y)) (x : α) (xs : List α) [Decidable (x ∈ xs)] : ((xs.map e).any fun z => deq z (e x)) = decide (x ∈ xs) := by
  rw [any_map_mem' h x xs]
  exact decide_eq_decide.mpr Iff.rfl
theorem or_none_l {γ : Type} (x : Option γ) : (none : Option γ).or x = x := by cases x <;> rfl
theorem gInL_l (n : Bool) (d : D) (ds : List D) : gInL n d (.lst ds) = if (shp 8 d && shps 7 ds) = true then some (n != (ds.any fun z => deq z d)) else none := by cases d <;> rfl
theorem q_inL [DecidableEq α] {n : Nat} (h : EqOk n e) (x : α) (xs : List α) [Decidable (x ∈ xs)] (hn : decide (n ≤ 7) = true := by decide) : gIn (e x) (dL e xs) = some (decide (x ∈ xs)) := by
  have hn := of_decide_eq_true hn
  show (gInL false (e x) (.lst (xs.map e))).or _ = _
  rw [gInL_l, h.shp x 8 (by omega), shps_map (fun y => h.shp y 7 hn), any_map_mem h.eq]
  cases decide (x ∈ xs) <;> rfl
theorem q_ninL [DecidableEq α] {n : Nat} (h : EqOk n e) (x : α) (xs : List α) [Decidable (x ∈ xs)] (hn : decide (n ≤ 7) = true := by decide) : gNin (e x) (dL e xs) = some (!decide (x ∈ xs)) := by
  have hn := of_decide_eq_true hn
  show (gInL true (e x) (.lst (xs.map e))).or _ = _
  rw [gInL_l, h.shp x 8 (by omega), shps_map (fun y => h.shp y 7 hn), any_map_mem h.eq]
  cases decide (x ∈ xs) <;> rfl
theorem dhas_KI (m : List (Int × α)) (k : Int) : dhas (m.map fun p => ((.inl p.1 : Key), e p.2)) (.inl k) = ahas m k := by
  unfold dhas ahas
  rw [List.any_map]
  congr 1
  funext p
  simp only [Function.comp]
  by_cases h : p.1 = k <;> simp [h]
theorem dhas_KT (m : List ((Int × Int) × α)) (k : Int × Int) : dhas (m.map fun p => (([.inl p.1.1, .inl p.1.2] : List Key), e p.2)) [.inl k.1, .inl k.2] = ahas m k := by
  unfold dhas ahas
  rw [List.any_map]
  congr 1
  funext p
  obtain ⟨⟨x, y⟩, z⟩ := p
  obtain ⟨k1, k2⟩ := k
  simp only [Function.comp]
  by_cases h : x = k1 <;> by_cases h2 : y = k2 <;> simp [h, h2]
theorem dlook_KI (m : List (Int × α)) (k : Int) : dlook (m.map fun p => ((.inl p.1 : Key), e p.2)) (.inl k) = (aget m k).map e := by
  unfold dlook aget
  rw [List.find?_map, Option.map_map, Option.map_map]
  have : ((fun (p : Key × D) => decide (p.1 = .inl k)) ∘ fun (p : Int × α) => ((.inl p.1 : Key), e p.2)) = fun p => decide (p.1 = k) := by
    funext p
    simp only [Function.comp]
    by_cases h : p.1 = k <;> simp [h]
  rw [this]
  rfl
theorem dlook_KT (m : List ((Int × Int) × α)) (k : Int × Int) : dlook (m.map fun p => (([.inl p.1.1, .inl p.1.2] : List Key), e p.2)) [.inl k.1, .inl k.2] = (aget m k).map e := by
  unfold dlook aget
  rw [List.find?_map, Option.map_map, Option.map_map]
  have : ((fun (p : List Key × D) => decide (p.1 = [.inl k.1, .inl k.2])) ∘ fun (p : (Int × Int) × α) => (([.inl p.1.1, .inl p.1.2] : List Key), e p.2)) = fun p => decide (p.1 = k) := by
    funext p
    obtain ⟨⟨x, y⟩, z⟩ := p
    obtain ⟨k1, k2⟩ := k
    simp only [Function.comp]
    by_cases h : x = k1 <;> by_cases h2 : y = k2 <;> simp [h, h2]
  rw [this]
  rfl
theorem q_inKI (m : List (Int × α)) (k : Int) : gIn (.int k) (dKI e m) = some (ahas m k) := by
  show some (false != dhas _ _) = _
  rw [dhas_KI]
  cases ahas m k <;> rfl
theorem q_ninKI (m : List (Int × α)) (k : Int) : gNin (.int k) (dKI e m) = some (!ahas m k) := by
  show some (true != dhas _ _) = _
  rw [dhas_KI]
  cases ahas m k <;> rfl
theorem q_inKT (m : List ((Int × Int) × α)) (k : Int × Int) : gIn (dT2 dI dI k) (dKT e m) = some (ahas m k) := by
  show some (false != dhas _ _) = _
  rw [dhas_KT]
  cases ahas m k <;> rfl
theorem q_ninKT (m : List ((Int × Int) × α)) (k : Int × Int) : gNin (dT2 dI dI k) (dKT e m) = some (!ahas m k) := by
  show some (true != dhas _ _) = _
  rw [dhas_KT]
  cases ahas m k <;> rfl
theorem q_inT2 (x : Int) (p : Int × Int) : gIn (.int x) (dT2 dI dI p) = some (p.1 == x || p.2 == x) := by
  show some (false != ([p.1, p.2].any fun z => z == x)) = _
  simp
theorem q_ninT2 (x : Int) (p : Int × Int) : gNin (.int x) (dT2 dI dI p) = some (!(p.1 == x || p.2 == x)) := by
  show some (true != ([p.1, p.2].any fun z => z == x)) = _
  simp only [List.any_cons, List.any_nil, Bool.or_false]
  cases (p.1 == x || p.2 == x) <;> rfl

theorem jt_val {b : Bool} (h : JE cs f (.bl b) l a v) : JT cs (tVal f) b := fun ρ r => by
  obtain ⟨x, e1, k1⟩ := h ρ r
  unfold tVal
  rw [e1]
  simp only [Option.bind_some, k1.d]
theorem jt_and {b c : Bool} (h : JT cs t b) (h2 : JT cs t2 c) : JT cs (tAnd t t2) (b && c) := fun ρ r => by
  unfold Ev.tAnd
  rw [h ρ r]
  cases b with
  | true => exact h2 ρ r
  | false => rfl
theorem jt_or {b c : Bool} (h : JT cs t b) (h2 : JT cs t2 c) : JT cs (tOr t t2) (b || c) := fun ρ r => by
  unfold Ev.tOr
  rw [h ρ r]
  cases b with
  | false => exact h2 ρ r
  | true => rfl
theorem jt_not {b : Bool} (h : JT cs t b) : JT cs (tNot t) (!b) := fun ρ r => by
  unfold Ev.tNot
  rw [h ρ r]
  rfl

theorem jt_andO {b c : Bool} {o : Option Bool} (h : JT cs t b) (h2 : JTo cs t2 o) (hc : (if b = true then o else some false) = some c) : JT cs (tAnd t t2) c := fun ρ r => by
  unfold Ev.tAnd
  rw [h ρ r]
  cases b with
  | true => exact h2 c hc ρ r
  | false => cases hc; rfl
theorem jt_orO {b c : Bool} {o : Option Bool} (h : JT cs t b) (h2 : JTo cs t2 o) (hc : (if b = true then some true else o) = some c) : JT cs (tOr t t2) c := fun ρ r => by
  unfold Ev.tOr
  rw [h ρ r]
  cases b with
  | false => exact h2 c hc ρ r
  | true => cases hc; rfl
theorem jto_p {b : Bool} (h : JT cs t b) : JTo cs t (some b) := fun c e => by cases e; exact h
theorem jto_b {k : α → Option Bool} {o : Option α} (h : ∀ x, o = some x → JTo cs t (k x)) : JTo cs t (bindO o k) := fun c e => by
  obtain ⟨x, e1, e2⟩ := bindO_some e
  exact h x e1 c e2
theorem jeo_p {x : α} (h : JE cs f (e x) l a v) : JEo cs f e (some x) l a v := fun c q => by cases q; exact h
theorem jeo_b {k : β → Option α} {o : Option β} (h : ∀ x, o = some x → JEo cs f e (k x) l a v) : JEo cs f e (bindO o k) l a v := fun c q => by
  obtain ⟨x, e1, e2⟩ := bindO_some q
  exact h x e1 c e2

theorem je_not {b : Bool} (h : JE cs f (.bl b) l a v) : JI cs (eNot f) (.bl !b) := fun ρ r => by
  obtain ⟨x, e1, k1⟩ := h ρ r
  refine ⟨rA (.bl !b), ?_, .i _⟩
  unfold eNot
  rw [e1]
  simp only [Option.bind_some, k1.d]
theorem je_andO {b c : Bool} {o : Option Bool} (h : JE cs f (.bl b) l a v) (h2 : JEo cs g dB o .full false false) (hc : (if b = true then o else some false) = some c) : JI cs (eAnd f g) (.bl c) := fun ρ r => by
  obtain ⟨x, e1, k1⟩ := h ρ r
  unfold eAnd
  rw [e1]
  simp only [Option.bind_some, k1.d]
  cases b with
  | true => exact h2 c hc ρ r
  | false => cases hc; exact ⟨_, rfl, .i _⟩
theorem je_orO {b c : Bool} {o : Option Bool} (h : JE cs f (.bl b) l a v) (h2 : JEo cs g dB o .full false false) (hc : (if b = true then some true else o) = some c) : JI cs (eOr f g) (.bl c) := fun ρ r => by
  obtain ⟨x, e1, k1⟩ := h ρ r
  unfold eOr
  rw [e1]
  simp only [Option.bind_some, k1.d]
  cases b with
  | false => exact h2 c hc ρ r
  | true => cases hc; exact ⟨_, rfl, .i _⟩
theorem je_and {b c : Bool} (h : JE cs f (.bl b) l a v) (h2 : JI cs g (.bl c)) : JI cs (eAnd f g) (.bl (b && c)) := je_andO (o := some c) h (jeo_p (e := dB) h2) (by cases b <;> rfl)
theorem je_or {b c : Bool} (h : JE cs f (.bl b) l a v) (h2 : JI cs g (.bl c)) : JI cs (eOr f g) (.bl (b || c)) := je_orO (o := some c) h (jeo_p (e := dB) h2) (by cases b <;> rfl)
theorem je_if {b : Bool} {x y : α} (h : JT cs t b) (h1 : JE cs f (e x) l a v) (h2 : JE cs g (e y) l a v) : JE cs (eIf t f g) (e (if b = true then x else y)) l a v := fun ρ r => by
  unfold eIf
  rw [h ρ r]
  cases b with
  | true => exact h1 ρ r
  | false => exact h2 ρ r
theorem je_ifO {b : Bool} {o1 o2 : Option α} {x : α} (h : JT cs t b) (h1 : JEo cs f e o1 l a v) (h2 : JEo cs g e o2 l a v) (hx : (if b = true then o1 else o2) = some x) : JE cs (eIf t f g) (e x) l a v := fun ρ r => by
  unfold eIf
  rw [h ρ r]
  cases b with
  | true => exact h1 x hx ρ r
  | false => exact h2 x hx ρ r

theorem ja_nil : JA cs aNil [] true false false := fun ρ r => ⟨[], rfl, rfl, fun _ _ h => (nomatch h), fun _ h => (nomatch h), fun _ h => nomatch h⟩
def isFull : Lv → Bool
  | .full => true
  | _ => false
theorem ja_cons {ds : List D} {fl al vw : Bool} (h : JE cs f d l a v) (h2 : JA cs ga ds fl al vw) : JA cs (aCons f ga) (d :: ds) (isFull l && fl) (a || al) (v || vw) := fun ρ r => by
  obtain ⟨x, e1, k1⟩ := h ρ r
  obtain ⟨rs, e2, k2⟩ := h2 ρ r
  refine ⟨x :: rs, ?_, ?_, ?_, ?_, ?_⟩
  · unfold aCons
    rw [e1, e2]
    rfl
  · rw [List.map_cons, k1.d, k2.d]
  · intro z y hy
    rw [Bool.and_eq_true] at z
    rcases List.mem_cons.mp hy with rfl | hy
    · have hl : l = .full := by cases l <;> first | rfl | (cases z.1; done)
      subst hl
      exact leL_full k1.l
    · exact k2.fl z.2 y hy
  · intro y hy z
    rcases List.mem_cons.mp hy with rfl | hy
    · rw [k1.al z]; rfl
    · rw [k2.al y hy z]; cases a <;> rfl
  · intro y hy z
    rcases List.mem_cons.mp hy with rfl | hy
    · rw [k1.vw z]; rfl
    · rw [k2.vw y hy z]; cases v <;> rfl
theorem AOk.nvw {rs : List Rv} {ds : List D} {fl al : Bool} (k : AOk rs ds fl al false) : rs.all (fun r => !r.vw) = true := List.all_eq_true.mpr fun y hy => by
  cases z : y.vw with
  | false => rfl
  | true => exact nomatch k.vw y hy z
theorem AOk.anyal {rs : List Rv} {ds : List D} {fl al vw : Bool} (k : AOk rs ds fl al vw) (h : rs.any (·.al) = true) : al = true := by
  obtain ⟨y, hy, z⟩ := List.any_eq_true.mp h
  exact k.al y hy z
theorem AOk.anyvw {rs : List Rv} {ds : List D} {fl al vw : Bool} (k : AOk rs ds fl al vw) (h : rs.any (·.vw) = true) : vw = true := by
  obtain ⟨y, hy, z⟩ := List.any_eq_true.mp h
  exact k.vw y hy z
theorem AOk.allfull {rs : List Rv} {ds : List D} {al : Bool} (k : AOk rs ds true al false) : rs.all (fun r => !r.vw && decide (r.l = .full)) = true := List.all_eq_true.mpr fun y hy => by
  rw [k.fl rfl y hy]
  have := List.all_eq_true.mp k.nvw y hy
  simp [this]
theorem je_tup {ds : List D} {fl al : Bool} (h : JA cs ga ds fl al false) (hl : decide (ds.length ≤ 1000) = true := by rfl) : JE cs (eTup ga) (.tup ds) (if fl = true then .full else .shr) al false := fun ρ r => by
  obtain ⟨rs, e2, k⟩ := h ρ r
  have hlen : rs.length ≤ 1000 := by rw [← List.length_map (f := fun r : Rv => r.d), k.d]; exact of_decide_eq_true hl
  unfold eTup mkTup
  rw [e2]
  simp only [Option.bind_some]
  rw [if_pos (by rw [k.nvw, decide_eq_true hlen]; rfl)]
  cases fl with
  | true => rw [if_pos k.allfull]; exact ⟨_, rfl, by rw [k.d], rfl, k.anyal, fun h => nomatch h⟩
  | false =>
    split
    · exact ⟨_, rfl, by rw [k.d], rfl, k.anyal, fun h => nomatch h⟩
    · exact ⟨_, rfl, by rw [k.d], rfl, k.anyal, fun h => nomatch h⟩
theorem je_lst {ds : List D} {fl al : Bool} (h : JA cs ga ds fl al false) (hl : decide (ds.length ≤ 1000) = true := by rfl) : JE cs (eLst ga) (.lst ds) (if fl = true then .full else .top) al false := fun ρ r => by
  obtain ⟨rs, e2, k⟩ := h ρ r
  have hlen : rs.length ≤ 1000 := by rw [← List.length_map (f := fun r : Rv => r.d), k.d]; exact of_decide_eq_true hl
  unfold eLst mkLst
  rw [e2]
  simp only [Option.bind_some]
  rw [if_pos (by rw [k.nvw, decide_eq_true hlen]; rfl)]
  cases fl with
  | true => rw [if_pos k.allfull]; exact ⟨_, rfl, by rw [k.d], rfl, k.anyal, fun h => nomatch h⟩
  | false =>
    split
    · exact ⟨_, rfl, by rw [k.d], rfl, k.anyal, fun h => nomatch h⟩
    · exact ⟨_, rfl, by rw [k.d], rfl, k.anyal, fun h => nomatch h⟩
theorem je_dk : JI cs eDk (.dk []) := fun ρ r => ⟨_, rfl, rfl, rfl, fun h => (nomatch h), fun h => nomatch h⟩
theorem je_dt : JI cs eDt (.dt []) := fun ρ r => ⟨_, rfl, rfl, rfl, fun h => (nomatch h), fun h => nomatch h⟩

theorem part_ok {x : Rv} (k : ROk x d l a v) (d' : D) : ROk (part x d') d' (if imm d' = true then .full else .shr) a v := by
  unfold Ev.part
  by_cases hi : imm d' = true
  · rw [if_pos hi, if_pos hi]
    exact ⟨rfl, rfl, fun h => (nomatch h), fun h => nomatch h⟩
  · rw [if_neg hi, if_neg hi]
    exact ⟨rfl, rfl, k.al, k.vw⟩
theorem part_okI {x : Rv} {d' : D} (h : imm d' = true) : ROk (part x d') d' .full false false := by
  unfold Ev.part
  rw [if_pos h]
  exact .i d'
theorem je_ix {d' : D} (h1 : JE cs f d l a v) (h2 : JE cs g d2 l2 a2 v2) (h : gIx d d2 = some d') : JE cs (eIx f g) d' .shr a v := fun ρ r => by
  obtain ⟨x, e1, k1⟩ := h1 ρ r
  obtain ⟨y, e2, k2⟩ := h2 ρ r
  refine ⟨part x d', ?_, ?_⟩
  · unfold eIx
    rw [e1, e2]
    simp only [Option.bind_some, k1.d, k2.d, h, Option.map_some]
  · have := part_ok k1 d'
    exact ⟨this.d, leL_shr _, this.al, this.vw⟩
theorem je_ixI {d' : D} (h1 : JE cs f d l a v) (h2 : JE cs g d2 l2 a2 v2) (h : gIx d d2 = some d') (hi : imm d' = true) : JI cs (eIx f g) d' := fun ρ r => by
  obtain ⟨x, e1, k1⟩ := h1 ρ r
  obtain ⟨y, e2, k2⟩ := h2 ρ r
  refine ⟨part x d', ?_, part_okI hi⟩
  unfold eIx
  rw [e1, e2]
  simp only [Option.bind_some, k1.d, k2.d, h, Option.map_some]
theorem atI_map {xs : List α} {y : α} (h : idx xs i = some y) : atI (xs.map e) i = some (e y) := by
  unfold idx atI at h
  unfold atI
  rw [List.length_map]
  obtain ⟨j, e1, e2⟩ := bind_some h
  rw [e1]
  simp only [Option.bind_some, List.getElem?_map, e2, Option.map_some]
theorem x_l {xs : List α} {y : α} (h : idx xs i = some y) : gIx (dL e xs) (.int i) = some (e y) := atI_map h
theorem x_f {xs : List α} {y : α} (h : idx xs i = some y) : gIx (dF e xs) (.int i) = some (e y) := atI_map h
theorem x_KI {m : List (Int × α)} {k : Int} {y : α} (h : aget m k = some y) : gIx (dKI e m) (.int k) = some (e y) := by
  show dlook _ _ = _
  rw [dlook_KI, h]
  rfl
theorem x_KT {m : List ((Int × Int) × α)} {k : Int × Int} {y : α} (h : aget m k = some y) : gIx (dKT e m) (dT2 dI dI k) = some (e y) := by
  show dlook _ _ = _
  rw [dlook_KT, h]
  rfl
theorem je_len {n : Nat} (h : JE cs f d l a v) (hn : lenOf d = some n) : JI cs (eLen (aCons f aNil)) (.int n) := fun ρ r => by
  obtain ⟨x, e1, k1⟩ := h ρ r
  refine ⟨rI n, ?_, .i _⟩
  unfold eLen aCons aNil
  simp only [e1, Option.bind_some, k1.d, hn, Option.map_some]
  rfl
theorem n_l (xs : List α) : lenOf (dL e xs) = some xs.length := by show some _ = _; rw [List.length_map]
theorem n_f (xs : List α) : lenOf (dF e xs) = some xs.length := by show some _ = _; rw [List.length_map]
theorem n_KI (xs : List (Int × α)) : lenOf (dKI e xs) = some xs.length := by show some _ = _; rw [List.length_map]

def JO (cs : CS) (f : EvO) (o : Option Int) : Prop := ∀ ρ, Rel ρ cs → f ρ = some o
theorem jo_n : JO cs oNone none := fun ρ r => rfl
theorem jo_s (h : JE cs f (.int i) l a v) : JO cs (oSome f) (some i) := fun ρ r => by
  obtain ⟨x, e1, k1⟩ := h ρ r
  unfold oSome
  rw [e1]
  simp only [Option.bind_some, k1.d, intOf, Option.map_some]
theorem cutL_map (xs : List α) (lo hi : Option Int) : cutL (xs.map e) lo hi = (cutL xs lo hi).map e := by
  unfold cutL
  rw [List.length_map, List.map_take, List.map_drop]
theorem je_sl {f1 f2 : EvO} {lo hi : Option Int} {z : Ret} (h : JE cs f d l a v) (h1 : JO cs f1 lo) (h2 : JO cs f2 hi) (hz : cutD d lo hi = some z) : JE cs (eSl f f1 f2) z.1 z.2 a v := fun ρ r => by
  obtain ⟨x, e1, k1⟩ := h ρ r
  refine ⟨res x.al x.vw z, ?_, ?_⟩
  · unfold eSl
    rw [e1]
    simp only [Option.bind_some, h1 ρ r, h2 ρ r, k1.d, hz, Option.map_some]
  · have := je_res (a := a) (v := v) x.al x.vw z [] k1.al k1.vw
    refine ⟨this.d, leL_trans ?_ this.l, this.al, this.vw⟩
    split
    · cases z.2 <;> rfl
    · exact leL_refl _
theorem je_slI {f1 f2 : EvO} {lo hi : Option Int} {d' : D} {l' : Lv} (h : JE cs f d l a v) (h1 : JO cs f1 lo) (h2 : JO cs f2 hi) (hz : cutD d lo hi = some (d', l')) (hi' : imm d' = true ∨ whole d' = true ∧ l' = .top) : JI cs (eSl f f1 f2) d' := fun ρ r => by
  obtain ⟨x, e1, k1⟩ := h ρ r
  refine ⟨res x.al x.vw (d', l'), ?_, ?_⟩
  · unfold eSl
    rw [e1]
    simp only [Option.bind_some, h1 ρ r, h2 ρ r, k1.d, hz, Option.map_some]
  · unfold res
    by_cases q : imm d' = true
    · rw [if_pos q]; exact .i _
    · rw [if_neg q]
      rcases hi' with hi' | ⟨h3, h4⟩
      · exact absurd hi' q
      · rw [if_pos (by rw [h3, h4]; rfl)]
        exact ⟨rfl, rfl, fun h => (nomatch h), fun h => nomatch h⟩
theorem immAll_map (h : ∀ x, imm (e x) = true) : ∀ xs : List α, immAll (xs.map e) = true
  | [] => rfl
  | x :: xs => by rw [List.map_cons, immAll, h, immAll_map h xs]; rfl
theorem je_slL {f1 f2 : EvO} {lo hi : Option Int} {xs : List α} (h : JE cs f (dL e xs) l a v) (h1 : JO cs f1 lo) (h2 : JO cs f2 hi) : JE cs (eSl f f1 f2) (dL e (cutL xs lo hi)) .top a v :=
  (je_sl h h1 h2 rfl).cast (by rw [cutL_map])
theorem je_slLI {f1 f2 : EvO} {lo hi : Option Int} {xs : List α} (h : JE cs f (dL e xs) l a v) (h1 : JO cs f1 lo) (h2 : JO cs f2 hi) (hi' : ∀ x, imm (e x) = true) : JI cs (eSl f f1 f2) (dL e (cutL xs lo hi)) :=
  JE.cast (je_slI h h1 h2 rfl (.inr ⟨by rw [cutL_map]; exact immAll_map hi' _, rfl⟩)) (by rw [cutL_map])
theorem je_slFI {f1 f2 : EvO} {lo hi : Option Int} {xs : List α} (h : JE cs f (dF e xs) l a v) (h1 : JO cs f1 lo) (h2 : JO cs f2 hi) (hi' : ∀ x, imm (e x) = true) : JI cs (eSl f f1 f2) (dL e (cutL xs lo hi)) :=
  JE.cast (je_slI h h1 h2 rfl (.inr ⟨by rw [cutL_map]; exact immAll_map hi' _, rfl⟩)) (by rw [cutL_map])
theorem je_rev {xs : List α} (h : JE cs f (dL e xs) l a v) : JE cs (eRev f) (dL e xs.reverse) .top a v := fun ρ r => by
  obtain ⟨x, e1, k1⟩ := h ρ r
  refine ⟨res x.al x.vw (.lst (xs.map e).reverse, .top), ?_, ?_⟩
  · unfold eRev
    rw [e1]
    simp only [Option.bind_some, k1.d, seqOf, Option.map_some]
  · have := je_res (a := a) (v := v) x.al x.vw (.lst (xs.map e).reverse, .top) [] k1.al k1.vw
    refine ⟨by rw [this.d]; simp, leL_trans ?_ this.l, this.al, this.vw⟩
    split <;> rfl
theorem je_revI {xs : List α} (h : JE cs f (dL e xs) l a v) (hi' : ∀ x, imm (e x) = true) : JI cs (eRev f) (dL e xs.reverse) := fun ρ r => by
  obtain ⟨x, e1, k1⟩ := h ρ r
  refine ⟨⟨.lst (xs.map e).reverse, .full, false, false⟩, ?_, ?_⟩
  · unfold eRev res
    rw [e1]
    simp only [Option.bind_some, k1.d, seqOf, Option.map_some]
    rw [if_neg (fun z => nomatch z), if_pos]
    show (immAll _ && _) = true
    rw [← List.map_reverse, immAll_map hi']
    rfl
  · exact ⟨by simp, rfl, fun h => (nomatch h), fun h => nomatch h⟩
theorem catO_len {xs ys zs : List α} (h : catO xs ys = some zs) : xs.length + ys.length ≤ 1000000 ∧ zs = xs ++ ys := by
  unfold catO at h
  split at h
  · cases h; exact ⟨‹_›, rfl⟩
  · cases h
theorem je_cat {xs ys zs : List α} (h : JE cs f (dL e xs) l a v) (h2 : JE cs g (dL e ys) l2 a2 v2) (hz : catO xs ys = some zs) : JE cs (ePlus f g) (dL e zs) .top (a || a2) (v || v2) := fun ρ r => by
  obtain ⟨x, e1, k1⟩ := h ρ r
  obtain ⟨y, e2, k2⟩ := h2 ρ r
  obtain ⟨hl, rfl⟩ := catO_len hz
  refine ⟨res (x.al || y.al) (x.vw || y.vw) (.lst (xs.map e ++ ys.map e), .top), ?_, ?_⟩
  · unfold ePlus eCat eAdd eOp
    rw [e1, e2]
    simp only [Option.bind_some, k1.d, k2.d, List.length_map]
    rw [if_pos hl]
    rfl
  · have := je_res (a := a || a2) (v := v || v2) (x.al || y.al) (x.vw || y.vw) (.lst (xs.map e ++ ys.map e), .top) [] (fun z => by
      rcases Bool.or_eq_true _ _ ▸ z with z | z
      · rw [k1.al z]; rfl
      · rw [k2.al z]; cases a <;> rfl) (fun z => by
      rcases Bool.or_eq_true _ _ ▸ z with z | z
      · rw [k1.vw z]; rfl
      · rw [k2.vw z]; cases v <;> rfl)
    refine ⟨by rw [this.d]; simp, leL_trans ?_ this.l, this.al, this.vw⟩
    split <;> rfl
theorem je_catI {xs ys zs : List α} (h : JE cs f (dL e xs) l a v) (h2 : JE cs g (dL e ys) l2 a2 v2) (hz : catO xs ys = some zs) (hi' : ∀ x, imm (e x) = true) : JI cs (ePlus f g) (dL e zs) := fun ρ r => by
  obtain ⟨x, e1, k1⟩ := h ρ r
  obtain ⟨y, e2, k2⟩ := h2 ρ r
  obtain ⟨hl, rfl⟩ := catO_len hz
  refine ⟨⟨.lst (xs.map e ++ ys.map e), .full, false, false⟩, ?_, ?_⟩
  · unfold ePlus eCat eAdd eOp
    rw [e1, e2]
    simp only [Option.bind_some, k1.d, k2.d, List.length_map]
    rw [if_pos hl]
    unfold res
    rw [if_neg (fun z => nomatch z), if_pos]
    · rfl
    · show (immAll _ && _) = true
      rw [← List.map_append, immAll_map hi']
      rfl
  · exact ⟨by simp, rfl, fun h => (nomatch h), fun h => nomatch h⟩

theorem je_bi {G : List D → Option Ret} {ds : List D} {fl al vw : Bool} {l' : Lv} {d' : D} (h : JA cs ga ds fl al vw) (hz : G ds = some (d', l')) : JE cs (eBi G ga) d' l' al vw := fun ρ r => by
  obtain ⟨rs, e2, k⟩ := h ρ r
  refine ⟨res (rs.any (·.al)) (rs.any (·.vw)) (d', l'), ?_, ?_⟩
  · unfold eBi
    rw [e2]
    simp only [Option.bind_some, k.d, hz, Option.map_some]
  · have := je_res (a := al) (v := vw) (rs.any (·.al)) (rs.any (·.vw)) (d', l') [] k.anyal k.anyvw
    refine ⟨this.d, leL_trans ?_ this.l, this.al, this.vw⟩
    split
    · cases l' <;> rfl
    · exact leL_refl _
theorem res_I {al vw : Bool} {d' : D} {l' : Lv} (hi : imm d' = true ∨ whole d' = true ∧ l' = .top) : ROk (res al vw (d', l')) d' .full false false := by
  unfold res
  by_cases q : imm d' = true
  · rw [if_pos q]; exact .i _
  · rw [if_neg q]
    rcases hi with hi | ⟨h3, h4⟩
    · exact absurd hi q
    · rw [if_pos (by rw [h3, h4]; rfl)]
      exact ⟨rfl, rfl, fun h => (nomatch h), fun h => nomatch h⟩
theorem je_biI {G : List D → Option Ret} {ds : List D} {fl al vw : Bool} {l' : Lv} {d' : D} (h : JA cs ga ds fl al vw) (hz : G ds = some (d', l')) (hi : imm d' = true ∨ whole d' = true ∧ l' = .top) : JI cs (eBi G ga) d' := fun ρ r => by
  obtain ⟨rs, e2, k⟩ := h ρ r
  refine ⟨res (rs.any (·.al)) (rs.any (·.vw)) (d', l'), ?_, res_I hi⟩
  unfold eBi
  rw [e2]
  simp only [Option.bind_some, k.d, hz, Option.map_some]
theorem whole_map {xs : List α} (h : ∀ x, imm (e x) = true) : whole (dL e xs) = true := immAll_map h xs
theorem b_min : bMin2 [.int i, .int j] = some (.int (minI i j), .full) := rfl
theorem b_max : bMax2 [.int i, .int j] = some (.int (maxI i j), .full) := rfl
theorem b_abs : bAbs [.int i] = some (.int (absI i), .full) := rfl
theorem b_int : bInt [.int i] = some (.int i, .full) := rfl
theorem b_intB {b : Bool} : bInt [.bl b] = some (.int (if b = true then 1 else 0), .full) := rfl
theorem b_sum (xs : List Int) : bSum [dL dI xs] = some (.int xs.sum, .full) := by
  unfold bSum
  simp only [seqOf, Option.bind_some]
  rw [show (xs.map dI) = dInts xs from rfl, intsOf_d]
  rfl
theorem blsOf_map : ∀ xs : List Bool, blsOf (xs.map dB) = some xs
  | [] => rfl
  | x :: xs => by
    show (some x).bind (fun i => (blsOf (xs.map dB)).map (i :: ·)) = _
    rw [blsOf_map xs]
    rfl
theorem b_all (xs : List Bool) : bAll [dL dB xs] = some (.bl (xs.all id), .full) := by
  unfold bAll
  simp only [blsOf_map, Option.map_some]
theorem b_any (xs : List Bool) : bAny [dL dB xs] = some (.bl (xs.any id), .full) := by
  unfold bAny
  simp only [blsOf_map, Option.map_some]
theorem b_list (xs : List α) : bList [dL e xs] = some (dL e xs, .top) := rfl
theorem b_listF (xs : List α) : bList [dF e xs] = some (dL e xs, .top) := rfl
theorem b_sortedI (xs : List Int) : bSorted [dL dI xs] = some (dL dI (sortI xs), .top) := bSorted_ints xs
theorem rowsOf_m {ro : α → List Int} (h : ∀ x, e x = dRow (ro x)) : ∀ xs : List α, rowsOf (xs.map e) = some (xs.map ro)
  | [] => rfl
  | x :: xs => by
    rw [List.map_cons, rowsOf, rowsOf_m h xs, h]
    unfold rowOf dRow
    simp only [intsOf_map, Option.bind_some, Option.map_some, List.map_cons]
theorem b_sortedR {ro : α → List Int} {n : Nat} (h : ∀ x, e x = dRow (ro x)) (hn : ∀ x, (ro x).length = n + 1) (xs : List α) : bSorted [dL e xs] = some (dL e (isort (fun x y => HT.lexLt (ro x) (ro y)) xs), .top) := by
  cases xs with
  | nil => rfl
  | cons x xs =>
    have h1 : bSortedI [dL e (x :: xs)] = none := by
      unfold bSortedI
      simp only [seqOf, Option.bind_some, List.map_cons]
      rw [h]
      rfl
    show (bSortedI _).or (bSortedR _) = _
    rw [h1, or_none_l]
    unfold bSortedR
    have hl : sameLen ((x :: xs).map ro) = true := by
      unfold sameLen
      rw [List.map_cons]
      simp [hn]
    simp only [seqOf, Option.bind_some, rowsOf_m h, hl, if_true]
    have : sortR ((x :: xs).map ro) = (isort (fun x y => HT.lexLt (ro x) (ro y)) (x :: xs)).map ro := isort_map _ _ _
    rw [this, List.map_map]
    have : dRow ∘ ro = e := by funext y; exact (h y).symm
    rw [this]
abbrev sort2 (xs : List (Int × Int)) : List (Int × Int) := isort ltP2 xs
abbrev sort3 (xs : List (Int × Int × Int)) : List (Int × Int × Int) := isort ltP3 xs
theorem b_sorted2 (xs : List (Int × Int)) : bSorted [dL (dT2 dI dI) xs] = some (dL (dT2 dI dI) (sort2 xs), .top) := b_sortedR (e := dT2 dI dI) (ro := fun p => [p.1, p.2]) (n := 1) (fun _ => rfl) (fun _ => rfl) xs
theorem b_sorted3 (xs : List (Int × Int × Int)) : bSorted [dL (dT3 dI dI dI) xs] = some (dL (dT3 dI dI dI) (sort3 xs), .top) := b_sortedR (e := dT3 dI dI dI) (ro := fun p => [p.1, p.2.1, p.2.2]) (n := 2) (fun _ => rfl) (fun _ => rfl) xs
theorem je_mt {T : String} {G : D → List D → Option Ret} {ds : List D} {fl al vw : Bool} {l' : Lv} {d' : D} (h1 : JE cs f d l a v) (h : JA cs ga ds fl al vw) (hz : G d ds = some (d', l')) (hi : imm d' = true ∨ whole d' = true ∧ l' = .top) (hr : rcv T d = true := by rfl) : JI cs (eMt T G f ga) d' := fun ρ r => by
  obtain ⟨x, e1, k1⟩ := h1 ρ r
  obtain ⟨rs, e2, k⟩ := h ρ r
  refine ⟨res (x.al || rs.any (·.al)) (x.vw || rs.any (·.vw)) (d', l'), ?_, res_I hi⟩
  unfold eMt
  rw [e1]
  simp only [Option.bind_some, k1.d]
  rw [if_pos hr, e2]
  simp only [Option.bind_some, k.d, hz, Option.map_some]
def idxO [DecidableEq α] (xs : List α) (x : α) : Option Int := (xs.findIdx? fun z => decide (z = x)).map fun j => ((j : Nat) : Int)
theorem m_idx [DecidableEq α] {n : Nat} (h : EqOk n e) {xs : List α} {x : α} {k : Int} (hk : idxO xs x = some k) (hn : decide (n ≤ 7) = true := by decide) : mIndex (dL e xs) [e x] = some (.int k, .full) := by
  have hn := of_decide_eq_true hn
  unfold mIndex
  simp only
  rw [h.shp x 8 (by omega), shps_map (fun y => h.shp y 7 hn)]
  unfold idxO at hk
  rw [List.findIdx?_map]
  have : ((fun z => deq z (e x)) ∘ e) = fun z => decide (z = x) := by funext z; exact h.eq z x
  rw [this]
  obtain ⟨j, h1, h2⟩ := Option.map_eq_some_iff.mp hk
  rw [h1]
  subst h2
  rfl
theorem m_cnt (xs : List Int) (k : Int) : mCount (dL dI xs) [.int k] = some (.int (xs.count k : Nat), .full) := by
  unfold mCount
  simp only
  rw [show (xs.map dI) = dInts xs from rfl, intsOf_d]
  rfl

def RetE (φ : List D → Option RetD) (ds : List D) (d : D) (l : Lv) (al : Bool) : Prop := ∃ l' a', φ ds = some (d, l', a') ∧ leL l l' = true ∧ (a' = true → al = true)
theorem mkR_ok {d : D} {l' : Lv} {a' al' vw' ral al vw : Bool} (hl : leL l l' = true) (ha : a' = true → ral = true) (h1 : al' = true → al = true) (h2 : vw' = true → vw = true) : ROk (mkR al' vw' (d, l', a')) d l (ral && al) (ral && vw) := by
  unfold mkR
  split
  · exact ⟨rfl, by cases l <;> rfl, fun h => (nomatch h), fun h => (nomatch h)⟩
  · split
    · rename_i h
      have h : a' = true := h
      refine ⟨rfl, hl, fun z => ?_, fun z => ?_⟩
      · rw [ha h, h1 z]; rfl
      · rw [ha h, h2 z]; rfl
    · exact ⟨rfl, hl, fun h => (nomatch h), fun h => (nomatch h)⟩
theorem mkR_okI {z : RetD} {al vw : Bool} (hi : imm z.1 = true) : ROk (mkR al vw z) z.1 .full false false := by
  unfold mkR
  rw [if_pos hi]
  exact .i _
theorem je_call {R : List D → Option RetD} {ds : List D} {fl al vw ral : Bool} (h : JA cs ga ds fl al vw) (hR : RetE R ds d l ral) : JE cs (eCall R ga) d l (ral && al) (ral && vw) := fun ρ r => by
  obtain ⟨rs, e2, k⟩ := h ρ r
  obtain ⟨l', a', e3, k3, k4⟩ := hR
  refine ⟨mkR (rs.any (·.al)) (rs.any (·.vw)) (d, l', a'), ?_, mkR_ok k3 k4 k.anyal k.anyvw⟩
  unfold eCall
  rw [e2]
  simp only [Option.bind_some, k.d, e3, Option.map_some]
theorem je_callI {R : List D → Option RetD} {ds : List D} {fl al vw ral : Bool} (h : JA cs ga ds fl al vw) (hR : RetE R ds d l ral) (hi : imm d = true) : JI cs (eCall R ga) d := fun ρ r => by
  obtain ⟨rs, e2, k⟩ := h ρ r
  obtain ⟨l', a', e3, k3, k4⟩ := hR
  refine ⟨mkR (rs.any (·.al)) (rs.any (·.vw)) (d, l', a'), ?_, mkR_okI (z := (d, l', a')) hi⟩
  unfold eCall
  rw [e2]
  simp only [Option.bind_some, k.d, e3, Option.map_some]
theorem je_meth {C : Addr} {m : Str} {R : List D → Option RetD} {fs : List (Str × D)} {ds : List D} {fl al vw ral : Bool} (h1 : JE cs f (.ins C fs) l2 a v) (hm : (fs.lookup m).isNone = true) (h : JA cs ga ds fl al vw) (hR : RetE R (.ins C fs :: ds) d l ral) : JE cs (eMeth C m R f ga) d l (ral && (a || al)) (ral && (v || vw)) := fun ρ r => by
  obtain ⟨x, e1, k1⟩ := h1 ρ r
  obtain ⟨rs, e2, k⟩ := h ρ r
  obtain ⟨l', a', e3, k3, k4⟩ := hR
  refine ⟨mkR (x.al || rs.any (·.al)) (x.vw || rs.any (·.vw)) (d, l', a'), ?_, mkR_ok k3 k4 (fun z => ?_) (fun z => ?_)⟩
  · unfold eMeth
    rw [e1]
    simp only [Option.bind_some, k1.d]
    rw [if_pos ⟨trivial, hm⟩, e2]
    simp only [Option.bind_some, k.d, e3, Option.map_some]
  · rcases Bool.or_eq_true _ _ ▸ z with z | z
    · rw [k1.al z]; rfl
    · rw [k.anyal z]; cases a <;> rfl
  · rcases Bool.or_eq_true _ _ ▸ z with z | z
    · rw [k1.vw z]; rfl
    · rw [k.anyvw z]; cases v <;> rfl
theorem je_methI {C : Addr} {m : Str} {R : List D → Option RetD} {fs : List (Str × D)} {ds : List D} {fl al vw ral : Bool} (h1 : JE cs f (.ins C fs) l2 a v) (hm : (fs.lookup m).isNone = true) (h : JA cs ga ds fl al vw) (hR : RetE R (.ins C fs :: ds) d l ral) (hi : imm d = true) : JI cs (eMeth C m R f ga) d := fun ρ r => by
  obtain ⟨x, e1, k1⟩ := h1 ρ r
  obtain ⟨rs, e2, k⟩ := h ρ r
  obtain ⟨l', a', e3, k3, k4⟩ := hR
  refine ⟨mkR (x.al || rs.any (·.al)) (x.vw || rs.any (·.vw)) (d, l', a'), ?_, mkR_okI (z := (d, l', a')) hi⟩
  unfold eMeth
  rw [e1]
  simp only [Option.bind_some, k1.d]
  rw [if_pos ⟨trivial, hm⟩, e2]
  simp only [Option.bind_some, k.d, e3, Option.map_some]
theorem je_new {C : Addr} {φ : List D → Option (List (Str × D))} {fs : List (Str × D)} {ds : List D} {fl al vw : Bool} (h : JA cs ga ds fl al vw) (hφ : φ ds = some fs) : JI cs (eNew C φ ga) (.ins C fs) := fun ρ r => by
  obtain ⟨rs, e2, k⟩ := h ρ r
  refine ⟨⟨.ins C fs, .full, false, false⟩, ?_, ⟨rfl, rfl, fun h => (nomatch h), fun h => (nomatch h)⟩⟩
  unfold eNew
  rw [e2]
  simp only [Option.bind_some, k.d, hφ, Option.map_some]
theorem je_at {C : Addr} {m : Str} {fs : List (Str × D)} (h1 : JE cs f (.ins C fs) l a v) (hm : fs.lookup m = some d) : JE cs (eAt C m f) d .shr a v := fun ρ r => by
  obtain ⟨x, e1, k1⟩ := h1 ρ r
  refine ⟨part x d, ?_, ?_⟩
  · unfold eAt
    rw [e1]
    simp only [Option.bind_some, k1.d]
    rw [if_pos trivial, hm]
    rfl
  · have := part_ok k1 d
    exact ⟨this.d, leL_shr _, this.al, this.vw⟩
theorem je_atI {C : Addr} {m : Str} {fs : List (Str × D)} (h1 : JE cs f (.ins C fs) l a v) (hm : fs.lookup m = some d) (hi : imm d = true) : JI cs (eAt C m f) d := fun ρ r => by
  obtain ⟨x, e1, k1⟩ := h1 ρ r
  refine ⟨part x d, ?_, part_okI hi⟩
  unfold eAt
  rw [e1]
  simp only [Option.bind_some, k1.d]
  rw [if_pos trivial, hm]
  rfl
theorem je_atO {C dx : Addr} {m : Str} {fs : List (Str × D)} (h1 : JE cs f (.obj C dx fs) l a v) (hm : fs.lookup m = some d) : JE cs (eAtO C m f) d .shr a v := fun ρ r => by
  obtain ⟨x, e1, k1⟩ := h1 ρ r
  refine ⟨part x d, ?_, ?_⟩
  · unfold eAtO
    rw [e1]
    simp only [Option.bind_some, k1.d]
    rw [if_pos trivial, hm]
    rfl
  · have := part_ok k1 d
    exact ⟨this.d, leL_shr _, this.al, this.vw⟩
theorem je_atOI {C dx : Addr} {m : Str} {fs : List (Str × D)} (h1 : JE cs f (.obj C dx fs) l a v) (hm : fs.lookup m = some d) (hi : imm d = true) : JI cs (eAtO C m f) d := fun ρ r => by
  obtain ⟨x, e1, k1⟩ := h1 ρ r
  refine ⟨part x d, ?_, part_okI hi⟩
  unfold eAtO
  rw [e1]
  simp only [Option.bind_some, k1.d]
  rw [if_pos trivial, hm]
  rfl
theorem je_isi {T : String} {tn : String} {b : Bool} (h1 : JE cs f d l a v) (h2 : tyN d = some tn) (h3 : kitB tn T = some b) : JI cs (eIsi T f) (.bl b) := fun ρ r => by
  obtain ⟨x, e1, k1⟩ := h1 ρ r
  refine ⟨rB b, ?_, .i _⟩
  unfold eIsi
  rw [e1]
  simp only [Option.bind_some, k1.d, h2, h3, Option.map_some]

theorem je_dget {d' : D} (h1 : JE cs f d l a v) (h2 : JE cs g d2 l2 a2 v2) (h : ∀ x : Rv, ROk x d l a v → ∃ r, getAt x d2 = some r ∧ ROk r d' .shr a v) : JE cs (eDGet f g) d' .shr a v := fun ρ r => by
  obtain ⟨x, e1, k1⟩ := h1 ρ r
  obtain ⟨y, e2, k2⟩ := h2 ρ r
  obtain ⟨r, e3, k3⟩ := h x k1
  refine ⟨r, ?_, k3⟩
  unfold eDGet
  rw [e1, e2]
  simp only [Option.bind_some, k2.d, e3]
theorem je_dgetI {d' : D} (h1 : JE cs f d l a v) (h2 : JE cs g d2 l2 a2 v2) (h : ∀ x : Rv, ROk x d l a v → ∃ r, getAt x d2 = some r ∧ ROk r d' .full false false) : JI cs (eDGet f g) d' := fun ρ r => by
  obtain ⟨x, e1, k1⟩ := h1 ρ r
  obtain ⟨y, e2, k2⟩ := h2 ρ r
  obtain ⟨r, e3, k3⟩ := h x k1
  refine ⟨r, ?_, k3⟩
  unfold eDGet
  rw [e1, e2]
  simp only [Option.bind_some, k2.d, e3]
theorem g_KI {m : List (Int × α)} {k : Int} : ∀ x : Rv, ROk x (dKI e m) l a v → ∃ r, getAt x (.int k) = some r ∧ ROk r (dO e (aget m k)) .shr a v := fun x h => by
  have hg : getAt x (.int k) = some (match (aget m k).map e with
    | some d => Ev.part x d
    | none => rA .non) := by
    unfold getAt
    rw [h.d]
    rw [← dlook_KI]
    rfl
  refine ⟨_, hg, ?_⟩
  cases aget m k with
  | none => exact ⟨rfl, rfl, fun h => (nomatch h), fun h => (nomatch h)⟩
  | some y =>
    have := part_ok h (e y)
    exact ⟨this.d, leL_shr _, this.al, this.vw⟩
theorem g_KII {m : List (Int × α)} {k : Int} (hi : ∀ y, imm (e y) = true) : ∀ x : Rv, ROk x (dKI e m) l a v → ∃ r, getAt x (.int k) = some r ∧ ROk r (dO e (aget m k)) .full false false := fun x h => by
  have hg : getAt x (.int k) = some (match (aget m k).map e with
    | some d => Ev.part x d
    | none => rA .non) := by
    unfold getAt
    rw [h.d]
    rw [← dlook_KI]
    rfl
  refine ⟨_, hg, ?_⟩
  cases aget m k with
  | none => exact .i _
  | some y => exact part_okI (hi y)
theorem g_KTI {m : List ((Int × Int) × α)} {k : Int × Int} (hi : ∀ y, imm (e y) = true) : ∀ x : Rv, ROk x (dKT e m) l a v → ∃ r, getAt x (dT2 dI dI k) = some r ∧ ROk r (dO e (aget m k)) .full false false := fun x h => by
  have hg : getAt x (dT2 dI dI k) = some (match (aget m k).map e with
    | some d => Ev.part x d
    | none => rA .non) := by
    unfold getAt
    rw [h.d]
    rw [← dlook_KT]
    rfl
  refine ⟨_, hg, ?_⟩
  cases aget m k with
  | none => exact .i _
  | some y => exact part_okI (hi y)
theorem imm_opt (h : ∀ x, imm (e x) = true) (o : Option α) : imm (dO e o) = true := by
  cases o with
  | none => rfl
  | some x => exact h x
end
end Tg

set_option Elab.async false
set_option linter.all false
set_option maxRecDepth 100000

namespace Tg
open PySem PySem.Spec L2 Ev
open PyProof.Rows hiding St


mutual
def tgC : Tg → D → Bool → CS → Option CS
  | .nm i, d, al, cs => if i < cs.length then some (put cs i ⟨d, .s, al⟩) else none
  | .tp ts, .tup ds, al, cs => if ts.length = ds.length then tgsC ts ds al cs else none
  | _, _, _, _ => none
def tgsC : List Tg → List D → Bool → CS → Option CS
  | [], [], _, cs => some cs
  | t :: ts, d :: ds, al, cs => (tgC t d al cs).bind (tgsC ts ds al)
  | _, _, _, _ => none
end
mutual
theorem tgC_ok : ∀ {t : Tg} {d : D} {al al' : Bool} {cs cs' : CS} {ρ : Ev.Env}, tgC t d al cs = some cs' → (al' = true → al = true) → Rel ρ cs → ∃ ρ', tgSet t d al' ρ = some ρ' ∧ Rel ρ' cs'
  | .nm i, d, al, al', cs, cs', ρ, h, ha, r => by
    simp only [tgC] at h
    split at h
    · rename_i hi
      cases h
      refine ⟨ρ.set i (some ⟨d, if imm d = true then .full else .shr, al', none⟩), ?_, r.put ⟨rfl, fun z => ?_, fun _ => ha⟩⟩
      · simp only [tgSet]
        rw [if_pos (by rw [r.len]; exact hi)]
      · simp only [z]
        rfl
    · cases h
  | .tp ts, d, al, al', cs, cs', ρ, h, ha, r => by
    cases d with
    | tup ds =>
      simp only [tgC] at h
      split at h
      · rename_i hl
        obtain ⟨ρ', e, r'⟩ := tgsC_ok h ha r
        exact ⟨ρ', by simp only [tgSet]; rw [if_pos hl]; exact e, r'⟩
      · cases h
    | _ => simp only [tgC] at h; cases h
theorem tgsC_ok : ∀ {ts : List Tg} {ds : List D} {al al' : Bool} {cs cs' : CS} {ρ : Ev.Env}, tgsC ts ds al cs = some cs' → (al' = true → al = true) → Rel ρ cs → ∃ ρ', tgsSet ts ds al' ρ = some ρ' ∧ Rel ρ' cs'
  | [], [], al, al', cs, cs', ρ, h, ha, r => by
    simp only [tgsC] at h
    cases h
    exact ⟨ρ, by simp only [tgsSet], r⟩
  | t :: ts, d :: ds, al, al', cs, cs', ρ, h, ha, r => by
    simp only [tgsC] at h
    obtain ⟨c1, h1, h2⟩ := bind_some h
    obtain ⟨ρ1, e1, r1⟩ := tgC_ok h1 ha r
    obtain ⟨ρ2, e2, r2⟩ := tgsC_ok h2 ha r1
    exact ⟨ρ2, by simp only [tgsSet]; rw [e1]; exact e2, r2⟩
  | [], _ :: _, al, al', cs, cs', ρ, h, ha, r => by simp only [tgsC] at h; cases h
  | _ :: _, [], al, al', cs, cs', ρ, h, ha, r => by simp only [tgsC] at h; cases h
end
def drop1 : CS → Nat → CS
  | [], _ => []
  | _ :: cs, 0 => none :: cs
  | x :: cs, i + 1 => x :: drop1 cs i
theorem drop1_set : ∀ (cs : CS) (i : Nat), drop1 cs i = cs.set i none
  | [], _ => rfl
  | _ :: cs, 0 => rfl
  | x :: cs, i + 1 => by show x :: drop1 cs i = _; rw [drop1_set cs i]; rfl
theorem Rel.drop1 {ρ : Ev.Env} {cs : CS} (r : Rel ρ cs) (i : Nat) : Rel (ρ.set i none) (drop1 cs i) where
  len := by rw [drop1_set, List.length_set, List.length_set, r.len]
  at_ := fun j c e => by
    rw [drop1_set, List.getElem?_set] at e
    rw [List.getElem?_set]
    by_cases q : i = j
    · subst q
      rw [if_pos rfl] at e
      split at e <;> cases e
    · rw [if_neg q] at e
      rw [if_neg q]
      exact r.at_ j c e
def wipeC : List Nat → CS → CS
  | [], cs => cs
  | i :: is, cs => drop1 (wipeC is cs) i
theorem Rel.wipe : ∀ (is : List Nat) {ρ : Ev.Env} {cs : CS}, Rel ρ cs → Rel (wipeE is ρ) (wipeC is cs)
  | [], _, _, r => r
  | i :: is, _, _, r => (Rel.wipe is r).drop1 i

section
variable {cs : CS} {f g : EvE} {ga : EvA} {t t2 : EvT} {i j : Int} {d d2 : D} {l l2 : Lv} {a a2 v v2 : Bool} {α β γ δ ε : Type} {e : α → D} {e2 : β → D}

theorem jit_l {xs : List α} (h : JE cs f (dL e xs) l a false) : JIt cs (iLst f) xs e a := fun ρ r => by
  obtain ⟨x, e1, k⟩ := h ρ r
  refine ⟨x.al, k.al, ?_⟩
  have hv : x.vw = false := by
    cases q : x.vw with
    | false => rfl
    | true => exact nomatch k.vw q
  unfold iLst
  rw [e1]
  simp only [Option.bind_some, hv, k.d, List.map_map]
  rfl
theorem jit_f {xs : List α} (h : JE cs f (dF e xs) l a false) : JIt cs (iLst f) xs e a := fun ρ r => by
  obtain ⟨x, e1, k⟩ := h ρ r
  refine ⟨x.al, k.al, ?_⟩
  have hv : x.vw = false := by
    cases q : x.vw with
    | false => rfl
    | true => exact nomatch k.vw q
  unfold iLst
  rw [e1]
  simp only [Option.bind_some, hv, k.d, List.map_map]
  rfl
theorem rngO_some {i j : Int} {xs : List Int} (h : rngO i j = some xs) : (-(2 ^ 62) ≤ i ∧ i < 2 ^ 62 ∧ -(2 ^ 62) ≤ j ∧ j < 2 ^ 62) ∧ xs = (List.range (j - i).toNat).map fun (k : Nat) => i + (k : Int) := by
  unfold rngO at h
  split at h
  · cases h; exact ⟨‹_›, rfl⟩
  · cases h
theorem jit_r1 {xs : List Int} {j : Int} (h : JE cs f (.int j) l a v) (hx : rngO 0 j = some xs) : JIt cs (iRange (aCons f aNil)) xs dI false := fun ρ r => by
  obtain ⟨x, e1, k⟩ := h ρ r
  obtain ⟨hc, rfl⟩ := rngO_some hx
  refine ⟨false, fun z => z, ?_⟩
  unfold iRange aCons aNil
  simp only [e1, Option.bind_some, List.map_cons, List.map_nil, k.d]
  rw [if_pos ⟨hc.2.2.1, hc.2.2.2⟩]
  simp [iRng]
theorem jit_r2 {xs : List Int} {i j : Int} (h : JE cs f (.int i) l a v) (h2 : JE cs g (.int j) l2 a2 v2) (hx : rngO i j = some xs) : JIt cs (iRange (aCons f (aCons g aNil))) xs dI false := fun ρ r => by
  obtain ⟨x, e1, k⟩ := h ρ r
  obtain ⟨y, e2, k2⟩ := h2 ρ r
  obtain ⟨hc, rfl⟩ := rngO_some hx
  refine ⟨false, fun z => z, ?_⟩
  unfold iRange aCons aNil
  simp only [e1, e2, Option.bind_some, List.map_cons, List.map_nil, k.d, k2.d]
  rw [if_pos hc]
  simp [iRng]
theorem jit_r3 {xs : List Int} {i j : Int} {f0 f2 : EvE} (h0 : JE cs f0 (.int i) l a v) (h : JE cs f (.int j) l2 a2 v2) {l3 : Lv} {a3 v3 : Bool} (h3 : JE cs f2 (.int 2) l3 a3 v3) (hx : rng2O i j = some xs) : JIt cs (iRangeC (aCons f0 (aCons f (aCons f2 aNil)))) xs dI false := fun ρ r => by
  obtain ⟨x, e1, k⟩ := h ρ r
  obtain ⟨y, e2, k2⟩ := h0 ρ r
  obtain ⟨z, e3, k3⟩ := h3 ρ r
  unfold rng2O at hx
  split at hx
  · rename_i hc
    cases hx
    refine ⟨false, fun z => z, ?_⟩
    unfold iRangeC aCons aNil
    simp only [e1, e2, e3, Option.bind_some, List.map_cons, List.map_nil, k.d, k2.d, k3.d]
    rw [if_pos hc]
    simp only [rngC, List.map_map]
    congr 2
    funext k
    simp [Int.mul_comm]
  · cases hx
theorem numbered_map {al : Bool} (xs : List α) : ∀ n : Nat, Ev.numbered al n (xs.map e) = ((xs.zipIdx n).map fun p => ((p.2 : Int), p.1)).map fun x => (dT2 dI e x, al) := by
  induction xs with
  | nil => intro n; rfl
  | cons x xs ih =>
    intro n
    rw [List.map_cons, List.zipIdx_cons, List.map_cons, List.map_cons, ← ih (n + 1)]
    rfl
theorem jit_en {xs : List α} (h : JE cs f (dL e xs) l a false) : JIt cs (iEnumV (aCons f aNil)) (enumI xs) (dT2 dI e) a := fun ρ r => by
  obtain ⟨x, e1, k⟩ := h ρ r
  refine ⟨x.al, k.al, ?_⟩
  have hv : x.vw = false := by
    cases q : x.vw with
    | false => rfl
    | true => exact nomatch k.vw q
  unfold iEnumV aCons aNil
  simp only [e1, Option.bind_some, hv, k.d, seqOf, Option.map_some]
  rw [numbered_map xs 0]
  rfl
theorem zipD_map {al : Bool} : ∀ (xs : List α) (ys : List β), zipD al (xs.map e) (ys.map e2) = (xs.zip ys).map fun x => (dT2 e e2 x, al)
  | [], _ => by simp [zipD]
  | _ :: _, [] => by simp [zipD]
  | x :: xs, y :: ys => by simp only [List.map_cons, zipD, List.zip_cons_cons, zipD_map xs ys]
theorem jit_zip {xs : List α} {ys : List β} (h : JE cs f (dL e xs) l a false) (h2 : JE cs g (dL e2 ys) l2 a2 false) : JIt cs (iZipV (aCons f (aCons g aNil))) (xs.zip ys) (dT2 e e2) (a || a2) := fun ρ r => by
  obtain ⟨x, e1, k⟩ := h ρ r
  obtain ⟨y, e3, k2⟩ := h2 ρ r
  refine ⟨x.al || y.al, fun z => ?_, ?_⟩
  · rcases Bool.or_eq_true _ _ ▸ z with z | z
    · rw [k.al z]; rfl
    · rw [k2.al z]; cases a <;> rfl
  have hv : x.vw = false := by
    cases q : x.vw with
    | false => rfl
    | true => exact nomatch k.vw q
  have hv2 : y.vw = false := by
    cases q : y.vw with
    | false => rfl
    | true => exact nomatch k2.vw q
  unfold iZipV aCons aNil
  simp only [e1, e3, Option.bind_some, hv, hv2, k.d, k2.d, seqOf, Option.map_some]
  rw [if_neg (by simp), zipD_map]

theorem lc_ok {tg : Tg} {c : EvT} {el : EvE} {p : α → Option Bool} {F : α → Option β} {B : α → CS} {cs0 : CS} (ht : ∀ x, tgC tg (e x) a cs0 = some (B x)) (hc : ∀ x, JTo (B x) c (p x)) (he : ∀ x, JEo (B x) el e2 (F x) l a2 false) {ρ : Ev.Env} (r : Rel ρ cs0) {a' : Bool} (ha : a' = true → a = true) :
    ∀ {xs : List α} {ys : List β}, lcM xs p F = some ys → ∃ rs, lcL tg c el ρ (xs.map fun x => (e x, a')) = some rs ∧ AOk rs (ys.map e2) (isFull l) a2 false ∧ rs.length = ys.length
  | [], ys, h => by
    cases h
    exact ⟨[], rfl, ⟨rfl, fun _ _ h => (nomatch h), fun _ h => (nomatch h), fun _ h => (nomatch h)⟩, rfl⟩
  | x :: xs, ys, h => by
    unfold lcM at h
    obtain ⟨k, e1, h⟩ := bindO_some h
    obtain ⟨ρ1, e3, r1⟩ := tgC_ok (ht x) ha r
    rw [List.map_cons]
    unfold lcL
    rw [e3]
    simp only [Option.bind_some, hc x k e1 ρ1 r1]
    cases k with
    | false =>
      obtain ⟨rs, h1, h2, h3⟩ := lc_ok ht hc he r ha (xs := xs) (ys := ys) h
      exact ⟨rs, h1, h2, h3⟩
    | true =>
      rw [if_pos rfl] at h
      obtain ⟨y, e4, h⟩ := bindO_some h
      obtain ⟨zs, e5, h⟩ := Option.map_eq_some_iff.mp h
      subst h
      obtain ⟨rs, h1, h2, h3⟩ := lc_ok ht hc he r ha (xs := xs) (ys := zs) e5
      obtain ⟨r0, e6, k0⟩ := he x y e4 ρ1 r1
      have hv : r0.vw = false := by
        cases q : r0.vw with
        | false => rfl
        | true => exact nomatch k0.vw q
      refine ⟨r0 :: rs, ?_, ⟨?_, ?_, ?_, ?_⟩, by simp [h3]⟩
      · simp only [if_true, e6, Option.bind_some, hv, h1]
        rfl
      · rw [List.map_cons, k0.d, h2.d]; rfl
      · intro z y hy
        rcases List.mem_cons.mp hy with rfl | hy
        · have hl : l = .full := by cases l <;> first | rfl | (cases z; done)
          subst hl
          exact leL_full k0.l
        · exact h2.fl z y hy
      · intro y hy z
        rcases List.mem_cons.mp hy with rfl | hy
        · exact k0.al z
        · exact h2.al y hy z
      · intro y hy z
        rcases List.mem_cons.mp hy with rfl | hy
        · exact k0.vw z
        · exact h2.vw y hy z
theorem big_some {xs ys : List α} (h : big xs = some ys) : xs.length ≤ 1000000 ∧ ys = xs := by
  unfold big at h
  split at h
  · cases h; exact ⟨‹_›, rfl⟩
  · cases h
theorem je_lcM {it : EvI} {vs : List Nat} {tg : Tg} {c : EvT} {el : EvE} {p : α → Option Bool} {F : α → Option β} {B : α → CS} {xs : List α} {ys : List β} (hit : JIt cs it xs e a) (ht : ∀ x, tgC tg (e x) a (wipeC vs cs) = some (B x)) (hc : ∀ x, JTo (B x) c (p x)) (he : ∀ x, JEo (B x) el e2 (F x) l a2 false) (h : bindO (lcM xs p F) big = some ys) : JE cs (eLc it vs tg c el) (dL e2 ys) (if isFull l = true then .full else .top) a2 false := fun ρ r => by
  obtain ⟨a', ha, e1⟩ := hit ρ r
  obtain ⟨zs, e3, e4⟩ := bindO_some h
  obtain ⟨hl, rfl⟩ := big_some e4
  obtain ⟨rs, h1, h2, h3⟩ := lc_ok ht hc he (r.wipe vs) ha e3
  unfold eLc
  rw [e1]
  simp only [Option.bind_some, h1]
  unfold mkBig
  rw [if_pos (by rw [h3]; exact hl)]
  by_cases q : isFull l = true
  · rw [if_pos q]
    rw [q] at h2
    rw [if_pos h2.allfull]
    exact ⟨_, rfl, by rw [h2.d], rfl, h2.anyal, fun h => (nomatch h)⟩
  · rw [if_neg q]
    split
    · exact ⟨_, rfl, by rw [h2.d], rfl, h2.anyal, fun h => (nomatch h)⟩
    · exact ⟨_, rfl, by rw [h2.d], rfl, h2.anyal, fun h => (nomatch h)⟩
theorem lcM_p {p : α → Bool} {F : α → β} : ∀ xs : List α, lcM xs (fun x => some (p x)) (fun x => some (F x)) = some ((xs.filter p).map F)
  | [] => rfl
  | x :: xs => by
    unfold lcM
    rw [lcM_p xs]
    cases h : p x <;> simp [bindO, h]
theorem lcM_m {F : α → β} : ∀ xs : List α, lcM xs (fun _ => some true) (fun x => some (F x)) = some (xs.map F)
  | [] => rfl
  | x :: xs => by
    unfold lcM
    rw [lcM_m xs]
    simp [bindO]
theorem je_lcP {it : EvI} {vs : List Nat} {tg : Tg} {c : EvT} {el : EvE} {p : α → Bool} {F : α → β} {B : α → CS} {xs : List α} {ys : List β} (hit : JIt cs it xs e a) (ht : ∀ x, tgC tg (e x) a (wipeC vs cs) = some (B x)) (hc : ∀ x, JT (B x) c (p x)) (he : ∀ x, JE (B x) el (e2 (F x)) l a2 false) (h : big ((xs.filter p).map F) = some ys) : JE cs (eLc it vs tg c el) (dL e2 ys) (if isFull l = true then .full else .top) a2 false :=
  je_lcM (p := fun x => some (p x)) (F := fun x => some (F x)) hit ht (fun x => jto_p (hc x)) (fun x => jeo_p (he x)) (by rw [lcM_p]; exact h)
theorem je_lcQ {it : EvI} {vs : List Nat} {tg : Tg} {el : EvE} {F : α → β} {B : α → CS} {xs : List α} {ys : List β} (hit : JIt cs it xs e a) (ht : ∀ x, tgC tg (e x) a (wipeC vs cs) = some (B x)) (he : ∀ x, JE (B x) el (e2 (F x)) l a2 false) (h : big (xs.map F) = some ys) : JE cs (eLc it vs tg tYes el) (dL e2 ys) (if isFull l = true then .full else .top) a2 false :=
  je_lcM (p := fun x => some true) (F := fun x => some (F x)) hit ht (fun x => jto_p (fun _ _ => rfl)) (fun x => jeo_p (he x)) (by rw [lcM_m]; exact h)
theorem jt_yes : JT cs tYes true := fun _ _ => rfl
end


section
variable {cs : CS} {f g : EvE} {ga : EvA} {t : EvT} {b b1 b2 b3 : EvS} {i : Nat} {d : D} {l l2 : Lv} {a a2 v v2 : Bool} {α β σ R T : Type} {e : α → D} {Ψ : T → Out → Prop} {o o1 o2 : Option T} {fz z : List Nat}
theorem js_last (h : JS cs (sSeq b sNil) o Ψ) : JS cs b o Ψ := fun ρ r t ht => by
  obtain ⟨out, e1, q⟩ := h ρ r t ht
  refine ⟨out, ?_, q⟩
  unfold sSeq sNil at e1
  obtain ⟨o', e2, e3⟩ := bind_some e1
  rw [e2]
  cases o' <;> exact e3
theorem js_assoc (h : JS cs (sSeq b1 (sSeq b2 b3)) o Ψ) : JS cs (sSeq (sSeq b1 b2) b3) o Ψ := fun ρ r t ht => by
  obtain ⟨out, e1, q⟩ := h ρ r t ht
  refine ⟨out, ?_, q⟩
  unfold sSeq at e1 ⊢
  obtain ⟨o', e2, e3⟩ := bind_some e1
  rw [e2]
  cases o' <;> exact e3
theorem js_nil (h : JS cs b o Ψ) : JS cs (sSeq sNil b) o Ψ := h
theorem js_bind {k : α → Option T} {x : Option α} (h : ∀ y, x = some y → JS cs b (k y) Ψ) : JS cs b (bindO x k) Ψ := fun ρ r t ht => by
  obtain ⟨y, e1, e2⟩ := bindO_some ht
  exact h y e1 ρ r t e2
def mdOf : Lv → Md
  | .full => .f
  | .top => .t
  | .shr => .a
theorem mdOf_ok {l : Lv} {x : Sv} (h : leL l x.l = true) : (mdOf l).ok x := by
  obtain ⟨d, l', a, p⟩ := x
  cases l <;> cases l' <;> first | trivial | (cases h; done) | (show Lv.full = Lv.full; rfl) | (intro z; cases z)
theorem js_set {k : α → Option T} {x : α} (he : JE (fzsC fz cs) f (e x) l a false) (hi : decide (i < (fzsC fz cs).length) = true) (h : ∀ x, JS (put (fzsC fz cs) i ⟨e x, mdOf l, a⟩) b (k x) Ψ) : JS cs (sSeq (sSet fz i f) b) (letB x k) Ψ := fun ρ r t ht => by
  have r1 := r.fzs fz
  obtain ⟨y, e1, k1⟩ := he _ r1
  have hv : y.vw = false := by
    cases q : y.vw with
    | false => rfl
    | true => exact nomatch k1.vw q
  obtain ⟨out, e2, q⟩ := h x _ (r1.put (i := i) (s := ⟨y.d, y.l, y.al, none⟩) ⟨k1.d, fun _ => mdOf_ok k1.l, fun _ => k1.al⟩) t ht
  refine ⟨out, ?_, q⟩
  unfold sSeq sSet
  simp only [e1, Option.bind_some, hv]
  rw [if_pos (by rw [r1.len, hi]; rfl)]
  exact e2
theorem js_asg {k : α → Option T} {x : α} {tg : Tg} {B : α → CS} (he : JE (fzsC fz cs) f (e x) l a false) (ht : ∀ x, tgC tg (e x) a (fzsC fz cs) = some (B x)) (h : ∀ x, JS (B x) b (k x) Ψ) : JS cs (sSeq (sAsg fz tg f) b) (letB x k) Ψ := fun ρ r t hh => by
  have r1 := r.fzs fz
  obtain ⟨y, e1, k1⟩ := he _ r1
  have hv : y.vw = false := by
    cases q : y.vw with
    | false => rfl
    | true => exact nomatch k1.vw q
  obtain ⟨ρ', e3, r2⟩ := tgC_ok (al' := y.al) (ht x) k1.al r1
  obtain ⟨out, e2, q⟩ := h x _ r2 t hh
  refine ⟨out, ?_, q⟩
  unfold sSeq sAsg
  simp only [e1, Option.bind_some, hv, k1.d, e3, Option.map_some]
  exact e2
theorem js_fz (h : JS (fzsC z cs) (sSeq b1 b) o Ψ) : JS cs (sSeq (sFz z b1) b) o Ψ := fun ρ r t ht => h _ (r.fzs z) t ht
theorem js_expr (he : JE cs f d l a v) (h : JS cs b o Ψ) : JS cs (sSeq (sExpr f) b) o Ψ := fun ρ r t ht => by
  obtain ⟨y, e1, k1⟩ := he _ r
  obtain ⟨out, e2, q⟩ := h ρ r t ht
  refine ⟨out, ?_, q⟩
  unfold sSeq sExpr
  simp only [e1, Option.map_some, Option.bind_some]
  exact e2
theorem js_if {c : Bool} (hc : JT cs t c) (h1 : JS cs (sSeq b1 b) o1 Ψ) (h2 : JS cs (sSeq b2 b) o2 Ψ) : JS cs (sSeq (sIf t b1 b2) b) (if c = true then o1 else o2) Ψ := fun ρ r t' ht => by
  have e1 := hc ρ r
  unfold sSeq sIf
  rw [e1]
  simp only [Option.bind_some]
  cases c with
  | true => exact h1 ρ r t' ht
  | false => exact h2 ρ r t' ht
theorem js_ifJ {c : Bool} {C : σ → CS} {s1 s2 : Option σ} {k : σ → Option T} (hc : JT cs t c) (h1 : JS cs b1 s1 (ΨJ C)) (h2 : JS cs b2 s2 (ΨJ C)) (h : ∀ s, JS (C s) b (k s) Ψ) : JS cs (sSeq (sIf t b1 b2) b) (bindO (if c = true then s1 else s2) k) Ψ := fun ρ r t' ht => by
  obtain ⟨s, e1, e2⟩ := bindO_some ht
  have e3 := hc ρ r
  have : ∃ out, (sIf t b1 b2) ρ = some out ∧ ΨJ C s out := by
    unfold sIf
    rw [e3]
    simp only [Option.bind_some]
    cases c with
    | true => exact h1 ρ r s e1
    | false => exact h2 ρ r s e1
  obtain ⟨out, e4, q⟩ := this
  cases out with
  | nx ρ' =>
    obtain ⟨out2, e5, q2⟩ := h s ρ' q t' e2
    refine ⟨out2, ?_, q2⟩
    unfold sSeq
    rw [e4]
    exact e5
  | _ => exact q.elim
theorem js_endJ {C : σ → CS} {s : σ} (h : Le cs (C s)) : JS cs sNil (some s) (ΨJ C) := fun ρ r t ht => by
  cases ht
  exact ⟨_, rfl, h.rel r⟩
theorem js_endL {C : σ → CS} {s : σ} (h : Le cs (C s)) : JS cs sNil (some s) (ΨL C) := fun ρ r t ht => by
  cases ht
  exact ⟨_, rfl, h.rel r⟩
theorem js_endC {C : σ → CS} {s : σ} {er : R → D} {lr : Lv} {ra : Bool} (h : Le cs (C s)) : JS cs sNil (some (.nx s)) (ΨC C er lr ra P) := fun ρ r t ht => by
  cases ht
  exact ⟨_, rfl, h.rel r⟩
theorem js_endN : JS cs sNil (some ()) ΨN := fun ρ r t ht => ⟨_, rfl, trivial⟩
theorem js_cntL {C : σ → CS} {s : σ} (h : Le cs (C s)) : JS cs (sSeq sCnt b) (some s) (ΨL C) := fun ρ r t ht => by
  cases ht
  exact ⟨_, rfl, h.rel r⟩
theorem js_cntC {C : σ → CS} {s : σ} {er : R → D} {lr : Lv} {ra : Bool} {P : R → Ev.Env → Prop} (h : Le cs (C s)) : JS cs (sSeq sCnt b) (some (.nx s)) (ΨC C er lr ra P) := fun ρ r t ht => by
  cases ht
  exact ⟨_, rfl, h.rel r⟩
theorem js_brkC {C : σ → CS} {s : σ} {er : R → D} {lr : Lv} {ra : Bool} {P : R → Ev.Env → Prop} (h : Le cs (C s)) : JS cs (sSeq sBrk b) (some (.bk s)) (ΨC C er lr ra P) := fun ρ r t ht => by
  cases ht
  exact ⟨_, rfl, h.rel r⟩

def RetOk (Ψ : T → Out → Prop) (q : R → T) (er : R → D) (lr : Lv) (ra : Bool) (P : R → Ev.Env → Prop := fun _ _ => True) : Prop := ∀ ρ r l a, leL lr l = true → (a = true → ra = true) → P r ρ → Ψ (q r) (.rt ρ (er r) l a)
theorem ret_R {er : R → D} {lr : Lv} {ra : Bool} {P : R → Ev.Env → Prop} : RetOk (ΨR er lr ra P) (fun r => r) er lr ra P := fun ρ r l a h h2 h3 => ⟨rfl, h, h2, h3⟩
theorem ret_C {C : σ → CS} {er : R → D} {lr : Lv} {ra : Bool} {P : R → Ev.Env → Prop} : RetOk (ΨC C er lr ra P) (fun r => Ctl.rt r) er lr ra P := fun ρ r l a h h2 h3 => ⟨rfl, h, h2, h3⟩
theorem ret_N {ra : Bool} : RetOk ΨN (fun r => r) dN .shr ra := fun ρ r l a h h2 _ => rfl
theorem js_ret {q : R → T} {er : R → D} {lr : Lv} {ra : Bool} {x : R} {P : R → Ev.Env → Prop} (hr : RetOk Ψ q er lr ra P) (he : JE cs f (er x) l a v) (hl : leL lr l = true := by rfl) (ha : (!a || ra) = true := by rfl) (hP : ∀ ρ, Rel ρ cs → P x ρ ∧ (v = true → P x (wipeA ρ)) := by exact fun _ _ => ⟨trivial, fun _ => trivial⟩) : JS cs (sSeq (sRet f) b) (some (q x)) Ψ := fun ρ r t ht => by
  cases ht
  obtain ⟨y, e1, k1⟩ := he _ r
  refine ⟨.rt (if y.vw = true then wipeA ρ else ρ) y.d y.l y.al, ?_, ?_⟩
  · unfold sSeq sRet
    simp only [e1, Option.bind_some]
  · rw [k1.d]
    refine hr _ x _ _ (leL_trans hl k1.l) (fun z => by have := k1.al z; subst this; simpa using ha) ?_
    by_cases hv : y.vw = true
    · rw [if_pos hv]; exact (hP ρ r).2 (k1.vw hv)
    · rw [if_neg hv]; exact (hP ρ r).1
theorem js_retV {q : R → T} {er : R → D} {lr : Lv} {ra : Bool} {x : R} {m : Md} {P : R → Ev.Env → Prop} (hr : RetOk Ψ q er lr ra P) (h : nth cs i = some ⟨er x, m, a⟩) (hm : (∀ s, m.ok s → leL lr s.l = true)) (ha : (!a || ra) = true := by rfl) (hlr : leL lr .full = true := by rfl) (hP : ∀ ρ, Rel ρ cs → P x ρ ∧ P x (ρ.set i none) := by exact fun _ _ => ⟨trivial, trivial⟩) : JS cs (sSeq (sRetV i) b) (some (q x)) Ψ := fun ρ r t ht => by
  cases ht
  obtain ⟨s, e1, k⟩ := r.nth h
  by_cases hi : imm s.d = true
  · refine ⟨.rt ρ s.d .full false, ?_, ?_⟩
    · unfold sSeq sRetV
      rw [e1]
      simp only [Option.bind_some, hi, if_true]
    · rw [k.d]
      exact hr _ x _ _ hlr (fun z => nomatch z) (hP ρ r).1
  · have hi' : imm (er x) = false := by rw [← show s.d = er x from k.d]; simpa using hi
    refine ⟨.rt (ρ.set i none) s.d s.l s.al, ?_, ?_⟩
    · unfold sSeq sRetV
      rw [e1]
      simp only [hi]
      rfl
    · rw [k.d]
      exact hr _ x _ _ (hm _ (k.m hi')) (fun z => by have := k.al hi' z; simp only at this; subst this; simpa using ha) (hP ρ r).2
theorem md_f : ∀ s, Md.f.ok s → leL .full s.l = true := fun s h => by rw [show s.l = .full from h]; rfl
theorem md_t : ∀ s, Md.t.ok s → leL .top s.l = true := fun s h => by
  have h : s.l ≠ .shr := h
  cases e : s.l <;> first | rfl | exact absurd e h
theorem md_w (m : Md) : ∀ s, m.ok s → leL .shr s.l = true := fun s _ => leL_shr s.l

theorem js_retI {q : R → T} {er : R → D} {lr : Lv} {ra : Bool} {x : R} {c : Cl} {P : R → Ev.Env → Prop} (hr : RetOk Ψ q er lr ra P) (h : nth cs i = some c) (hd : c.d = er x) (hi : imm (er x) = true) (hlr : leL lr .full = true := by rfl) (hP : ∀ ρ, Rel ρ cs → P x ρ := by exact fun _ _ => trivial) : JS cs (sSeq (sRetV i) b) (some (q x)) Ψ := fun ρ r t ht => by
  cases ht
  obtain ⟨s, e1, k⟩ := r.nth h
  refine ⟨.rt ρ s.d .full false, ?_, ?_⟩
  · unfold sSeq sRetV
    rw [e1]
    have : imm s.d = true := by rw [k.d, hd]; exact hi
    simp only [Option.bind_some, this, if_true]
  · rw [k.d, hd]
    exact hr _ x _ _ hlr (fun z => nomatch z) (hP ρ r)
theorem js_ret0 {q : Unit → T} {lr : Lv} {ra : Bool} (hr : RetOk Ψ q dN lr ra) (hlr : leL lr .full = true := by rfl) : JS cs (sSeq sRet0 b) (some (q ())) Ψ := fun ρ r t ht => by
  cases ht
  exact ⟨_, rfl, hr _ () _ _ hlr (fun z => nomatch z) trivial⟩

theorem js_ret0M {q : R → T} {er : R → D} {lr : Lv} {ra : Bool} {x : R} {P : R → Ev.Env → Prop} (hr : RetOk Ψ q er lr ra P) (hx : er x = .non) (hlr : leL lr .full = true := by rfl) (hP : ∀ ρ, Rel ρ cs → P x ρ := by exact fun _ _ => trivial) : JS cs (sSeq sRet0 b) (some (q x)) Ψ := fun ρ r t ht => by
  cases ht
  refine ⟨_, rfl, ?_⟩
  have := hr ρ x .full false hlr (fun z => nomatch z) (hP ρ r)
  rw [hx] at this
  exact this
theorem js_ret0o {α : Type} {e : α → D} {q : Option α → T} {lr : Lv} {ra : Bool} {P : Option α → Ev.Env → Prop} (hr : RetOk Ψ q (dO e) lr ra P) (hlr : leL lr .full = true := by rfl) (hP : ∀ ρ, Rel ρ cs → P none ρ := by exact fun _ _ => trivial) : JS cs (sSeq sRet0 b) (some (q none)) Ψ := fun ρ r t ht => by
  cases ht
  exact ⟨_, rfl, hr _ none _ _ hlr (fun z => nomatch z) (hP ρ r)⟩

theorem js_for {C : σ → CS} {it : EvI} {tg : Tg} {body : EvS} {xs : List α} {s0 : σ} {F : α → σ → Option σ} {B : α → σ → CS} {k : σ → Option T} (hit : JIt (fzsC fz cs) it xs e a) (h0 : Le (fzsC fz cs) (C s0)) (ht : ∀ x s, tgC tg (e x) a (C s) = some (B x s)) (hb : ∀ x s, JS (B x s) body (F x s) (ΨL C)) (h : ∀ s, JS (C s) b (k s) Ψ) : JS cs (sSeq (sFor fz it tg body) b) (bindO (forS xs s0 F) k) Ψ := fun ρ r t hh => by
  have r1 := r.fzs fz
  obtain ⟨a', ha, e1⟩ := hit _ r1
  obtain ⟨s', e2, e3⟩ := bindO_some hh
  have go : ∀ (xs : List α) (s : σ) (ρ : Ev.Env), Rel ρ (C s) → ∀ s', forS xs s F = some s' → ∃ ρ', forL tg body (xs.map fun x => (e x, a')) ρ = some (.nx ρ') ∧ Rel ρ' (C s') := by
    intro xs
    induction xs with
    | nil => intro s ρ r s' h; cases h; exact ⟨ρ, rfl, r⟩
    | cons x xs ih =>
      intro s ρ r s' h
      unfold forS at h
      obtain ⟨s1, g1, g2⟩ := bindO_some h
      obtain ⟨ρ1, g3, r3⟩ := tgC_ok (ht x s) ha r
      obtain ⟨out, g4, q4⟩ := hb x s ρ1 r3 s1 g1
      rw [List.map_cons]
      unfold forL
      rw [g3]
      simp only [Option.bind_some, g4]
      cases out with
      | nx ρ2 => exact ih s1 ρ2 q4 s' g2
      | ct ρ2 => exact ih s1 ρ2 q4 s' g2
      | bk ρ2 => exact q4.elim
      | rt ρ2 d l a' => exact q4.elim
  obtain ⟨ρ', g1, r2⟩ := go xs s0 _ (h0.rel r1) s' e2
  obtain ⟨out, e5, q⟩ := h s' ρ' r2 t e3
  refine ⟨out, ?_, q⟩
  unfold sSeq sFor
  rw [e1]
  simp only [Option.bind_some, g1]
  exact e5
theorem js_forC {C : σ → CS} {it : EvI} {tg : Tg} {body : EvS} {xs : List α} {s0 : σ} {F : α → σ → Option (Ctl σ R)} {B : α → σ → CS} {k : σ → Option T} {q : R → T} {er : R → D} {lr : Lv} {ra : Bool} {P : R → Ev.Env → Prop} (hr : RetOk Ψ q er lr ra P) (hit : JIt (fzsC fz cs) it xs e a) (h0 : Le (fzsC fz cs) (C s0)) (ht : ∀ x s, tgC tg (e x) a (C s) = some (B x s)) (hb : ∀ x s, JS (B x s) body (F x s) (ΨC C er lr ra P)) (h : ∀ s, JS (C s) b (k s) Ψ) : JS cs (sSeq (sFor fz it tg body) b) (onS (forC xs s0 F) k q) Ψ := fun ρ r t hh => by
  have r1 := r.fzs fz
  obtain ⟨a', ha, e1⟩ := hit _ r1
  unfold onS at hh
  obtain ⟨c', e2, e3⟩ := bindO_some hh
  have go : ∀ (xs : List α) (s : σ) (ρ : Ev.Env), Rel ρ (C s) → ∀ c', forC xs s F = some c' → ∃ out, forL tg body (xs.map fun x => (e x, a')) ρ = some out ∧ (match c', out with
      | .inl s', .nx ρ' => Rel ρ' (C s')
      | .inr r, .rt ρ d l a' => d = er r ∧ leL lr l = true ∧ (a' = true → ra = true) ∧ P r ρ
      | _, _ => False) := by
    intro xs
    induction xs with
    | nil => intro s ρ r s' h; cases h; exact ⟨.nx ρ, rfl, r⟩
    | cons x xs ih =>
      intro s ρ r s' h
      unfold forC at h
      obtain ⟨s1, g1, g2⟩ := bindO_some h
      obtain ⟨ρ1, g3, r3⟩ := tgC_ok (ht x s) ha r
      obtain ⟨out, g4, q4⟩ := hb x s ρ1 r3 s1 g1
      rw [List.map_cons]
      unfold forL
      rw [g3]
      simp only [Option.bind_some, g4]
      cases s1 with
      | nx s1 => cases out with
        | nx ρ2 => exact ih s1 ρ2 q4 s' g2
        | ct ρ2 => exact ih s1 ρ2 q4 s' g2
        | bk ρ2 => exact q4.elim
        | rt ρ2 d l a' => exact q4.elim
      | bk s1 => cases out with
        | bk ρ2 => cases g2; exact ⟨.nx ρ2, rfl, q4⟩
        | nx ρ2 => exact q4.elim
        | ct ρ2 => exact q4.elim
        | rt ρ2 d l a' => exact q4.elim
      | rt r1 => cases out with
        | rt ρ2 d l a' => cases g2; exact ⟨.rt ρ2 d l a', rfl, q4⟩
        | nx ρ2 => exact q4.elim
        | ct ρ2 => exact q4.elim
        | bk ρ2 => exact q4.elim
  obtain ⟨out, g1, r2⟩ := go xs s0 _ (h0.rel r1) c' e2
  unfold sSeq sFor
  rw [e1]
  simp only [Option.bind_some, g1]
  cases c' with
  | inl s' => cases out with
    | nx ρ' => exact h s' ρ' r2 t e3
    | _ => exact r2.elim
  | inr r1 => cases out with
    | rt ρ2 d l a' =>
      cases e3
      refine ⟨_, rfl, ?_⟩
      rw [r2.1]
      exact hr _ _ _ _ r2.2.1 r2.2.2.1 r2.2.2.2
    | _ => exact r2.elim
theorem js_while {C : σ → CS} {tc : EvT} {body : EvS} {s0 : σ} {c : σ → Option Bool} {F : σ → Option σ} {k : σ → Option T} (h0 : Le cs (C s0)) (hc : ∀ s, JTo (C s) tc (c s)) (hb : ∀ s, JS (C s) body (F s) (ΨL C)) (h : ∀ s, JS (C s) b (k s) Ψ) : JS cs (sSeq (sWhile tc body) b) (bindO (whS fuel s0 c F) k) Ψ := fun ρ r t hh => by
  obtain ⟨s', e2, e3⟩ := bindO_some hh
  have go : ∀ (n : Nat) (s : σ) (ρ : Ev.Env), Rel ρ (C s) → ∀ s', whS n s c F = some s' → ∃ ρ', whL tc body n ρ = some (.nx ρ') ∧ Rel ρ' (C s') := by
    intro n
    induction n with
    | zero => intro s ρ r s' h; cases h
    | succ n ih =>
      intro s ρ r s' h
      unfold whS at h
      obtain ⟨kb, g1, g2⟩ := bindO_some h
      unfold whL
      rw [hc s kb g1 ρ r]
      simp only [Option.bind_some]
      cases kb with
      | false => cases g2; exact ⟨ρ, rfl, r⟩
      | true =>
        rw [if_pos rfl] at g2 ⊢
        obtain ⟨s1, g3, g4⟩ := bindO_some g2
        obtain ⟨out, g5, q4⟩ := hb s ρ r s1 g3
        rw [g5]
        simp only [Option.bind_some]
        cases out with
        | nx ρ2 => exact ih s1 ρ2 q4 s' g4
        | ct ρ2 => exact ih s1 ρ2 q4 s' g4
        | bk ρ2 => exact q4.elim
        | rt ρ2 d l a' => exact q4.elim
  obtain ⟨ρ', g1, r2⟩ := go fuel s0 ρ (h0.rel r) s' e2
  obtain ⟨out, e5, q⟩ := h s' ρ' r2 t e3
  refine ⟨out, ?_, q⟩
  unfold sSeq sWhile
  rw [g1]
  exact e5
theorem js_whileC {C : σ → CS} {tc : EvT} {body : EvS} {s0 : σ} {c : σ → Option Bool} {F : σ → Option (Ctl σ R)} {k : σ → Option T} {q : R → T} {er : R → D} {lr : Lv} {ra : Bool} {P : R → Ev.Env → Prop} (hr : RetOk Ψ q er lr ra P) (h0 : Le cs (C s0)) (hc : ∀ s, JTo (C s) tc (c s)) (hb : ∀ s, JS (C s) body (F s) (ΨC C er lr ra P)) (h : ∀ s, JS (C s) b (k s) Ψ) : JS cs (sSeq (sWhile tc body) b) (onS (whC fuel s0 c F) k q) Ψ := fun ρ r t hh => by
  unfold onS at hh
  obtain ⟨c', e2, e3⟩ := bindO_some hh
  have go : ∀ (n : Nat) (s : σ) (ρ : Ev.Env), Rel ρ (C s) → ∀ c', whC n s c F = some c' → ∃ out, whL tc body n ρ = some out ∧ (match c', out with
      | .inl s', .nx ρ' => Rel ρ' (C s')
      | .inr r, .rt ρ d l a' => d = er r ∧ leL lr l = true ∧ (a' = true → ra = true) ∧ P r ρ
      | _, _ => False) := by
    intro n
    induction n with
    | zero => intro s ρ r s' h; cases h
    | succ n ih =>
      intro s ρ r s' h
      unfold whC at h
      obtain ⟨kb, g1, g2⟩ := bindO_some h
      unfold whL
      rw [hc s kb g1 ρ r]
      simp only [Option.bind_some]
      cases kb with
      | false => cases g2; exact ⟨.nx ρ, rfl, r⟩
      | true =>
        rw [if_pos rfl] at g2 ⊢
        obtain ⟨s1, g3, g4⟩ := bindO_some g2
        obtain ⟨out, g5, q4⟩ := hb s ρ r s1 g3
        rw [g5]
        simp only [Option.bind_some]
        cases s1 with
        | nx s1 => cases out with
          | nx ρ2 => exact ih s1 ρ2 q4 s' g4
          | ct ρ2 => exact ih s1 ρ2 q4 s' g4
          | bk ρ2 => exact q4.elim
          | rt ρ2 d l a' => exact q4.elim
        | bk s1 => cases out with
          | bk ρ2 => cases g4; exact ⟨.nx ρ2, rfl, q4⟩
          | nx ρ2 => exact q4.elim
          | ct ρ2 => exact q4.elim
          | rt ρ2 d l a' => exact q4.elim
        | rt r1 => cases out with
          | rt ρ2 d l a' => cases g4; exact ⟨.rt ρ2 d l a', rfl, q4⟩
          | nx ρ2 => exact q4.elim
          | ct ρ2 => exact q4.elim
          | bk ρ2 => exact q4.elim
  obtain ⟨out, g1, r2⟩ := go fuel s0 ρ (h0.rel r) c' e2
  unfold sSeq sWhile
  rw [g1]
  simp only [Option.bind_some]
  cases c' with
  | inl s' => cases out with
    | nx ρ' => exact h s' ρ' r2 t e3
    | _ => exact r2.elim
  | inr r1 => cases out with
    | rt ρ2 d l a' =>
      cases e3
      refine ⟨_, rfl, ?_⟩
      rw [r2.1]
      exact hr _ _ _ _ r2.2.1 r2.2.2.1 r2.2.2.2
    | _ => exact r2.elim

theorem appO_some {xs ys : List α} {x : α} (h : appO xs x = some ys) : xs.length ≤ 1000000 ∧ ys = xs ++ [x] := by
  unfold appO at h
  split at h
  · cases h; exact ⟨‹_›, rfl⟩
  · cases h
def keepM : Md → Lv → Md
  | .f, .full => .f
  | .p k, .full => .p k
  | _, _ => .t
theorem keepM_ok {m : Md} {l l2 : Lv} {x y : Sv} (hm : m.ok x) (hl : leL l l2 = true) (hy : y.l = keepLv x.l l2) (hp : y.pn = x.pn) : (keepM m l).ok y := by
  unfold keepLv at hy
  have ht : y.l ≠ .shr := by rw [hy]; split <;> decide
  cases m <;> cases l <;> first
    | exact ht
    | (show y.l = .full; rw [hy, show x.l = .full from hm, leL_full hl]; rfl)
    | (refine ⟨?_, by rw [hp]; exact hm.2⟩; rw [hy, hm.1, leL_full hl]; rfl)
def ownM : Md → Bool
  | .t => true
  | .f => true
  | .p _ => true
  | _ => false
theorem ownM_ok {m : Md} {x : Sv} (h : ownM m = true) (k : m.ok x) : x.l ≠ .shr := by
  cases m <;> first | exact absurd h (by decide) | exact k | (intro z; rw [show x.l = .full from k] at z; cases z) | (intro z; rw [k.1] at z; cases z)
theorem js_app {xs : List α} {x : α} {m : Md} {k : List α → Option T} (hn : nth (fzsC fz cs) i = some ⟨dL e xs, m, a⟩) (he : JE (fzsC fz cs) f (e x) l a2 false) (hm : ownM m = true) (h : ∀ ys, JS (put (fzsC fz cs) i ⟨dL e ys, keepM m l, a || a2⟩) b (k ys) Ψ) : JS cs (sSeq (sLop oApp fz i (aCons f aNil)) b) (bindO (appO xs x) k) Ψ := fun ρ r t ht => by
  have r1 := r.fzs fz
  obtain ⟨s, e1, k1⟩ := r1.nth hn
  obtain ⟨y, e2, k2⟩ := he _ r1
  obtain ⟨zs, e3, e4⟩ := bindO_some ht
  obtain ⟨hl, rfl⟩ := appO_some e3
  have hv : y.vw = false := by
    cases q : y.vw with
    | false => rfl
    | true => exact nomatch k2.vw q
  have hml := k1.m rfl
  have hne := ownM_ok hm hml
  have hd : s.d = .lst (xs.map e) := k1.d
  have hs : Cl.ok ⟨dL e (xs ++ [x]), keepM m l, a || a2⟩ ⟨.lst (xs.map e ++ [y.d]), keepLv s.l (if [y].all (fun r => !r.vw && decide (r.l = .full)) = true then .full else .top), s.al || [y].any (·.al), s.pn⟩ := by
    refine ⟨by simp [k2.d], fun _ => ?_, fun _ z => ?_⟩
    · have e5 : [y].all (fun r => !r.vw && decide (r.l = .full)) = decide (y.l = .full) := by simp [hv]
      rw [e5]
      refine keepM_ok (l2 := if decide (y.l = .full) = true then .full else .top) hml ?_ rfl rfl
      cases l with
      | full => rw [leL_full k2.l]; rfl
      | top => split <;> rfl
      | shr => exact leL_shr _
    · rcases Bool.or_eq_true _ _ ▸ z with z | z
      · have := k1.al rfl z
        simp only at this
        rw [this]; rfl
      · have : a2 = true := k2.al (by simpa using z)
        rw [this]
        cases a <;> rfl
  obtain ⟨out, e6, q⟩ := h _ _ (r1.put (i := i) hs) t e4
  refine ⟨out, ?_, q⟩
  have : sLop oApp fz i (aCons f aNil) ρ = some (.nx ((frzs fz ρ).set i (some ⟨.lst (xs.map e ++ [y.d]), keepLv s.l (if [y].all (fun r => !r.vw && decide (r.l = .full)) = true then .full else .top), s.al || [y].any (·.al), s.pn⟩))) := by
    unfold sLop
    rw [e1]
    simp only [hd]
    rw [if_neg (by simp [hne]; omega)]
    unfold aCons aNil
    simp only [e2, Option.bind_some]
    rw [if_pos (by simp [hv])]
    rfl
  unfold sSeq
  rw [this]
  exact e6
theorem js_aug {G : Int → Int → Int} {x y : Int} {c : Cl} {k : Int → Option T} (hn : nth cs i = some c) (hd : c.d = .int x) (he : JE cs f (.int y) l a v) (h : ∀ z, JS (put cs i ⟨.int z, .f, false⟩) b (k z) Ψ) : JS cs (sSeq (sAug G i f) b) (letB (G x y) k) Ψ := fun ρ r t ht => by
  obtain ⟨s, e1, k1⟩ := r.nth hn
  obtain ⟨w, e2, k2⟩ := he _ r
  obtain ⟨out, e6, q⟩ := h (G x y) _ (r.put (i := i) (s := ⟨.int (G x y), .full, false, none⟩) ⟨rfl, fun _ => rfl, fun _ => id⟩) t ht
  refine ⟨out, ?_, q⟩
  unfold sSeq sAug
  rw [e1]
  simp only [e2, Option.bind_some, k1.d, hd, k2.d]
  exact e6

theorem rel_entry : ∀ (n : Nat) (ds : List D), ds.length ≤ n → Rel (entry n ds) (ds.map (fun d => some ⟨d, .s, true⟩) ++ List.replicate (n - ds.length) none) := fun n ds h => by
  refine ⟨by simp [entry], fun i c e => ?_⟩
  unfold entry
  rw [List.getElem?_append] at e ⊢
  simp only [List.length_map] at e ⊢
  split at e
  · rename_i hi
    rw [if_pos hi]
    rw [List.getElem?_map] at e ⊢
    cases q : ds[i]? with
    | none => rw [q] at e; simp at e
    | some d =>
      rw [q] at e
      simp at e
      subst e
      exact ⟨_, rfl, rfl, fun _ => rfl, fun _ => id⟩
  · rw [List.getElem?_replicate] at e
    split at e <;> simp at e
theorem fn_ok {body : EvS} {n : Nat} {ds : List D} {o : Option R} {er : R → D} {lr : Lv} {ra : Bool} {x : R} (h : JS (ds.map (fun d => some ⟨d, .s, true⟩) ++ List.replicate (n - ds.length) none) body o (ΨR er lr ra)) (hx : o = some x) (hn : ds.length ≤ n) : RetE (Ev.run body n) ds (er x) lr ra := by
  obtain ⟨out, e1, q⟩ := h _ (rel_entry n ds hn) x hx
  cases out with
  | rt ρ d l a' =>
    refine ⟨l, a', ?_, q.2.1, q.2.2.1⟩
    unfold Ev.run
    rw [e1, ← q.1]
    rfl
  | _ => exact q.elim
theorem fn_okN {body : EvS} {n : Nat} {ds : List D} {o : Option Unit} (h : JS (ds.map (fun d => some ⟨d, .s, true⟩) ++ List.replicate (n - ds.length) none) body o ΨN) (hx : o = some ()) (hn : ds.length ≤ n) : RetE (Ev.run body n) ds .non .shr true := by
  obtain ⟨out, e1, q⟩ := h _ (rel_entry n ds hn) () hx
  cases out with
  | rt ρ d l a' =>
    refine ⟨l, a', ?_, leL_shr l, fun _ => rfl⟩
    unfold Ev.run
    rw [e1, ← show d = .non from q]
    rfl
  | nx ρ => exact ⟨.full, false, by unfold Ev.run; rw [e1]; rfl, rfl, fun _ => rfl⟩
  | _ => exact q.elim
end
end Tg

set_option Elab.async false
set_option linter.all false
set_option maxRecDepth 100000

namespace Tg
open PySem PySem.Spec L2 Ev
open PyProof.Rows hiding St
theorem dSet_snoc : ∀ {p : List Nat} {d x : D} {j : Nat} {y : D} (d' : D), dAt d p = some x → (kids x)[j]? = some y → dSet d (p ++ [j]) d' = dSet d p (setKid x j d')
  | [], d, x, j, y, d', h, hj => by
    cases h
    show (match (kids d)[j]? with | some e => setKid d j (dSet e [] d') | none => d) = setKid d j d'
    rw [hj]
    rfl
  | k :: p, d, x, j, y, d', h, hj => by
    unfold dAt at h
    obtain ⟨e, e1, e2⟩ := bind_some h
    show (match (kids d)[k]? with | some e => setKid d k (dSet e (p ++ [j]) d') | none => d) = (match (kids d)[k]? with | some e => setKid d k (dSet e p (setKid x j d')) | none => d)
    rw [e1]
    show setKid d k _ = setKid d k _
    rw [dSet_snoc d' e2 hj]
theorem dAt_snoc : ∀ {p : List Nat} {d x : D} {j : Nat} {y : D}, dAt d p = some x → (kids x)[j]? = some y → dAt d (p ++ [j]) = some y
  | [], d, x, j, y, h, hj => by
    cases h
    show ((kids d)[j]?.bind fun e => dAt e []) = _
    rw [hj]
    rfl
  | k :: p, d, x, j, y, h, hj => by
    unfold dAt at h
    obtain ⟨e, e1, e2⟩ := bind_some h
    show ((kids d)[k]?.bind fun e => dAt e (p ++ [j])) = _
    rw [e1]
    exact dAt_snoc e2 hj

def fullM : Md → Bool
  | .f => true
  | .p _ => true
  | _ => false
theorem fullM_ok {m : Md} {x : Sv} (h : fullM m = true) (k : m.ok x) : x.l = .full := by
  cases m <;> first | exact absurd h (by decide) | exact k | exact k.1
def JP (cs : CS) (fp : EvP) (i : Nat) (m : Md) (d : D) (a : Bool) (upd : D → D) : Prop := fullM m = true ∧ ∀ ρ, Rel ρ cs → ∃ p s, fp ρ = some (i, p, d) ∧ ρ[i]? = some (some s) ∧ m.ok s ∧ (s.al = true → a = true) ∧ dAt s.d p = some d ∧ ∀ d', dSet s.d p d' = upd d'
theorem ok_keep {m : Md} {x y : Sv} (h : fullM m = true) (k : m.ok x) (hl : y.l = .full) (hp : y.pn = x.pn) : m.ok y := by
  cases m <;> first | exact absurd h (by decide) | exact hl | exact ⟨hl, by rw [hp]; exact k.2⟩
section
variable {cs : CS} {f g : EvE} {fp : EvP} {b : EvS} {i : Nat} {mm : Md} {d d2 : D} {l l2 : Lv} {a a2 v v2 : Bool} {α β σ R T : Type} {e : α → D} {Ψ : T → Out → Prop} {upd : D → D} {fz : List Nat}
theorem jp_name (h : nth cs i = some ⟨d, mm, a⟩) (hm : fullM mm = true := by rfl) (hi : imm d = false := by rfl) : JP cs (pName i) i mm d a (fun x => x) := ⟨hm, fun ρ r => by
  obtain ⟨s, e, k⟩ := r.nth h
  have ho : mm.ok s := k.m hi
  have hl : s.l = .full := fullM_ok hm ho
  have hd : s.d = d := k.d
  refine ⟨[], s, ?_, e, ho, k.al hi, by rw [← hd]; rfl, fun _ => rfl⟩
  unfold pName
  rw [e]
  simp only [hl, if_true, hd]⟩
theorem jp_fldO {C dx : Addr} {m : Str} {fs : List (Str × D)} {j : Nat} (h : JP cs fp i mm (.obj C dx fs) a upd) (hj : (fs.findIdx? fun q => q.1 == m) = some j) (hd : (fs.map (·.2))[j]? = some d) : JP cs (pFldO C m fp) i mm d a (fun x => upd (.obj C dx (setSnd fs j x))) := ⟨h.1, fun ρ r => by
  obtain ⟨p, s, e1, e2, e3, e4, e5, e6⟩ := h.2 ρ r
  refine ⟨p ++ [j], s, ?_, e2, e3, e4, dAt_snoc e5 hd, fun d' => ?_⟩
  · unfold pFldO
    rw [e1]
    simp only [Option.bind_some, if_true, hj]
    show (((fs.map (·.2))[j]?).map fun e => (i, p ++ [j], e)) = _
    rw [hd]
    rfl
  · rw [dSet_snoc d' e5 hd, e6]
    rfl⟩
theorem jp_fld {C : Addr} {m : Str} {fs : List (Str × D)} {j : Nat} (h : JP cs fp i mm (.ins C fs) a upd) (hj : (fs.findIdx? fun q => q.1 == m) = some j) (hd : (fs.map (·.2))[j]? = some d) : JP cs (pFld C m fp) i mm d a (fun x => upd (.ins C (setSnd fs j x))) := ⟨h.1, fun ρ r => by
  obtain ⟨p, s, e1, e2, e3, e4, e5, e6⟩ := h.2 ρ r
  refine ⟨p ++ [j], s, ?_, e2, e3, e4, dAt_snoc e5 hd, fun d' => ?_⟩
  · unfold pFld
    rw [e1]
    simp only [Option.bind_some, if_true, hj]
    show (((fs.map (·.2))[j]?).map fun e => (i, p ++ [j], e)) = _
    rw [hd]
    rfl
  · rw [dSet_snoc d' e5 hd, e6]
    rfl⟩

def setI {α : Type} (xs : List α) (k : Int) (y : α) : List α := match L2.ixN xs.length k with
  | some j => xs.set j y
  | none => xs
theorem jp_ix {xs : List α} {k : Int} {y : α} (h : JP cs fp i mm (dL e xs) a upd) (hk : JE cs g (.int k) l a2 v) (hy : idx xs k = some y) : JP cs (pIx fp g) i mm (e y) a (fun x => upd (.lst ((xs.map e).set ((L2.ixN xs.length k).getD 0) x))) := ⟨h.1, fun ρ r => by
  obtain ⟨p, s, e1, e2, e3, e4, e5, e6⟩ := h.2 ρ r
  obtain ⟨z, g1, g2⟩ := hk ρ r
  unfold idx atI at hy
  obtain ⟨j, h1, h2⟩ := bind_some hy
  have h3 : (xs.map e)[j]? = some (e y) := by rw [List.getElem?_map, h2]; rfl
  refine ⟨p ++ [j], s, ?_, e2, e3, e4, dAt_snoc e5 h3, fun d' => ?_⟩
  · unfold pIx
    rw [e1, g1]
    simp only [Option.bind_some, g2.d, List.length_map, h1, h3, Option.map_some]
  · rw [dSet_snoc d' e5 h3, e6, h1]
    rfl⟩
theorem upd_ix {xs : List α} {k : Int} {y : α} (hy : (L2.ixN xs.length k).isSome = true) : D.lst ((xs.map e).set ((L2.ixN xs.length k).getD 0) (e y)) = dL e (setI xs k y) := by
  obtain ⟨j, hj⟩ := Option.isSome_iff_exists.mp hy
  unfold setI
  rw [hj]
  show D.lst ((xs.map e).set j (e y)) = D.lst ((xs.set j y).map e)
  rw [List.map_set]
theorem ix_some {xs : List α} {k : Int} {y : α} (h : idx xs k = some y) : (L2.ixN xs.length k).isSome = true := by
  unfold idx atI at h
  obtain ⟨j, h1, h2⟩ := bind_some h
  rw [h1]
  rfl
theorem dput_KT (m : List ((Int × Int) × α)) (k : Int × Int) (y : α) : dput (m.map fun p => (([.inl p.1.1, .inl p.1.2] : List Key), e p.2)) [.inl k.1, .inl k.2] (e y) = (aput m k y).map fun p => ([.inl p.1.1, .inl p.1.2], e p.2) := by
  unfold dput aput
  rw [dhas_KT]
  split
  · rw [List.map_map, List.map_map]
    refine List.map_congr_left fun p _ => ?_
    obtain ⟨⟨x, z⟩, w⟩ := p
    obtain ⟨k1, k2⟩ := k
    simp only [Function.comp]
    by_cases h : x = k1 <;> by_cases h2 : z = k2 <;> simp [h, h2]
  · simp
theorem dput_KI (m : List (Int × α)) (k : Int) (y : α) : dput (m.map fun p => ((.inl p.1 : Key), e p.2)) (.inl k) (e y) = (aput m k y).map fun p => (.inl p.1, e p.2) := by
  unfold dput aput
  rw [dhas_KI]
  split
  · rw [List.map_map, List.map_map]
    refine List.map_congr_left fun p _ => ?_
    simp only [Function.comp]
    by_cases h : p.1 = k <;> simp [h]
  · simp
theorem aputO_some {κ : Type} [DecidableEq κ] {m m' : List (κ × α)} {k : κ} {y : α} (h : aputO m k y = some m') : m.length < 1000000 ∧ m' = aput m k y := by
  unfold aputO at h
  split at h
  · cases h; exact ⟨‹_›, rfl⟩
  · cases h
theorem p_KT {m m' : List ((Int × Int) × α)} {k : Int × Int} {y : α} (h : aputO m k y = some m') : Ev.putAt (dKT e m) (dT2 dI dI k) (e y) = some (dKT e m') := by
  obtain ⟨hl, rfl⟩ := aputO_some h
  show (if (m.map _).length < 1000000 then _ else _) = _
  rw [List.length_map, if_pos hl]
  show some (D.dt (dput _ _ _)) = _
  rw [dput_KT]
theorem p_KI {m m' : List (Int × α)} {k : Int} {y : α} (h : aputO m k y = some m') : Ev.putAt (dKI e m) (.int k) (e y) = some (dKI e m') := by
  obtain ⟨hl, rfl⟩ := aputO_some h
  show (if (m.map _).length < 1000000 then _ else _) = _
  rw [List.length_map, if_pos hl]
  show some (D.dk (dput _ _ _)) = _
  rw [dput_KI]
theorem js_putP {fk fv : EvE} {M : Type} {eM : M → D} {m : M} {o : Option M} {k : M → Option T} {dk dv : D} {W : M → D} (hp : JP (fzsC fz cs) fp i mm (eM m) a upd) (hk : JE (fzsC fz cs) fk dk l a2 v) {l3 : Lv} {a3 v3 : Bool} (hv : JE (fzsC fz cs) fv dv l3 a3 v3) (hi : imm dv = true) (hput : ∀ m', o = some m' → Ev.putAt (eM m) dk dv = some (eM m')) (hu : ∀ m', o = some m' → upd (eM m') = W m') (h : ∀ m', JS (put (fzsC fz cs) i ⟨W m', mm, a⟩) b (k m') Ψ) : JS cs (sSeq (sPutP fz fp fk fv) b) (bindO o k) Ψ := fun ρ r t ht => by
  have r1 := r.fzs fz
  obtain ⟨m', e1, e2⟩ := bindO_some ht
  obtain ⟨p, s, g1, g2, g3, g4, g5, g6⟩ := hp.2 _ r1
  obtain ⟨y, k1, k2⟩ := hk _ r1
  obtain ⟨w, q1, q2⟩ := hv _ r1
  obtain ⟨out, e6, q⟩ := h m' _ (r1.put (i := i) (s := ⟨dSet s.d p (eM m'), .full, s.al || false, s.pn⟩) ⟨by rw [g6, hu m' e1], fun _ => ok_keep hp.1 g3 rfl rfl, fun _ z => g4 (by simpa using z)⟩) t e2
  refine ⟨out, ?_, q⟩
  unfold sSeq sPutP
  simp only [q1, g1, k1, Option.bind_some, q2.d, k2.d, hput m' e1, g2, hi, if_true]
  exact e6
theorem js_appP {fe : EvE} {xs : List α} {x : α} {k : List α → Option T} {W : List α → D} (hp : JP (fzsC fz cs) fp i mm (dL e xs) a upd) (hv : JE (fzsC fz cs) fe (e x) .full a2 false) (hu : ∀ ys, appO xs x = some ys → upd (dL e ys) = W ys) (h : ∀ ys, JS (put (fzsC fz cs) i ⟨W ys, mm, a || a2⟩) b (k ys) Ψ) : JS cs (sSeq (sAppP fz fp fe) b) (bindO (appO xs x) k) Ψ := fun ρ r t ht => by
  have r1 := r.fzs fz
  obtain ⟨ys, e1, e2⟩ := bindO_some ht
  obtain ⟨hl, rfl⟩ := appO_some e1
  obtain ⟨p, s, g1, g2, g3, g4, g5, g6⟩ := hp.2 _ r1
  obtain ⟨w, q1, q2⟩ := hv _ r1
  have hvw : w.vw = false := by
    cases q : w.vw with
    | false => rfl
    | true => exact nomatch q2.vw q
  obtain ⟨out, e6, q⟩ := h _ _ (r1.put (i := i) (s := ⟨dSet s.d p (.lst (xs.map e ++ [w.d])), .full, s.al || w.al, s.pn⟩) ⟨by rw [g6, ← hu _ e1, q2.d]; show upd (D.lst (xs.map e ++ [e x])) = upd (D.lst ((xs ++ [x]).map e)); rw [List.map_append]; rfl, fun _ => ok_keep hp.1 g3 rfl rfl, fun _ z => by
    rcases Bool.or_eq_true _ _ ▸ z with z | z
    · rw [g4 z]; rfl
    · rw [q2.al z]; cases a <;> rfl⟩) t e2
  refine ⟨out, ?_, q⟩
  unfold sSeq sAppP
  simp only [q1, g1, Option.bind_some, g2]
  rw [if_pos ⟨hvw, leL_full q2.l, by simpa using hl⟩]
  exact e6
theorem js_atPO {C dx : Addr} {m : Str} {fe : EvE} {fs : List (Str × D)} {x : α} {k : α → Option T} {W : α → D} (hp : JP (fzsC fz cs) fp i mm (.obj C dx fs) a upd) (hv : JE (fzsC fz cs) fe (e x) .full a2 false) (hl : decide (fs.length < 1000) = true) (hu : ∀ x, upd (.obj C dx (putD m (e x) fs)) = W x) (h : ∀ x, JS (put (fzsC fz cs) i ⟨W x, mm, a || a2⟩) b (k x) Ψ) : JS cs (sSeq (sAtPO C m fz fp fe) b) (letB x k) Ψ := fun ρ r t ht => by
  have r1 := r.fzs fz
  obtain ⟨p, s, g1, g2, g3, g4, g5, g6⟩ := hp.2 _ r1
  obtain ⟨w, q1, q2⟩ := hv _ r1
  have hvw : w.vw = false := by
    cases q : w.vw with
    | false => rfl
    | true => exact nomatch q2.vw q
  obtain ⟨out, e6, q⟩ := h x _ (r1.put (i := i) (s := ⟨dSet s.d p (.obj C dx (putD m w.d fs)), .full, s.al || w.al, s.pn⟩) ⟨by rw [g6, ← hu x, q2.d], fun _ => ok_keep hp.1 g3 rfl rfl, fun _ z => by
    rcases Bool.or_eq_true _ _ ▸ z with z | z
    · rw [g4 z]; rfl
    · rw [q2.al z]; cases a <;> rfl⟩) t ht
  refine ⟨out, ?_, q⟩
  unfold sSeq sAtPO
  simp only [q1, g1, Option.bind_some, g2]
  rw [if_pos ⟨trivial, hvw, leL_full q2.l, of_decide_eq_true hl⟩]
  exact e6
theorem js_atP {C : Addr} {m : Str} {fe : EvE} {fs : List (Str × D)} {x : α} {k : α → Option T} {W : α → D} (hp : JP (fzsC fz cs) fp i mm (.ins C fs) a upd) (hv : JE (fzsC fz cs) fe (e x) .full a2 false) (hl : decide (fs.length < 1000) = true) (hu : ∀ x, upd (.ins C (putD m (e x) fs)) = W x) (h : ∀ x, JS (put (fzsC fz cs) i ⟨W x, mm, a || a2⟩) b (k x) Ψ) : JS cs (sSeq (sAtP C m fz fp fe) b) (letB x k) Ψ := fun ρ r t ht => by
  have r1 := r.fzs fz
  obtain ⟨p, s, g1, g2, g3, g4, g5, g6⟩ := hp.2 _ r1
  obtain ⟨w, q1, q2⟩ := hv _ r1
  have hvw : w.vw = false := by
    cases q : w.vw with
    | false => rfl
    | true => exact nomatch q2.vw q
  obtain ⟨out, e6, q⟩ := h x _ (r1.put (i := i) (s := ⟨dSet s.d p (.ins C (putD m w.d fs)), .full, s.al || w.al, s.pn⟩) ⟨by rw [g6, ← hu x, q2.d], fun _ => ok_keep hp.1 g3 rfl rfl, fun _ z => by
    rcases Bool.or_eq_true _ _ ▸ z with z | z
    · rw [g4 z]; rfl
    · rw [q2.al z]; cases a <;> rfl⟩) t ht
  refine ⟨out, ?_, q⟩
  unfold sSeq sAtP
  simp only [q1, g1, Option.bind_some, g2]
  rw [if_pos ⟨trivial, hvw, leL_full q2.l, of_decide_eq_true hl⟩]
  exact e6

theorem init_run {body : EvS} {n : Nat} {C dx : Addr} {ds : List D} {o : Option R} {x : R} {F : R → List (Str × D)} {cs' : CS} (h : JS (some ⟨.obj C dx [], .f, false⟩ :: (ds.map (fun d => some ⟨d, .s, true⟩) ++ List.replicate (n - 1 - ds.length) none)) body o (ΨJ fun r => some ⟨.obj C dx (F r), .f, false⟩ :: cs')) (hx : o = some x) (hn : ds.length ≤ n - 1) : runI body n C dx ds = some (F x) := by
  have r0 := rel_entry (n - 1) ds hn
  have r1 : Rel (some ⟨.obj C dx [], .full, false, none⟩ :: entry (n - 1) ds) (some ⟨.obj C dx [], .f, false⟩ :: (ds.map (fun d => some ⟨d, .s, true⟩) ++ List.replicate (n - 1 - ds.length) none)) := ⟨by simp [r0.len], fun i c e => by
    cases i with
    | zero => simp at e; subst e; exact ⟨_, rfl, rfl, fun _ => rfl, fun _ => id⟩
    | succ i => simpa using r0.at_ i c (by simpa using e)⟩
  obtain ⟨out, e1, q⟩ := h _ r1 x hx
  cases out with
  | nx ρ =>
    have q : Rel ρ _ := q
    obtain ⟨s, e2, k⟩ := q.at_ 0 ⟨.obj C dx (F x), .f, false⟩ rfl
    cases ρ with
    | nil => cases e2
    | cons y ρ =>
      have : y = some s := by simpa using e2
      subst this
      obtain ⟨sd, sl, sa, sp⟩ := s
      have h1 : sd = .obj C dx (F x) := k.d
      have h2 : sl = .full := k.m rfl
      have h3 : sa = false := by
        cases q : sa with
        | false => rfl
        | true => exact nomatch k.al rfl q
      subst h1 h2 h3
      unfold runI
      rw [e1]
      simp
  | _ => exact q.elim
end
end Tg

set_option Elab.async false
set_option linter.all false
set_option maxRecDepth 100000

namespace Tg
open PySem PySem.Spec L2 Ev
open PyProof.Rows hiding St
noncomputable def pick {α : Type} (P : α → Prop) : Option α := open Classical in if h : ∃ x, P x then some h.choose else none
theorem pick_some {α : Type} {P : α → Prop} {x : α} (h : pick P = some x) : P x := by
  unfold pick at h
  split at h
  · rename_i hx
    cases h
    exact hx.choose_spec
  · cases h
theorem pick_ex {α : Type} {P : α → Prop} {x : α} (h : P x) (u : ∀ y, P y → y = x) : pick P = some x := by
  unfold pick
  rw [dif_pos ⟨x, h⟩]
  congr 1
  exact u _ (Exists.choose_spec _)
section
variable {cs : CS} {f : EvE} {b : EvS} {d : D} {l : Lv} {a v : Bool} {α β γ δ T : Type} {e : α → D} {e2 : β → D} {e3 : γ → D} {e4 : δ → D} {Ψ : T → Out → Prop}
theorem jn_some {x : α} (h : JE cs f (e x) l a v) : JE cs f (dO e (some x)) l a v := h
theorem jn_none (e : α → D) (h : JE cs f .non l a v) : JE cs f (dO e none) l a v := h
theorem js_none : JS cs b (none : Option T) Ψ := fun _ _ _ h => nomatch h
theorem ret_no {q : Empty → T} {er : Empty → D} {lr : Lv} {ra : Bool} {P : Empty → Ev.Env → Prop} : RetOk Ψ q er lr ra P := fun _ r => nomatch r
theorem jit_lI {xs : List α} (hi : ∀ x, imm (e x) = true) (h : JE cs f (dL e xs) l a v) : JIt cs (iLstV f) xs e false := fun ρ r => by
  obtain ⟨x, e1, k⟩ := h ρ r
  refine ⟨false, id, ?_⟩
  unfold iLstV
  rw [e1]
  simp only [Option.bind_some, k.d, immAll_map hi, if_true, List.map_map]
  rfl
theorem jit_fV {xs : List α} (hi : ∀ x, imm (e x) = true) (h : JE cs f (dF e xs) l a v) : JIt cs (iLstV f) xs e false := fun ρ r => by
  obtain ⟨x, e1, k⟩ := h ρ r
  refine ⟨false, id, ?_⟩
  unfold iLstV
  rw [e1]
  simp only [Option.bind_some, k.d, immAll_map hi, if_true, List.map_map]
  rfl
theorem jit_lW {xs : List α} (h : JE cs f (dL e xs) l a false) : JIt cs (iLstV f) xs e a := fun ρ r => by
  obtain ⟨x, e1, k⟩ := h ρ r
  have hv : x.vw = false := by
    cases q : x.vw with
    | false => rfl
    | true => exact nomatch k.vw q
  unfold iLstV
  rw [e1]
  simp only [Option.bind_some, k.d]
  by_cases q : immAll (xs.map e) = true
  · refine ⟨false, (fun z => nomatch z), ?_⟩
    rw [if_pos q, List.map_map]
    rfl
  · refine ⟨x.al, k.al, ?_⟩
    rw [if_neg q, if_neg (by rw [hv]; exact Bool.false_ne_true), List.map_map]
    rfl
theorem je_isiO {T tn : String} {b b0 : Bool} {o : Option α} (h1 : JE cs f (dO e o) l a v) (h2 : ∀ x, tyN (e x) = some tn) (h3 : kitB tn T = some b) (h4 : kitB "NoneType" T = some b0) : JI cs (eIsi T f) (.bl (if o.isSome = true then b else b0)) := by
  cases o with
  | none => exact je_isi h1 rfl h4
  | some x => exact je_isi h1 (h2 x) h3
theorem imm_t1 (h : ∀ x, imm (e x) = true) (x : α) : imm (dT1 e x) = true := by simp [imm, immAll, h]
theorem imm_t2 (h : ∀ x, imm (e x) = true) (h2 : ∀ x, imm (e2 x) = true) (x : α × β) : imm (dT2 e e2 x) = true := by simp [imm, immAll, h, h2]
theorem imm_t3 (h : ∀ x, imm (e x) = true) (h2 : ∀ x, imm (e2 x) = true) (h3 : ∀ x, imm (e3 x) = true) (x : α × β × γ) : imm (dT3 e e2 e3 x) = true := by simp [imm, immAll, h, h2, h3]
end
end Tg

set_option Elab.async false
set_option linter.all false
set_option maxRecDepth 100000

namespace Tg
open PySem PySem.Spec L2 Ev
open PyProof.Rows hiding St
inductive Hid : CS → CS → Prop
  | nil : Hid [] []
  | no {x : Option Cl} {cs es : CS} : Hid cs es → Hid (x :: cs) (none :: es)
  | so {d : D} {m : Md} {a : Bool} {cs es : CS} : imm d = true → Hid cs es → Hid (some ⟨d, m, a⟩ :: cs) (some ⟨d, .a, true⟩ :: es)
theorem Hid.rel : ∀ {cs es : CS} {ρ : Ev.Env}, Hid cs es → Rel ρ cs → Rel (hideN ρ) es
  | _, _, ρ, .nil, r => by
    have := r.len
    cases ρ with
    | nil => exact ⟨rfl, fun i c e => by simp at e⟩
    | cons x ρ => simp at this
  | _, _, [], .no h, r => by have := r.len; simp at this
  | _, _, [], .so h _, r => by have := r.len; simp at this
  | _, _, x :: ρ, .no (cs := cs) (es := es) h, r => by
    have q : Rel (hideN ρ) es := h.rel ⟨by simpa using r.len, fun i c e => by simpa using r.at_ (i + 1) c (by simpa using e)⟩
    refine ⟨by simpa [hideN] using q.len, fun i c e => ?_⟩
    cases i with
    | zero => simp at e
    | succ i => simpa [hideN] using q.at_ i c (by simpa using e)
  | _, _, x :: ρ, .so (d := d) (m := m) (a := a) (cs := cs) (es := es) hi h, r => by
    have q : Rel (hideN ρ) es := h.rel ⟨by simpa using r.len, fun i c e => by simpa using r.at_ (i + 1) c (by simpa using e)⟩
    refine ⟨by simpa [hideN] using q.len, fun i c e => ?_⟩
    cases i with
    | zero =>
      simp at e
      subst e
      obtain ⟨s, e1, k⟩ := r.at_ 0 ⟨d, m, a⟩ (by simp)
      have : x = some s := by simpa using e1
      subst this
      have hd : s.d = d := k.d
      have hx : imm s.d = true := by rw [hd]; exact hi
      refine ⟨⟨s.d, .full, false, none⟩, by simp [hideN, hx], hd, fun z => trivial, fun z _ => rfl⟩
    | succ i => simpa [hideN] using q.at_ i c (by simpa using e)
section
variable {cs cs0 : CS} {fd : Ev.Env → Option D} {l : Lv} {a2 : Bool} {α β : Type} {e : α → D} {e2 : β → D}
theorem rd_name {i : Nat} {d : D} {m : Md} {a : Bool} (h : nth cs i = some ⟨d, m, a⟩) : ∀ ρ, Rel ρ cs → rdName i ρ = some d := fun ρ r => by
  obtain ⟨s, e1, k⟩ := r.nth h
  unfold rdName
  rw [e1]
  exact congrArg some k.d
theorem rd_fld {i : Nat} {C : Addr} {f : Str} {fs : List (Str × D)} {d : D} {m : Md} {a : Bool} (h : nth cs i = some ⟨.ins C fs, m, a⟩) (hf : fs.lookup f = some d) : ∀ ρ, Rel ρ cs → rdFld C f i ρ = some d := fun ρ r => by
  obtain ⟨s, e1, k⟩ := r.nth h
  have hd : s.d = .ins C fs := k.d
  unfold rdFld
  rw [e1]
  simp only [hd, if_true, hf]
theorem lcD_ok {itD : D → Option (List D)} {d : D} {vs : List Nat} {tg : Tg} {c : EvT} {el : EvE} {p : α → Option Bool} {F : α → Option β} {B : α → CS} {xs : List α} {ys : List β} (hd : ∀ ρ, Rel ρ cs → fd ρ = some d) (hit : itD d = some (xs.map e)) (hh : Hid cs cs0) (ht : ∀ x, tgC tg (e x) false (wipeC vs cs0) = some (B x)) (hc : ∀ x, JTo (B x) c (p x)) (he : ∀ x, JEo (B x) el e2 (F x) l a2 false) (h : bindO (lcM xs p F) big = some ys) : JE cs (eLcD itD fd vs tg c el) (dL e2 ys) (if isFull l = true then .full else .top) false false := fun ρ r => by
  obtain ⟨zs, e3, e4⟩ := bindO_some h
  obtain ⟨hl, rfl⟩ := big_some e4
  obtain ⟨rs, h1, h2, h3⟩ := lc_ok (a := false) ht hc he ((hh.rel r).wipe vs) (a' := false) id e3
  have e5 : (xs.map e).map (fun d => (d, false)) = xs.map fun x => (e x, false) := by rw [List.map_map]; rfl
  unfold eLcD
  rw [hd ρ r]
  simp only [Option.bind_some, hit, e5, h1]
  unfold mkBig
  rw [if_pos (by rw [h3]; exact hl)]
  by_cases q : isFull l = true
  · rw [if_pos q]
    rw [q] at h2
    rw [if_pos h2.allfull]
    exact ⟨_, rfl, by rw [h2.d], rfl, fun h => (nomatch h), fun h => (nomatch h)⟩
  · rw [if_neg q]
    split
    · exact ⟨_, rfl, by rw [h2.d], rfl, fun h => (nomatch h), fun h => (nomatch h)⟩
    · exact ⟨_, rfl, by rw [h2.d], rfl, fun h => (nomatch h), fun h => (nomatch h)⟩
theorem it_KT (hi : ∀ x, imm (e x) = true) (m : List ((Int × Int) × α)) : itDT (dKT e m) = some (m.map (dT2 (dT2 dI dI) e)) := by
  show (if immAll _ = true then _ else _) = _
  rw [if_pos (by rw [List.map_map]; exact immAll_map (e := fun p : (Int × Int) × α => e p.2) (fun x => hi x.2) m), List.map_map]
  rfl
theorem it_KI (hi : ∀ x, imm (e x) = true) (m : List (Int × α)) : itDK (dKI e m) = some (m.map (dT2 dI e)) := by
  show (if immAll _ = true then _ else _) = _
  rw [if_pos (by rw [List.map_map]; exact immAll_map (e := fun p : Int × α => e p.2) (fun x => hi x.2) m), List.map_map]
  rfl
end
end Tg

set_option Elab.async false
set_option linter.all false
set_option maxRecDepth 100000
namespace Tg
open PySem PySem.Spec Ev
def kindsO (xs : List Int) : Option Int := if xs.length < 4000 then some ((dedI xs).length : Int) else none
theorem b_lenSet {xs : List Int} {n : Int} (h : kindsO xs = some n) : bLenSet [dL dI xs] = some (.int n, .full) := by
  unfold kindsO at h
  show ((some (xs.map dI)).bind intsOf).bind _ = _
  rw [Option.bind_some]
  have e : ∀ l : List Int, intsOf (l.map dI) = some l := fun l => by
    induction l with
    | nil => rfl
    | cons x l ih => show (some x).bind (fun i => (intsOf (l.map dI)).map (i :: ·)) = _; rw [ih]; rfl
  rw [e, Option.bind_some]
  split at h
  · rename_i q
    cases h
    rw [if_pos q]
  · cases h
end Tg

set_option Elab.async false
set_option linter.all false
set_option maxRecDepth 100000
namespace Tg
open PySem PySem.Spec Ev
section
variable {α β : Type} {e : α → D} {e2 : β → D} {cs : CS} {f g : EvE} {l l2 : Lv} {a a2 v v2 : Bool}
def rngL (i j : Int) : Option (List Int) := if -(2 ^ 62) ≤ i ∧ i < 2 ^ 62 ∧ -(2 ^ 62) ≤ j ∧ j < 2 ^ 62 ∧ (j - i).toNat ≤ 2 ^ 24 then some ((List.range (j - i).toNat).map fun (k : Nat) => i + (k : Int)) else none
theorem rgL_of {i j : Int} {xs : List Int} (h : rngL i j = some xs) : rgL i j = some (dL dI xs) := by
  unfold rngL at h
  unfold rgL
  split at h
  · rename_i c
    cases h
    rw [if_pos c]
  · cases h
theorem je_lstR1 {xs : List Int} {j : Int} (h : JE cs f (.int j) l a v) (hx : rngL 0 j = some xs) : JI cs (eLstR1 f) (dL dI xs) := fun ρ r => by
  obtain ⟨x, e1, k1⟩ := h ρ r
  refine ⟨⟨dL dI xs, .full, false, false⟩, ?_, rfl, rfl, fun h => (nomatch h), fun h => nomatch h⟩
  unfold eLstR1
  rw [e1]
  simp only [Option.bind_some, k1.d, intOf, rgL_of hx, Option.map_some]
theorem je_lstR2 {xs : List Int} {i j : Int} (h : JE cs f (.int i) l a v) (h2 : JE cs g (.int j) l2 a2 v2) (hx : rngL i j = some xs) : JI cs (eLstR2 f g) (dL dI xs) := fun ρ r => by
  obtain ⟨x, e1, k1⟩ := h ρ r
  obtain ⟨y, e2, k2⟩ := h2 ρ r
  refine ⟨⟨dL dI xs, .full, false, false⟩, ?_, rfl, rfl, fun h => (nomatch h), fun h => nomatch h⟩
  unfold eLstR2
  rw [e1, e2]
  simp only [Option.bind_some, k1.d, k2.d, intOf, rgL_of hx, Option.map_some]
theorem b_lstRev (xs : List α) : bLstRev [dL e xs] = some (dL e xs.reverse, .top) := by
  show some (D.lst (xs.map e).reverse, Lv.top) = _
  rw [← List.map_reverse]
theorem je_appT {xs zs : List α} {y : α} {d2 : D} (h : JE cs f (dL e xs) l a v) (hl : l = .top ∨ l = .full) (h2 : JE cs g d2 l2 a2 v2) (hz : appO xs y = some zs) : JI cs (eAppT f g) .non := fun ρ r => by
  obtain ⟨x, e1, k1⟩ := h ρ r
  obtain ⟨z, e2, k2⟩ := h2 ρ r
  refine ⟨rA .non, ?_, .i _⟩
  have hx : x.l ≠ .shr := fun q => by
    have := k1.l
    rw [q] at this
    rcases hl with rfl | rfl <;> cases this
  have hn : xs.length ≤ 1000000 := by
    unfold appO at hz
    split at hz
    · assumption
    · cases hz
  unfold eAppT
  rw [e1, e2]
  simp only [Option.bind_some, k1.d]
  exact if_pos ⟨hx, by rw [List.length_map]; exact hn⟩
theorem n_t {xs : List D} {n : Nat} (h : xs.length = n) : lenOf (.tup xs) = some n := by rw [← h]; rfl
end
end Tg

set_option Elab.async false
set_option linter.all false
set_option maxRecDepth 100000

namespace Tg
open PySem PySem.Spec L2 Ev
open PyProof.Rows hiding St
section
variable {cs cs' : CS} {f g : EvE} {fx : EvX} {ga : EvA} {b : EvS} {d d2 : D} {l l2 : Lv} {a a2 v v2 : Bool} {α β T R σ : Type} {e : α → D} {e2 : β → D} {Ψ : T → Out → Prop} {i j : Nat} {o : Option T}

def JX (cs : CS) (fx : EvX) (cs' : CS) (d : D) (l : Lv) (a v : Bool) : Prop := ∀ ρ, Rel ρ cs → ∃ ρ' r, fx ρ = some (ρ', r) ∧ Rel ρ' cs' ∧ ROk r d l a v
theorem jx_pure (h : JE cs f d l a v) : JX cs (xPure f) cs d l a v := fun ρ r => by
  obtain ⟨x, e1, k1⟩ := h ρ r
  refine ⟨ρ, x, ?_, r, k1⟩
  unfold xPure
  rw [e1]
  rfl
theorem js_exprX (h : JX cs fx cs' d l a v) (k : JS cs' b o Ψ) : JS cs (sSeq (sExprX fx) b) o Ψ := fun ρ r t ht => by
  obtain ⟨ρ', x, e1, r1, _⟩ := h ρ r
  obtain ⟨out, e2, q⟩ := k ρ' r1 t ht
  refine ⟨out, ?_, q⟩
  unfold sSeq sExprX
  rw [e1]
  exact e2
theorem js_setX {k : α → Option T} {x : α} (h : JX cs fx cs' (e x) l a false) (hi : decide (i < cs'.length) = true) (hk : ∀ x, JS (put cs' i ⟨e x, mdOf l, a⟩) b (k x) Ψ) : JS cs (sSeq (sSetX i fx) b) (letB x k) Ψ := fun ρ r t ht => by
  obtain ⟨ρ', y, e1, r1, k1⟩ := h ρ r
  have hv : y.vw = false := by
    cases q : y.vw with
    | false => rfl
    | true => exact nomatch k1.vw q
  obtain ⟨out, e2, q⟩ := hk x _ (r1.put (i := i) (s := ⟨y.d, y.l, y.al, none⟩) ⟨k1.d, fun _ => mdOf_ok k1.l, fun _ => k1.al⟩) t ht
  refine ⟨out, ?_, q⟩
  unfold sSeq sSetX
  simp only [e1, Option.bind_some, hv]
  rw [if_pos (by rw [r1.len, hi]; rfl)]
  exact e2
theorem js_appX {xs : List α} {x : α} {m : Md} {c0 : Cl} {xs0 : List α} {k : List α → Option T} (h0 : nth cs i = some c0) (hd0 : c0.d = dL e xs0) (h : JX cs fx cs' (e x) l a2 false) (hn : nth cs' i = some ⟨dL e xs, m, a⟩) (hm : ownM m = true) (hk : ∀ ys, JS (put cs' i ⟨dL e ys, keepM m l, a || a2⟩) b (k ys) Ψ) : JS cs (sSeq (sAppX i fx) b) (bindO (appO xs x) k) Ψ := fun ρ r t ht => by
  obtain ⟨s0, e0, k0⟩ := r.nth h0
  obtain ⟨ρ', y, e1, r1, k2⟩ := h ρ r
  obtain ⟨s, e3, k1⟩ := r1.nth hn
  obtain ⟨zs, e4, e5⟩ := bindO_some ht
  obtain ⟨hl, rfl⟩ := appO_some e4
  have hv : y.vw = false := by
    cases q : y.vw with
    | false => rfl
    | true => exact nomatch k2.vw q
  have hml := k1.m rfl
  have hne := ownM_ok hm hml
  have hd : s.d = .lst (xs.map e) := k1.d
  have hd0 : s0.d = .lst (xs0.map e) := by rw [k0.d, hd0]
  have hs : Cl.ok ⟨dL e (xs ++ [x]), keepM m l, a || a2⟩ ⟨.lst (xs.map e ++ [y.d]), keepLv s.l (if y.l = .full then .full else .top), s.al || y.al, s.pn⟩ := by
    refine ⟨by simp [k2.d], fun _ => ?_, fun _ z => ?_⟩
    · refine keepM_ok (l2 := if y.l = .full then .full else .top) hml ?_ rfl rfl
      cases l with
      | full => rw [leL_full k2.l]; rfl
      | top => split <;> rfl
      | shr => exact leL_shr _
    · rcases Bool.or_eq_true _ _ ▸ z with z | z
      · have := k1.al rfl z
        simp only at this
        rw [this]; rfl
      · rw [k2.al z, Bool.or_true]
  obtain ⟨out, e6, q⟩ := hk _ _ (r1.put hs) t e5
  refine ⟨out, ?_, q⟩
  unfold sSeq sAppX
  rw [e0]
  simp only [hd0, e1, Option.bind_some, e3, hd]
  rw [if_pos ⟨hne, by rw [List.length_map]; exact hl, hv⟩]
  exact e6
theorem jx_bi {G : List D → Option Ret} {l' : Lv} {d' : D} (h : JX cs fx cs' d l a v) (hz : G [d] = some (d', l')) (hi : imm d' = true ∨ whole d' = true ∧ l' = .top) : JX cs (xBi G fx) cs' d' .full false false := fun ρ r => by
  obtain ⟨ρ', x, e1, r1, k1⟩ := h ρ r
  refine ⟨ρ', res x.al x.vw (d', l'), ?_, r1, res_I hi⟩
  unfold xBi
  rw [e1]
  simp only [Option.bind_some, k1.d, hz, Option.map_some]

def popO (xs : List α) : Option (List α × α) := match xs.getLast? with
  | some x => some (xs.dropLast, x)
  | none => none
theorem popO_some {xs ys : List α} {x : α} (h : popO xs = some (ys, x)) : ys = xs.dropLast ∧ xs[xs.length - 1]? = some x := by
  unfold popO at h
  split at h
  · rename_i z hz
    cases h
    exact ⟨rfl, by rw [← List.getLast?_eq_getElem?]; exact hz⟩
  · cases h
theorem jx_pop {xs : List α} {p : List α × α} {m : Md} (hn : nth cs i = some ⟨dL e xs, m, a⟩) (hm : ownM m = true) (hi : ∀ x, imm (e x) = true) (h : popO xs = some p) : JX cs (xPop i) (put cs i ⟨dL e p.1, m, a⟩) (e p.2) .full false false := fun ρ r => by
  obtain ⟨s, e1, k1⟩ := r.nth hn
  obtain ⟨ys, x⟩ := p
  obtain ⟨rfl, hx⟩ := popO_some h
  have hml := k1.m rfl
  have hne := ownM_ok hm hml
  have hd : s.d = .lst (xs.map e) := k1.d
  refine ⟨_, rA (e x), ?_, r.put (i := i) (s := ⟨.lst (xs.map e).dropLast, s.l, s.al, s.pn⟩) ⟨by simp [dL, List.map_dropLast], fun _ => ?_, fun _ z => k1.al rfl z⟩, .i _⟩
  · unfold xPop
    rw [e1]
    simp only [hd]
    rw [if_pos ⟨hne, immAll_map hi xs⟩, List.length_map, List.getElem?_map, hx]
    rfl
  · cases m <;> exact hml
theorem jx_meth {C : Addr} {m : Str} {Rf : List D → Option RetD} {fs : List (Str × D)} {c0 : Cl} {m1 : Md} {a1 ral : Bool} (h0 : nth cs j = some c0) (hd0 : c0.d = .ins C fs) (hm : (fs.lookup m).isNone = true) (h : JX cs fx cs' d2 l2 a2 v2) (hn : nth cs' j = some ⟨.ins C fs, m1, a1⟩) (hR : RetE Rf [.ins C fs, d2] d l ral) : JX cs (xMeth C m Rf j fx) cs' d l (ral && (a1 || a2)) ral := fun ρ r => by
  obtain ⟨s0, e0, k0⟩ := r.nth h0
  obtain ⟨ρ', x, e1, r1, k1⟩ := h ρ r
  obtain ⟨s, e3, k3⟩ := r1.nth hn
  obtain ⟨l', a', hz, hl, ha⟩ := hR
  have hd0 : s0.d = .ins C fs := by rw [k0.d, hd0]
  have hd : s.d = .ins C fs := k3.d
  refine ⟨ρ', mkR (s.al || x.al) (decide (s.l ≠ .shr) || x.vw) (d, l', a'), ?_, r1, ?_⟩
  · unfold xMeth
    rw [e0]
    simp only [hd0]
    rw [if_pos ⟨trivial, hm⟩, e1]
    simp only [Option.bind_some, e3, hd, k1.d, hz, Option.map_some]
  · unfold mkR
    by_cases hi : imm d = true
    · rw [if_pos hi]
      exact ⟨rfl, by cases l <;> rfl, fun h => (nomatch h), fun h => nomatch h⟩
    · rw [if_neg hi]
      cases a' with
      | false => exact ⟨rfl, hl, fun h => (nomatch h), fun h => nomatch h⟩
      | true =>
        refine ⟨rfl, hl, fun h => ?_, fun _ => ha rfl⟩
        have h : (s.al || x.al) = true := h
        rw [ha rfl]
        rcases Bool.or_eq_true _ _ ▸ h with h | h
        · have := k3.al rfl h
          simp only at this
          rw [this]; rfl
        · rw [k1.al h, Bool.or_true]; rfl
theorem JX.nv (h : JX cs fx cs' d l a v) (hi : imm d = true) : JX cs fx cs' d l a v := h
end
end Tg

set_option Elab.async false
set_option linter.all false
set_option maxRecDepth 100000

namespace Tg
open PySem PySem.Spec L2 Ev
open PyProof.Rows hiding St
section
variable {cs cs' : CS} {f : EvE} {fx : EvX} {g : EvM} {b : EvS} {d d2 : D} {l l2 : Lv} {a a2 v v2 : Bool} {α β T R σ : Type} {e : α → D} {e2 : β → D} {Ψ : T → Out → Prop} {i j : Nat} {o : Option T}
theorem jx_list {xs : List α} (h : JX cs fx cs' (dL e xs) l a false) : ∀ ρ, Rel ρ cs → ∃ ρ' a', iLstX fx ρ = some (ρ', xs.map fun x => (e x, a')) ∧ Rel ρ' cs' ∧ (a' = true → a = true) := fun ρ r => by
  obtain ⟨ρ', x, e1, r1, k1⟩ := h ρ r
  have hv : x.vw = false := by
    cases q : x.vw with
    | false => rfl
    | true => exact nomatch k1.vw q
  refine ⟨ρ', x.al, ?_, r1, k1.al⟩
  unfold iLstX
  rw [e1]
  have hd : x.d = .lst (xs.map e) := k1.d
  simp only [Option.bind_some, hv, hd, List.map_map]
  rw [if_neg Bool.false_ne_true]
  rfl
theorem js_forX {C : σ → CS} {tg : Tg} {body : EvS} {xs : List α} {s0 : σ} {F : α → σ → Option σ} {B : α → σ → CS} {k : σ → Option T} (hx : JX cs fx cs' (dL e xs) l a false) (h0 : Le cs' (C s0)) (ht : ∀ x s, tgC tg (e x) a (C s) = some (B x s)) (hb : ∀ x s, JS (B x s) body (F x s) (ΨL C)) (h : ∀ s, JS (C s) b (k s) Ψ) : JS cs (sSeq (sForX (iLstX fx) tg body) b) (bindO (forS xs s0 F) k) Ψ := fun ρ r t hh => by
  obtain ⟨ρ0, a', e1, r1, ha⟩ := jx_list hx ρ r
  obtain ⟨s', e2, e3⟩ := bindO_some hh
  have go : ∀ (xs : List α) (s : σ) (ρ : Ev.Env), Rel ρ (C s) → ∀ s', forS xs s F = some s' → ∃ ρ', forL tg body (xs.map fun x => (e x, a')) ρ = some (.nx ρ') ∧ Rel ρ' (C s') := by
    intro xs
    induction xs with
    | nil => intro s ρ r s' h; cases h; exact ⟨ρ, rfl, r⟩
    | cons x xs ih =>
      intro s ρ r s' h
      unfold forS at h
      obtain ⟨s1, g1, g2⟩ := bindO_some h
      obtain ⟨ρ1, g3, r3⟩ := tgC_ok (ht x s) ha r
      obtain ⟨out, g4, q4⟩ := hb x s ρ1 r3 s1 g1
      rw [List.map_cons]
      unfold forL
      rw [g3]
      simp only [Option.bind_some, g4]
      cases out with
      | nx ρ2 => exact ih s1 ρ2 q4 s' g2
      | ct ρ2 => exact ih s1 ρ2 q4 s' g2
      | bk ρ2 => exact q4.elim
      | rt ρ2 d l a' => exact q4.elim
  obtain ⟨ρ', g1, r2⟩ := go xs s0 _ (h0.rel r1) s' e2
  obtain ⟨out, e5, q⟩ := h s' ρ' r2 t e3
  refine ⟨out, ?_, q⟩
  unfold sSeq sForX
  rw [e1]
  simp only [Option.bind_some, g1]
  exact e5

inductive MC where
  | val (d : D) (l : Lv) (a : Bool) | slot (j : Nat) (d : D) (m : Md) (a : Bool)
def mcD : MC → D
  | .val d _ _ => d
  | .slot _ d _ _ => d
def mcA : MC → Bool
  | .val _ _ a => a
  | .slot _ _ _ a => a
inductive MAOk : List MA → List MC → Prop
  | nil : MAOk [] []
  | val {r : Rv} {d : D} {l : Lv} {a : Bool} {as : List MA} {is : List MC} : ROk r d l a false → MAOk as is → MAOk (.val r :: as) (.val d l a :: is)
  | slot {j : Nat} {s : Sv} {d : D} {m : Md} {a : Bool} {as : List MA} {is : List MC} : Cl.ok ⟨d, m, a⟩ s → isNd d = true → MAOk as is → MAOk (.slot j s :: as) (.slot j d m a :: is)
theorem nd_imm {d : D} (h : isNd d = true) : imm d = false := by
  cases d <;> first | rfl | cases h
theorem MAOk.ds : ∀ {as : List MA} {is : List MC}, MAOk as is → as.map maD = is.map mcD
  | _, _, .nil => rfl
  | _, _, .val k q => by rw [List.map_cons, List.map_cons, q.ds]; congr 1; exact k.d
  | _, _, .slot k _ q => by rw [List.map_cons, List.map_cons, q.ds]; congr 1; exact k.d
theorem MAOk.als : ∀ {as : List MA} {is : List MC}, MAOk as is → as.any maA = true → is.any mcA = true
  | _, _, .nil, h => by cases h
  | _, _, .val k q, h => by
    rw [List.any_cons, Bool.or_eq_true] at h ⊢
    exact h.imp k.al q.als
  | _, _, .slot k n q, h => by
    rw [List.any_cons, Bool.or_eq_true] at h ⊢
    exact h.imp (k.al (nd_imm n)) q.als
def JM (cs : CS) (g : EvM) (is : List MC) : Prop := ∀ ρ, Rel ρ cs → ∃ as, g ρ = some as ∧ MAOk as is
theorem jm_nil : JM cs mNil [] := fun ρ r => ⟨[], rfl, .nil⟩
theorem jm_val {is : List MC} (h : JE cs f d l a false) (h2 : JM cs g is) : JM cs (mVal f g) (.val d l a :: is) := fun ρ r => by
  obtain ⟨x, e1, k1⟩ := h ρ r
  obtain ⟨as, e2, k2⟩ := h2 ρ r
  refine ⟨.val x :: as, ?_, .val k1 k2⟩
  have hv : x.vw = false := by
    cases q : x.vw with
    | false => rfl
    | true => exact nomatch k1.vw q
  unfold mVal
  rw [e1, e2]
  simp only [Option.bind_some, Option.map_some]
  exact if_pos hv
theorem jm_slot {is : List MC} {m : Md} (hn : nth cs j = some ⟨d, m, a⟩) (hd : isNd d = true) (h2 : JM cs g is) : JM cs (mSlot j g) (.slot j d m a :: is) := fun ρ r => by
  obtain ⟨s, e1, k1⟩ := r.nth hn
  obtain ⟨as, e2, k2⟩ := h2 ρ r
  refine ⟨.slot j s :: as, ?_, .slot k1 hd k2⟩
  unfold mSlot
  rw [e1, e2]
  rfl
def hideC (cs : CS) (j : Nat) : CS := cs.set j none
theorem Rel.hide {ρ : Ev.Env} (r : Rel ρ cs) (j : Nat) : Rel (ρ.set j none) (hideC cs j) where
  len := by unfold hideC; rw [List.length_set, List.length_set, r.len]
  at_ := fun k c e => by
    unfold hideC at e
    rw [List.getElem?_set] at e ⊢
    by_cases q : j = k
    · subst q
      rw [if_pos rfl] at e
      split at e <;> simp at e
    · rw [if_neg q] at e
      rw [if_neg q]
      exact r.at_ k c e

def splitC : List Bool → List MC → CS → CS
  | true :: ms, .slot j _ _ _ :: is, cs => splitC ms is (hideC cs j)
  | _ :: ms, _ :: is, cs => splitC ms is cs
  | _, _, cs => cs
inductive OkC : List Bool → List MC → CS → Prop
  | nil {cs : CS} : OkC [] [] cs
  | sh {ms : List Bool} {is : List MC} {cs : CS} {d : D} {l : Lv} {a : Bool} : OkC ms is cs → OkC (false :: ms) (.val d l a :: is) cs
  | ov {ms : List Bool} {is : List MC} {cs : CS} {d : D} {a : Bool} : isNd d = true → OkC ms is cs → OkC (true :: ms) (.val d .full a :: is) cs
  | sl {ms : List Bool} {is : List MC} {cs : CS} {j : Nat} {d : D} {m : Md} {a : Bool} : nth cs j = some ⟨d, m, a⟩ → fullM m = true → isNd d = true → OkC ms is (hideC cs j) → OkC (true :: ms) (.slot j d m a :: is) cs
theorem OkC.split : ∀ {ms : List Bool} {as : List MA} {is : List MC} {cs : CS} {ρ : Ev.Env}, OkC ms is cs → MAOk as is → Rel ρ cs → ∃ ρh, splitM ms as ρ = some ρh ∧ Rel ρh (splitC ms is cs)
  | _, _, _, _, ρ, .nil, .nil, r => ⟨ρ, rfl, r⟩
  | _, _, _, _, ρ, .sh q, .val k p, r => by
    obtain ⟨ρh, e1, r1⟩ := q.split p r
    refine ⟨ρh, ?_, r1⟩
    unfold splitM
    rw [if_pos (.inl rfl)]
    exact e1
  | _, _, _, _, ρ, .ov n q, .val k p, r => by
    obtain ⟨ρh, e1, r1⟩ := q.split p r
    refine ⟨ρh, ?_, r1⟩
    unfold splitM
    rw [if_pos (.inr ⟨leL_full k.l, by rw [k.d]; exact n⟩)]
    exact e1
  | _, _, _, _, ρ, .sl (j := j) hn hm n q, .slot k _ p, r => by
    obtain ⟨s, e0, k0⟩ := r.nth hn
    obtain ⟨ρh, e1, r1⟩ := q.split p (r.hide j)
    refine ⟨ρh, ?_, r1⟩
    unfold splitM
    rw [e0]
    simp only
    rw [if_pos ⟨fullM_ok hm (k0.m (nd_imm n)), by rw [k0.d]; exact n⟩]
    exact e1

def backC (al : Bool) : List MC → List (Option D) → CS → CS
  | .slot j _ m _ :: is, some d :: os, cs => put (backC al is os cs) j ⟨d, m, al⟩
  | _ :: is, _ :: os, cs => backC al is os cs
  | _, _, cs => cs
theorem back_rel {al al' : Bool} (ha : al = true → al' = true) : ∀ {as : List MA} {is : List MC} (os : List (Option D)) {cs : CS} {ρ : Ev.Env}, (∀ i ∈ is, ∀ j d m a, i = MC.slot j d m a → fullM m = true) → MAOk as is → Rel ρ cs → Rel (backM al as os ρ) (backC al' is os cs)
  | _, _, [], _, ρ, _, .nil, r => r
  | _, _, _ :: _, _, ρ, _, .nil, r => r
  | _, _, [], _, ρ, _, .val _ _, r => r
  | _, _, [], _, ρ, _, .slot _ _ _, r => r
  | _, _, o :: os, _, ρ, hf, .val k p, r => by
    have := back_rel ha os (fun i m => hf i (List.mem_cons_of_mem _ m)) p r
    cases o <;> exact this
  | _, _, none :: os, _, ρ, hf, .slot k n p, r => back_rel ha os (fun i m => hf i (List.mem_cons_of_mem _ m)) p r
  | .slot j s :: as, .slot _ _ m a0 :: is, some d' :: os, _, ρ, hf, .slot k n p, r => by
    have := back_rel ha os (fun i m => hf i (List.mem_cons_of_mem _ m)) p r
    have hm := hf _ List.mem_cons_self j _ m a0 rfl
    refine this.put (i := j) (s := ⟨d', .full, al, s.pn⟩) ⟨rfl, fun _ => ?_, fun _ z => ha z⟩
    have hk := k.m (nd_imm n)
    cases m <;> first | exact absurd hm (by decide) | rfl | exact ⟨rfl, hk.2⟩
theorem OkC.fm : ∀ {ms : List Bool} {is : List MC} {cs : CS}, OkC ms is cs → ∀ i ∈ is, ∀ j d m a, i = MC.slot j d m a → fullM m = true
  | _, _, _, .nil, _, m, _, _, _, _, _ => nomatch m
  | _, _, _, .sh q, i, m, j, d, md, a, e => by
    rcases List.mem_cons.mp m with m | m
    · rw [m] at e; cases e
    · exact q.fm i m j d md a e
  | _, _, _, .ov _ q, i, m, j, d, md, a, e => by
    rcases List.mem_cons.mp m with m | m
    · rw [m] at e; cases e
    · exact q.fm i m j d md a e
  | _, _, _, .sl _ hm _ q, i, m, j, d, md, a, e => by
    rcases List.mem_cons.mp m with m | m
    · rw [m] at e; cases e; exact hm
    · exact q.fm i m j d md a e

def RetME (φ : List D → Option RetM) (ds : List D) (os : List (Option D)) (d : D) (l : Lv) (al : Bool) : Prop := ∃ l' a', φ ds = some (os, d, l', a') ∧ leL l l' = true ∧ (a' = true → al = true)
theorem jx_call {Rf : List D → Option RetM} {ms : List Bool} {is : List MC} {os : List (Option D)} {ral : Bool} (h : JM cs g is) (hok : OkC ms is cs) (hR : RetME Rf (is.map mcD) os d l ral) : JX cs (xCall ms Rf g) (backC (is.any mcA) is os (splitC ms is cs)) d l (ral && is.any mcA) false := fun ρ r => by
  obtain ⟨as, e1, k1⟩ := h ρ r
  obtain ⟨ρh, e2, r2⟩ := hok.split k1 r
  obtain ⟨l', a', hz, hl, ha⟩ := hR
  refine ⟨backM (as.any maA) as os ρh, mkR (as.any maA) false (d, l', a'), ?_, back_rel k1.als os hok.fm k1 r2, ?_⟩
  · unfold xCall
    rw [e1]
    simp only [Option.bind_some, e2, k1.ds, hz, Option.map_some]
  · unfold mkR
    by_cases hi : imm d = true
    · rw [if_pos hi]
      exact ⟨rfl, by cases l <;> rfl, fun h => (nomatch h), fun h => nomatch h⟩
    · rw [if_neg hi]
      cases a' with
      | false => exact ⟨rfl, hl, fun h => (nomatch h), fun h => nomatch h⟩
      | true => exact ⟨rfl, hl, fun h => by rw [ha rfl, k1.als h]; rfl, fun h => nomatch h⟩

def entC : Nat → List Bool → List D → CS
  | _, [], _ => []
  | _, _, [] => []
  | i, b :: ms, d :: ds => some ⟨d, if b = true then .p i else .s, true⟩ :: entC (i + 1) ms ds
def backsC : Nat → List Bool → CS → Option (List (Option D))
  | _, [], _ => some []
  | i, false :: ms, _ :: cs => (backsC (i + 1) ms cs).map (none :: ·)
  | i, true :: ms, some ⟨d, .p k, _⟩ :: cs => if k = i ∧ isNd d = true then (backsC (i + 1) ms cs).map (some d :: ·) else none
  | _, _, _ => none
theorem Rel.tail {ρ : Ev.Env} {x : Option Sv} {c : Option Cl} (r : Rel (x :: ρ) (c :: cs)) : Rel ρ cs := ⟨by simpa using r.len, fun i c e => by simpa using r.at_ (i + 1) c (by simpa using e)⟩
theorem backs_ok : ∀ {i : Nat} {ms : List Bool} {cs : CS} {ρ : Ev.Env} {os : List (Option D)}, Rel ρ cs → backsC i ms cs = some os → backs i ms ρ = os
  | i, [], _, _, _, _, h => by cases h; rfl
  | i, false :: ms, [], _, _, _, h => by cases h
  | i, true :: ms, [], _, _, _, h => by cases h
  | i, _ :: _, _ :: _, [], _, r, _ => by have := r.len; simp at this
  | i, false :: ms, c :: cs, x :: ρ, os, r, h => by
    unfold backsC at h
    obtain ⟨os', h1, rfl⟩ := Option.map_eq_some_iff.mp h
    have := backs_ok r.tail h1
    unfold backs
    rw [this]
  | i, true :: ms, none :: cs, x :: ρ, os, r, h => by cases h
  | i, true :: ms, some ⟨d, m, a⟩ :: cs, x :: ρ, os, r, h => by
    cases m with
    | p k =>
      unfold backsC at h
      split at h
      · rename_i hc
        obtain ⟨rfl, hn⟩ := hc
        obtain ⟨os', h1, rfl⟩ := Option.map_eq_some_iff.mp h
        have := backs_ok r.tail h1
        obtain ⟨s, e, k0⟩ := r.at_ 0 _ rfl
        have e : x = some s := by simpa using e
        subst e
        have hm := k0.m (nd_imm hn)
        unfold backs
        rw [this]
        simp only
        rw [if_pos (show s.l = .full ∧ s.pn = some k from hm), k0.d]
      · cases h
    | _ => cases h
end
end Tg

set_option Elab.async false
set_option linter.all false
set_option maxRecDepth 100000

namespace Tg
open PySem PySem.Spec L2 Ev
open PyProof.Rows hiding St
section
variable {cs cs' : CS} {b : EvS} {T R : Type} {Ψ : T → Out → Prop}
theorem go_rel : ∀ (i : Nat) (ms : List Bool) (ds : List D) (n : Nat), Rel (entryM.go i ms ds ++ List.replicate n none) (entC i ms ds ++ List.replicate n none)
  | i, [], ds, n => ⟨by simp [entryM.go, entC], fun k c e => by
      simp only [entC, List.nil_append] at e
      rw [List.getElem?_replicate] at e
      split at e <;> simp at e⟩
  | i, _ :: _, [], n => ⟨by simp [entryM.go, entC], fun k c e => by
      simp only [entC, List.nil_append] at e
      rw [List.getElem?_replicate] at e
      split at e <;> simp at e⟩
  | i, bb :: ms, d :: ds, n => by
    have q := go_rel (i + 1) ms ds n
    refine ⟨?_, fun k c e => ?_⟩
    · have := q.len
      simpa [entryM.go, entC] using this
    · cases k with
      | zero =>
        have e : some ⟨d, if bb = true then Md.p i else .s, true⟩ = some c := by simpa [entC] using e
        cases e
        refine ⟨⟨d, if bb = true then .full else .shr, true, if bb = true then some i else none⟩, by simp [entryM.go], rfl, fun _ => ?_, fun _ => id⟩
        cases bb with
        | true => exact ⟨rfl, rfl⟩
        | false => rfl
      | succ k =>
        have e : (entC (i + 1) ms ds ++ List.replicate n none)[k]? = some (some c) := by simpa [entC] using e
        obtain ⟨s, e1, k1⟩ := q.at_ k c e
        exact ⟨s, by simpa [entryM.go] using e1, k1⟩

def ΨM {R : Type} (P : R → Ev.Env → Prop) (r : R) : Out → Prop
  | .rt ρ d _ _ => d = .non ∧ P r ρ
  | .nx ρ => P r ρ
  | _ => False
theorem ret_M {P : R → Ev.Env → Prop} {lr : Lv} {ra : Bool} : RetOk (ΨM P) (fun r => r) (fun _ => D.non) lr ra P := fun ρ r l a _ _ h => ⟨rfl, h⟩
theorem js_endM {P : R → Ev.Env → Prop} {x : R} (hP : ∀ ρ, Rel ρ cs → P x ρ) : JS cs sNil (some x) (ΨM P) := fun ρ r t ht => by
  cases ht
  exact ⟨_, rfl, hP ρ r⟩

def Bk (ms : List Bool) (bk : R → List (Option D)) (r : R) (ρ : Ev.Env) : Prop := backs 0 ms ρ = bk r
theorem bk_ok {ms : List Bool} {bk : R → List (Option D)} {x : R} (h : backsC 0 ms cs = some (bk x)) : ∀ ρ, Rel ρ cs → Bk ms bk x ρ := fun ρ r => backs_ok r h
theorem bk_ret {ms : List Bool} {bk : R → List (Option D)} {x : R} (h : backsC 0 ms cs = some (bk x)) : ∀ ρ, Rel ρ cs → Bk ms bk x ρ ∧ (false = true → Bk ms bk x (wipeA ρ)) := fun ρ r => ⟨backs_ok r h, fun h => nomatch h⟩
theorem bk_retV {ms : List Bool} {bk : R → List (Option D)} {x : R} {i : Nat} (h : backsC 0 ms cs = some (bk x)) (h2 : backsC 0 ms (hideC cs i) = some (bk x)) : ∀ ρ, Rel ρ cs → Bk ms bk x ρ ∧ Bk ms bk x (ρ.set i none) := fun ρ r => ⟨backs_ok r h, backs_ok (r.hide i) h2⟩
theorem fn_okM {body : EvS} {n : Nat} {ms bs : List Bool} {ds : List D} {o : Option R} {er : R → D} {lr : Lv} {ra : Bool} {bk : R → List (Option D)} {x : R} (h : JS (entC 0 ms ds ++ List.replicate (n - ds.length) none) body o (ΨR er lr ra (Bk bs bk))) (hx : o = some x) : RetME (Ev.runM body n ms bs) ds (bk x) (er x) lr ra := by
  obtain ⟨out, e1, q⟩ := h (entryM n ms ds) (go_rel 0 ms ds _) x hx
  cases out with
  | rt ρ d l a' =>
    refine ⟨l, a', ?_, q.2.1, q.2.2.1⟩
    unfold Ev.runM
    rw [e1, ← q.1, ← show backs 0 bs ρ = bk x from q.2.2.2]
    rfl
  | _ => exact q.elim
theorem fn_okMN {body : EvS} {n : Nat} {ms bs : List Bool} {ds : List D} {o : Option R} {bk : R → List (Option D)} {x : R} (h : JS (entC 0 ms ds ++ List.replicate (n - ds.length) none) body o (ΨM (Bk bs bk))) (hx : o = some x) : RetME (Ev.runM body n ms bs) ds (bk x) .non .shr true := by
  obtain ⟨out, e1, q⟩ := h (entryM n ms ds) (go_rel 0 ms ds _) x hx
  cases out with
  | rt ρ d l a' =>
    refine ⟨l, a', ?_, leL_shr l, fun _ => rfl⟩
    unfold Ev.runM
    rw [e1, ← show d = .non from q.1, ← show backs 0 bs ρ = bk x from q.2]
    rfl
  | nx ρ =>
    refine ⟨.full, false, ?_, rfl, fun _ => rfl⟩
    unfold Ev.runM
    rw [e1, ← show backs 0 bs ρ = bk x from q]
    rfl
  | _ => exact q.elim
end
end Tg

set_option Elab.async false
set_option linter.all false
set_option maxRecDepth 100000

namespace Tg
open PySem PySem.Spec L2 Ev
open PyProof.Rows hiding St
section
variable {cs : CS} {f g : EvE} {b : EvS} {l l2 : Lv} {a a2 : Bool} {α T : Type} {e : α → D} {Ψ : T → Out → Prop} {i : Nat} {fz : List Nat}
def insO (xs : List α) (k : Int) (x : α) : Option (List α) := if xs.length ≤ 1000000 ∧ 0 ≤ k ∧ k < 1000000 then some (xs.take k.toNat ++ [x] ++ xs.drop k.toNat) else none
theorem js_ins {xs : List α} {x : α} {j : Int} {m : Md} {k : List α → Option T} (hn : nth (fzsC fz cs) i = some ⟨dL e xs, m, a⟩) (hj : JI (fzsC fz cs) g (.int j)) (he : JE (fzsC fz cs) f (e x) l a2 false) (hm : ownM m = true) (h : ∀ ys, JS (put (fzsC fz cs) i ⟨dL e ys, keepM m l, a || a2⟩) b (k ys) Ψ) : JS cs (sSeq (sLop oIns fz i (aCons g (aCons f aNil))) b) (bindO (insO xs j x) k) Ψ := fun ρ r t ht => by
  have r1 := r.fzs fz
  obtain ⟨s, e1, k1⟩ := r1.nth hn
  obtain ⟨w, e0, k0⟩ := hj _ r1
  obtain ⟨y, e2, k2⟩ := he _ r1
  obtain ⟨zs, e3, e4⟩ := bindO_some ht
  unfold insO at e3
  split at e3
  · rename_i hc
    cases e3
    have hv : y.vw = false := by
      cases q : y.vw with
      | false => rfl
      | true => exact nomatch k2.vw q
    have hvw : w.vw = false := by
      cases q : w.vw with
      | false => rfl
      | true => exact nomatch k0.vw q
    have haw : w.al = false := by
      cases q : w.al with
      | false => rfl
      | true => exact nomatch k0.al q
    have hlw : w.l = .full := leL_full k0.l
    have hml := k1.m rfl
    have hne := ownM_ok hm hml
    have hd : s.d = .lst (xs.map e) := k1.d
    have hs : Cl.ok ⟨dL e (xs.take j.toNat ++ [x] ++ xs.drop j.toNat), keepM m l, a || a2⟩ ⟨.lst ((xs.map e).take j.toNat ++ [y.d] ++ (xs.map e).drop j.toNat), keepLv s.l (if [w, y].all (fun r => !r.vw && decide (r.l = .full)) = true then .full else .top), s.al || [w, y].any (·.al), s.pn⟩ := by
      refine ⟨by simp [k2.d, dL, List.map_take, List.map_drop], fun _ => ?_, fun _ z => ?_⟩
      · have e5 : [w, y].all (fun r => !r.vw && decide (r.l = .full)) = decide (y.l = .full) := by simp [hv, hvw, hlw]
        rw [e5]
        refine keepM_ok (l2 := if decide (y.l = .full) = true then .full else .top) hml ?_ rfl rfl
        cases l with
        | full => rw [leL_full k2.l]; rfl
        | top => split <;> rfl
        | shr => exact leL_shr _
      · rcases Bool.or_eq_true _ _ ▸ z with z | z
        · have := k1.al rfl z
          simp only at this
          rw [this]; rfl
        · have z : (w.al || (y.al || false)) = true := z
          rw [haw, Bool.false_or, Bool.or_false] at z
          rw [k2.al z, Bool.or_true]
    obtain ⟨out, e6, q⟩ := h _ _ (r1.put hs) t e4
    refine ⟨out, ?_, q⟩
    unfold sSeq sLop
    rw [e1]
    simp only [hd, List.length_map]
    rw [if_neg (by simp only [Bool.or_eq_true, decide_eq_true_eq, not_or, Nat.not_lt]; exact ⟨hne, hc.1⟩)]
    unfold aCons aNil
    simp only [e0, e2, Option.bind_some]
    rw [if_pos (by simp [hv, hvw])]
    have e7 : oIns intOf (xs.map e) [w.d, y.d] = some ((xs.map e).take j.toNat ++ [y.d] ++ (xs.map e).drop j.toNat) := by
      unfold oIns
      simp only [k0.d, intOf, Option.bind_some]
      rw [if_pos hc.2]
    simp only [List.map_cons, List.map_nil, e7, Option.map_some]
    exact e6
  · cases e3

def sortKO (m : List (Int × α)) : Option (List Int) := if m.length < 64 then some (sortI (m.map (·.1))) else none
theorem b_sortedK {m : List (Int × α)} {ks : List Int} (h : sortKO m = some ks) : bSorted [dKI e m] = some (dL dI ks, .top) := by
  unfold sortKO at h
  split at h
  · rename_i hl
    cases h
    have hk : ∀ m : List (Int × α), keysI (m.map fun p => (Sum.inl p.1, e p.2)) = some (m.map (·.1)) := fun m => by
      induction m with
      | nil => rfl
      | cons p m ih =>
        show (keysI (m.map fun p => (Sum.inl p.1, e p.2))).map (p.1 :: ·) = _
        rw [ih]
        rfl
    have : bSortedD [dKI e m] = some (dL dI (sortI (m.map (·.1))), .top) := by
      show (keysI (m.map fun p => (Sum.inl p.1, e p.2))).bind _ = _
      rw [hk, Option.bind_some, if_pos (by rw [List.length_map]; exact hl)]
    show (bSortedD _).or _ = _
    rw [this]
    rfl
  · cases h
end
end Tg

set_option Elab.async false
set_option linter.all false
set_option maxRecDepth 100000

namespace Tg
open PySem PySem.Spec L2 Ev
open PyProof.Rows hiding St
section
variable {cs : CS} {f g : EvE} {b : EvS} {l l2 : Lv} {a a2 v : Bool} {α T : Type} {e : α → D} {Ψ : T → Out → Prop} {i j : Nat}
def appAllO (xss : List (List α)) (y : α) : Option (List (List α)) := if xss.all (fun xs => decide (xs.length ≤ 1000000)) = true then some (xss.map (· ++ [y])) else none
theorem js_forApp {xss : List (List α)} {y : α} {m : Md} {k : List (List α) → Option T} (hn : nth cs j = some ⟨dL (dL e) xss, m, a⟩) (hm : fullM m = true) (hij : decide (j ≠ i) = true) (hi : decide (i < cs.length) = true) (he : JE (hideC (hideC cs i) j) f (e y) l a2 v) (him : imm (e y) = true) (h : ∀ yss, JS (put (hideC cs i) j ⟨dL (dL e) yss, m, a⟩) b (k yss) Ψ) : JS cs (sSeq (sForApp j i f) b) (bindO (appAllO xss y) k) Ψ := fun ρ r t ht => by
  obtain ⟨s, e1, k1⟩ := r.nth hn
  obtain ⟨x, e2, k2⟩ := he _ ((r.hide i).hide j)
  obtain ⟨zs, e3, e4⟩ := bindO_some ht
  unfold appAllO at e3
  split at e3
  · rename_i hc
    cases e3
    have hml := k1.m rfl
    have hd : s.d = .lst (xss.map (dL e)) := k1.d
    have hall : (xss.map (dL e)).all isLst = true := by
      rw [List.all_map]
      refine List.all_eq_true.mpr fun xs hx => ?_
      have := List.all_eq_true.mp hc xs hx
      show decide ((xs.map e).length ≤ 1000000) = true
      rw [List.length_map]
      exact this
    have hmap : (xss.map (dL e)).map (appD (e y)) = (xss.map (· ++ [y])).map (dL e) := by
      rw [List.map_map, List.map_map]
      refine List.map_congr_left fun xs _ => ?_
      show D.lst (xs.map e ++ [e y]) = D.lst ((xs ++ [y]).map e)
      rw [List.map_append]
      rfl
    obtain ⟨out, e6, q⟩ := h _ _ ((r.hide i).put (i := j) (s := ⟨.lst ((xss.map (dL e)).map (appD (e y))), .full, s.al, s.pn⟩) (c := ⟨dL (dL e) (xss.map (· ++ [y])), m, a⟩) ⟨by show D.lst _ = D.lst _; rw [hmap], fun _ => by
      cases m <;> first | exact absurd hm (by decide) | rfl | exact ⟨rfl, hml.2⟩, fun _ z => k1.al rfl z⟩) t e4
    refine ⟨out, ?_, q⟩
    unfold sSeq sForApp
    rw [e1]
    simp only [hd]
    rw [if_pos ⟨fullM_ok hm hml, of_decide_eq_true hij, by rw [r.len]; exact of_decide_eq_true hi, hall⟩, e2]
    simp only [Option.bind_some, k2.d, him, if_true]
    exact e6
  · cases e3
end
end Tg

set_option Elab.async false
set_option linter.all false
set_option maxRecDepth 100000

namespace Tg
open PySem PySem.Spec L2 Ev
open PyProof.Rows hiding St
def lendC : CS → Nat → CS
  | [], _ => []
  | x :: cs, 0 => x.map (fun c => ⟨c.d, .s, true⟩) :: cs
  | x :: cs, i + 1 => x :: lendC cs i
theorem lendC_get : ∀ (cs : CS) (i j : Nat) (c : Cl), (lendC cs i)[j]? = some (some c) → (j ≠ i ∧ cs[j]? = some (some c)) ∨ (j = i ∧ ∃ c0, cs[j]? = some (some c0) ∧ c = ⟨c0.d, .s, true⟩)
  | [], _, _, _, h => by simp [lendC] at h
  | x :: cs, 0, 0, c, h => by
    cases x with
    | none => simp [lendC] at h
    | some c0 => simp [lendC] at h; exact .inr ⟨rfl, c0, rfl, h.symm⟩
  | x :: cs, 0, j + 1, c, h => .inl ⟨by omega, by simpa [lendC] using h⟩
  | x :: cs, i + 1, 0, c, h => .inl ⟨by omega, by simpa [lendC] using h⟩
  | x :: cs, i + 1, j + 1, c, h => by
    rcases lendC_get cs i j c (by simpa [lendC] using h) with ⟨h1, h2⟩ | ⟨h1, c0, h2, h3⟩
    · exact .inl ⟨by omega, by simpa using h2⟩
    · exact .inr ⟨by omega, c0, by simpa using h2, h3⟩
theorem lendC_len : ∀ (cs : CS) (i : Nat), (lendC cs i).length = cs.length
  | [], _ => rfl
  | x :: cs, 0 => rfl
  | x :: cs, i + 1 => by show (lendC cs i).length + 1 = _; rw [lendC_len cs i]; rfl
theorem lend_get (ρ : Ev.Env) (i j : Nat) : (Ev.lend i ρ)[j]? = if j = i then (ρ[j]?).map (fun x => x.map fun s => ⟨s.d, .shr, true, none⟩) else ρ[j]? := by
  unfold Ev.lend
  by_cases h : j = i
  · subst h
    rw [if_pos rfl]
    cases e : ρ[j]? with
    | none => simp [e]
    | some x =>
      cases x with
      | none => simp [e]
      | some s =>
        have := (List.getElem?_eq_some_iff.mp e).1
        simp [this]
  · rw [if_neg h]
    split
    · rw [List.getElem?_set_ne (fun z => h z.symm)]
    · rfl
theorem lend_len (ρ : Ev.Env) (i : Nat) : (Ev.lend i ρ).length = ρ.length := by
  unfold Ev.lend
  split <;> simp
theorem Rel.lend {ρ : Ev.Env} {cs : CS} (r : Rel ρ cs) (i : Nat) : Rel (Ev.lend i ρ) (lendC cs i) where
  len := by rw [lend_len, lendC_len, r.len]
  at_ := fun j c e => by
    rw [lend_get]
    rcases lendC_get cs i j c e with ⟨h1, h2⟩ | ⟨h1, c0, h2, rfl⟩
    · rw [if_neg h1]
      exact r.at_ j c h2
    · rw [if_pos h1]
      obtain ⟨s, e1, k⟩ := r.at_ j c0 h2
      rw [e1]
      exact ⟨_, rfl, k.d, fun _ => rfl, fun _ => id⟩
theorem je_bor {cs : CS} {f : EvE} {d : D} {l : Lv} (i : Nat) (h : JE (lendC cs i) f d l false false) : JE cs (eBor i f) d l false false := fun ρ r => by
  obtain ⟨x, e1, k1⟩ := h _ (r.lend i)
  unfold eBor
  rw [e1]
  simp only [Option.bind_some]
  have h1 : x.al = false := by
    cases q : x.al with
    | false => rfl
    | true => exact nomatch k1.al q
  have h2 : x.vw = false := by
    cases q : x.vw with
    | false => rfl
    | true => exact nomatch k1.vw q
  by_cases hi : imm x.d = true
  · rw [if_pos hi]
    exact ⟨_, rfl, k1.d, (by cases l <;> rfl), (fun h => nomatch h), (fun h => nomatch h)⟩
  · rw [if_neg hi, if_pos ⟨h1, h2⟩]
    exact ⟨x, rfl, k1⟩
end Tg

set_option Elab.async false
set_option linter.all false
set_option maxRecDepth 100000

namespace Tg
open PySem PySem.Spec L2 Ev
open PyProof.Rows hiding St
section
variable {cs : CS} {b : EvS} {a : Bool} {α σ R T : Type} {e : α → D} {Ψ : T → Out → Prop}
theorem forS_go {C : σ → CS} {tg : Tg} {body : EvS} {F : α → σ → Option σ} {B : α → σ → CS} (ht : ∀ x s, tgC tg (e x) a (C s) = some (B x s)) (hb : ∀ x s, JS (B x s) body (F x s) (ΨL C)) {a' : Bool} (ha : a' = true → a = true) :
    ∀ (xs : List α) (s : σ) (ρ : Ev.Env), Rel ρ (C s) → ∀ s', forS xs s F = some s' → ∃ ρ', forL tg body (xs.map fun x => (e x, a')) ρ = some (.nx ρ') ∧ Rel ρ' (C s') := by
  intro xs
  induction xs with
  | nil => intro s ρ r s' h; cases h; exact ⟨ρ, rfl, r⟩
  | cons x xs ih =>
    intro s ρ r s' h
    unfold forS at h
    obtain ⟨s1, g1, g2⟩ := bindO_some h
    obtain ⟨ρ1, g3, r3⟩ := tgC_ok (ht x s) ha r
    obtain ⟨out, g4, q4⟩ := hb x s ρ1 r3 s1 g1
    rw [List.map_cons]
    unfold forL
    rw [g3]
    simp only [Option.bind_some, g4]
    cases out with
    | nx ρ2 => exact ih s1 ρ2 q4 s' g2
    | ct ρ2 => exact ih s1 ρ2 q4 s' g2
    | bk ρ2 => exact q4.elim
    | rt ρ2 d l a' => exact q4.elim
theorem forC_go {C : σ → CS} {tg : Tg} {body : EvS} {F : α → σ → Option (Ctl σ R)} {B : α → σ → CS} {er : R → D} {lr : Lv} {ra : Bool} {P : R → Ev.Env → Prop} (ht : ∀ x s, tgC tg (e x) a (C s) = some (B x s)) (hb : ∀ x s, JS (B x s) body (F x s) (ΨC C er lr ra P)) {a' : Bool} (ha : a' = true → a = true) :
    ∀ (xs : List α) (s : σ) (ρ : Ev.Env), Rel ρ (C s) → ∀ c', forC xs s F = some c' → ∃ out, forL tg body (xs.map fun x => (e x, a')) ρ = some out ∧ (match c', out with
      | .inl s', .nx ρ' => Rel ρ' (C s')
      | .inr r, .rt ρ d l a' => d = er r ∧ leL lr l = true ∧ (a' = true → ra = true) ∧ P r ρ
      | _, _ => False) := by
  intro xs
  induction xs with
  | nil => intro s ρ r s' h; cases h; exact ⟨.nx ρ, rfl, r⟩
  | cons x xs ih =>
    intro s ρ r s' h
    unfold forC at h
    obtain ⟨s1, g1, g2⟩ := bindO_some h
    obtain ⟨ρ1, g3, r3⟩ := tgC_ok (ht x s) ha r
    obtain ⟨out, g4, q4⟩ := hb x s ρ1 r3 s1 g1
    rw [List.map_cons]
    unfold forL
    rw [g3]
    simp only [Option.bind_some, g4]
    cases s1 with
    | nx s1 => cases out with
      | nx ρ2 => exact ih s1 ρ2 q4 s' g2
      | ct ρ2 => exact ih s1 ρ2 q4 s' g2
      | bk ρ2 => exact q4.elim
      | rt ρ2 d l a' => exact q4.elim
    | bk s1 => cases out with
      | bk ρ2 => cases g2; exact ⟨.nx ρ2, rfl, q4⟩
      | nx ρ2 => exact q4.elim
      | ct ρ2 => exact q4.elim
      | rt ρ2 d l a' => exact q4.elim
    | rt r1 => cases out with
      | rt ρ2 d l a' => cases g2; exact ⟨.rt ρ2 d l a', rfl, q4⟩
      | nx ρ2 => exact q4.elim
      | ct ρ2 => exact q4.elim
      | bk ρ2 => exact q4.elim
theorem leM_pp (k : Nat) : leM (.p k) (.p k) = true := by simp [leM]

def pinOk (cs : CS) (j : Nat) : Nat → CS → Bool
  | _, [] => true
  | i, some ⟨_, .p k, _⟩ :: es => ((i == j) || (match nth cs i with
    | some ⟨d, .p k', _⟩ => !imm d && (k == k')
    | _ => false)) && pinOk cs j (i + 1) es
  | i, _ :: es => pinOk cs j (i + 1) es
theorem pinOk_at {cs : CS} {j : Nat} : ∀ {n : Nat} {es : CS}, pinOk cs j n es = true → ∀ {i : Nat} {d : D} {k : Nat} {al : Bool}, es[i]? = some (some ⟨d, .p k, al⟩) → n + i ≠ j → ∃ d' al', nth cs (n + i) = some ⟨d', .p k, al'⟩ ∧ imm d' = false
  | _, [], _, i, _, _, _, e, _ => by simp at e
  | n, x :: es, h, 0, d, k, al, e, hj => by
    simp at e
    subst e
    simp only [pinOk, Bool.and_eq_true, Bool.or_eq_true, beq_iff_eq] at h
    rcases h.1 with h1 | h1
    · exact absurd h1 (by simpa using hj)
    · split at h1
      · rename_i d2 k2 a2 e2
        simp only [Bool.and_eq_true, Bool.not_eq_true', beq_iff_eq] at h1
        rw [h1.2]
        exact ⟨d2, a2, by simpa using e2, h1.1⟩
      · cases h1
  | n, x :: es, h, i + 1, d, k, al, e, hj => by
    have h2 : pinOk cs j (n + 1) es = true := by
      cases x with
      | none => simpa [pinOk] using h
      | some c =>
        obtain ⟨d0, m0, a0⟩ := c
        cases m0 <;> first
          | (simpa [pinOk] using h)
          | (simp only [pinOk, Bool.and_eq_true] at h; exact h.2)
    have := pinOk_at h2 (i := i) (by simpa using e) (by omega)
    rw [show n + (i + 1) = n + 1 + i by omega]
    exact this
theorem topP_lt : ∀ {ρ : Ev.Env} {i k : Nat} {s : Sv}, ρ[i]? = some (some s) → s.pn = some k → k < topP ρ
  | [], _, _, _, e, _ => by simp at e
  | x :: ρ, 0, k, s, e, h => by
    simp at e
    subst e
    unfold topP
    rw [h]
    exact Nat.lt_of_lt_of_le (Nat.lt_succ_self k) (Nat.le_max_left _ _)
  | x :: ρ, i + 1, k, s, e, h => by
    have := topP_lt (ρ := ρ) (i := i) (by simpa using e) h
    unfold topP
    cases x with
    | none => exact this
    | some s0 =>
      cases e0 : s0.pn with
      | none => simpa [e0] using this
      | some k0 => simp only [e0]; omega
theorem clr_get (k : Nat) (ρ : Ev.Env) (i : Nat) : (clr k ρ)[i]? = (ρ[i]?).map fun o => o.map fun s => if s.pn = some k then ⟨s.d, s.l, s.al, none⟩ else s := by
  unfold clr
  rw [List.getElem?_map]
theorem rel_back {ρ0 ρ : Ev.Env} {cs es : CS} {j : Nat} {c : Cl} {s0 : Sv} (r0 : Rel ρ0 cs) (r : Rel ρ es) (hp : pinOk cs j 0 es = true) (e0 : ρ0[j]? = some (some s0)) (k0 : c.ok s0) : Rel ((clr (topP ρ0) ρ).set j (some s0)) (put es j c) where
  len := by rw [put_set, List.length_set, List.length_set]; unfold clr; rw [List.length_map, r.len]
  at_ := fun i c' e => by
    rw [put_set, List.getElem?_set] at e
    rw [List.getElem?_set]
    by_cases q : j = i
    · subst q
      rw [if_pos rfl] at e ⊢
      split at e
      · rename_i hl
        cases e
        rw [if_pos (by unfold clr; rw [List.length_map, r.len]; exact hl)]
        exact ⟨s0, rfl, k0⟩
      · cases e
    · rw [if_neg q] at e ⊢
      obtain ⟨s, e1, k1⟩ := r.at_ i c' e
      rw [clr_get, e1]
      by_cases hk : s.pn = some (topP ρ0)
      · refine ⟨⟨s.d, s.l, s.al, none⟩, by simp [hk], k1.d, fun hi => ?_, k1.al⟩
        have hm := k1.m hi
        obtain ⟨d1, m1, a1⟩ := c'
        cases m1 with
        | p k =>
          obtain ⟨d', al', e2, hi2⟩ := pinOk_at hp e (by simpa using fun z => q z.symm)
          obtain ⟨s2, e3, k3⟩ := r0.nth e2
          have h3 := k3.m hi2
          have := topP_lt (by simpa using e3) h3.2
          have h4 : s.pn = some k := hm.2
          rw [h4] at hk
          have := Option.some.inj hk
          omega
        | _ => exact hm
      · exact ⟨s, by simp [hk], k1.d, k1.m, k1.al⟩
theorem js_forH {C : Nat → σ → CS} {fp : EvP} {tg : Tg} {body : EvS} {xs : List α} {s0 : σ} {F : α → σ → Option σ} {B : Nat → α → σ → CS} {k : σ → Option T} {i : Nat} {mm : Md} {dd : D} {upd : D → D} {a2 : Bool} (hp : JP cs fp i mm (dL e xs) a upd) (hn : nth cs i = some ⟨dd, mm, a2⟩) (hnd : isNd dd = true) (him : ∀ x, imm (e x) = true)
    (h0 : ∀ kp, Le (put cs i ⟨.any, .p kp, false⟩) (C kp s0)) (hs : ∀ kp s, nth (C kp s) i = some ⟨.any, .p kp, false⟩) (hq : ∀ kp s, pinOk cs i 0 (C kp s) = true)
    (ht : ∀ kp x s, tgC tg (e x) false (C kp s) = some (B kp x s)) (hb : ∀ kp x s, JS (B kp x s) body (F x s) (ΨL (C kp))) (h : ∀ kp s, JS (put (C kp s) i ⟨dd, mm, a2⟩) b (k s) Ψ) : JS cs (sSeq (sForH fp tg body) b) (bindO (forS xs s0 F) k) Ψ := fun ρ r t hh => by
  obtain ⟨s', e2, e3⟩ := bindO_some hh
  obtain ⟨p, sv, e4, e5, e6, _, _, _⟩ := hp.2 ρ r
  obtain ⟨sv', e5', k5⟩ := r.nth hn
  rw [e5] at e5'
  cases e5'
  have r1 : Rel (ρ.set i (some ⟨.any, .full, false, some (topP ρ)⟩)) (C (topP ρ) s0) := (h0 (topP ρ)).rel (r.put ⟨rfl, fun _ => ⟨rfl, rfl⟩, fun _ => id⟩)
  obtain ⟨ρ', g1, r2⟩ := forS_go (a' := false) (ht _) (hb _) (fun z => nomatch z) xs s0 _ r1 s' e2
  obtain ⟨s2, e7, k7⟩ := r2.nth (hs _ _)
  have hpn := (k7.m rfl).2
  obtain ⟨out, e8, q⟩ := h (topP ρ) s' _ (rel_back r r2 (hq _ _) e5 k5) t e3
  refine ⟨out, ?_, q⟩
  have him' : immAll (xs.map e) = true := immAll_map him xs
  have hsd : isNd sv.d = true := by rw [k5.d]; exact hnd
  unfold sSeq sForH
  rw [e4]
  simp only [Option.bind_some, e5]
  rw [if_pos ⟨him', hsd⟩, List.map_map]
  have g1' : forL tg body (xs.map ((fun d => (d, false)) ∘ e)) (ρ.set i (some ⟨.any, .full, false, some (topP ρ)⟩)) = some (.nx ρ') := g1
  rw [g1']
  simp only [Option.bind_some]
  unfold backH
  simp only [e7]
  rw [if_pos hpn]
  exact e8
theorem js_forHC {C : Nat → σ → CS} {fp : EvP} {tg : Tg} {body : EvS} {xs : List α} {s0 : σ} {F : α → σ → Option (Ctl σ R)} {B : Nat → α → σ → CS} {k : σ → Option T} {i : Nat} {mm : Md} {dd : D} {upd : D → D} {a2 : Bool} {q : R → T} {er : R → D} {lr : Lv} {ra : Bool} (hr : RetOk Ψ q er lr ra) (hp : JP cs fp i mm (dL e xs) a upd) (hn : nth cs i = some ⟨dd, mm, a2⟩) (hnd : isNd dd = true) (him : ∀ x, imm (e x) = true)
    (h0 : ∀ kp, Le (put cs i ⟨.any, .p kp, false⟩) (C kp s0)) (hs : ∀ kp s, nth (C kp s) i = some ⟨.any, .p kp, false⟩) (hq : ∀ kp s, pinOk cs i 0 (C kp s) = true)
    (ht : ∀ kp x s, tgC tg (e x) false (C kp s) = some (B kp x s)) (hb : ∀ kp x s, JS (B kp x s) body (F x s) (ΨC (C kp) er lr ra)) (h : ∀ kp s, JS (put (C kp s) i ⟨dd, mm, a2⟩) b (k s) Ψ) : JS cs (sSeq (sForH fp tg body) b) (onS (forC xs s0 F) k q) Ψ := fun ρ r t hh => by
  unfold onS at hh
  obtain ⟨c', e2, e3⟩ := bindO_some hh
  obtain ⟨p, sv, e4, e5, e6, _, _, _⟩ := hp.2 ρ r
  obtain ⟨sv', e5', k5⟩ := r.nth hn
  rw [e5] at e5'
  cases e5'
  have r1 : Rel (ρ.set i (some ⟨.any, .full, false, some (topP ρ)⟩)) (C (topP ρ) s0) := (h0 (topP ρ)).rel (r.put ⟨rfl, fun _ => ⟨rfl, rfl⟩, fun _ => id⟩)
  obtain ⟨out, g1, r2⟩ := forC_go (a' := false) (ht _) (hb _) (fun z => nomatch z) xs s0 _ r1 c' e2
  have him' : immAll (xs.map e) = true := immAll_map him xs
  have hsd : isNd sv.d = true := by rw [k5.d]; exact hnd
  have g1' : forL tg body (xs.map ((fun d => (d, false)) ∘ e)) (ρ.set i (some ⟨.any, .full, false, some (topP ρ)⟩)) = some out := g1
  have pre : ∀ o, backH i (topP ρ) sv out = some o → sForH fp tg body ρ = some o := fun o ho => by
    unfold sForH
    rw [e4]
    simp only [Option.bind_some, e5]
    rw [if_pos ⟨him', hsd⟩, List.map_map, g1']
    exact ho
  cases c' with
  | inl s' => cases out with
    | nx ρ' =>
      obtain ⟨s2, e7, k7⟩ := r2.nth (hs _ _)
      have hpn := (k7.m rfl).2
      obtain ⟨out, e8, q⟩ := h (topP ρ) s' _ (rel_back r r2 (hq _ _) e5 k5) t e3
      refine ⟨out, ?_, q⟩
      unfold sSeq
      rw [pre _ (by unfold backH; simp only [e7]; rw [if_pos hpn])]
      exact e8
    | _ => exact r2.elim
  | inr r1' => cases out with
    | rt ρ2 d l a' =>
      cases e3
      refine ⟨_, by unfold sSeq; rw [pre (.rt (clr (topP ρ) ρ2) d l a') rfl]; rfl, ?_⟩
      rw [r2.1]
      exact hr _ _ _ _ r2.2.1 r2.2.2.1 trivial
    | _ => exact r2.elim
end
end Tg

set_option Elab.async false
set_option linter.all false
set_option maxRecDepth 100000

namespace Tg
open PySem PySem.Spec L2 Ev
open PyProof.Rows hiding St
section
variable {cs : CS} {b : EvS} {a v : Bool} {α β κ T : Type} {e : α → D} {Ψ : T → Out → Prop} {fd : Ev.Env → Option D} {itD : D → Option (List D)} {vs : List Nat} {t : Tg} {c : EvT} {el : EvE} {d : D} {l : Lv} {o : Option T}
def itS (itD : D → Option (List D)) (fd : Ev.Env → Option D) : EvI := fun ρ => (fd ρ).bind fun dd => (itD dd).map fun ds => ds.map fun d => (d, false)
theorem eLcS_eq (itD : D → Option (List D)) (fd : Ev.Env → Option D) (vs : List Nat) (t : Ev.Tg) (c : EvT) (el : EvE) : eLcS itD fd vs t c el = eLc (itS itD fd) vs t c el := by
  funext ρ
  unfold eLcS eLc itS
  cases fd ρ with
  | none => rfl
  | some dd =>
    simp only [Option.bind_some]
    cases itD dd <;> rfl
theorem sForI_eq (itD : D → Option (List D)) (fd : Ev.Env → Option D) (t : Ev.Tg) (b : EvS) : sForI itD fd t b = sFor [] (itS itD fd) t b := by
  funext ρ
  unfold sForI sFor itS
  show _ = ((fd ρ).bind _).bind _
  cases fd ρ with
  | none => rfl
  | some dd =>
    simp only [Option.bind_some]
    cases itD dd <;> rfl
theorem je_S {t : Ev.Tg} (h : JE cs (eLc (itS itD fd) vs t c el) d l a v) : JE cs (eLcS itD fd vs t c el) d l a v := by
  rw [eLcS_eq]
  exact h
theorem js_S {t : Ev.Tg} {bd : EvS} (h : JS cs (sSeq (sFor [] (itS itD fd) t bd) b) o Ψ) : JS cs (sSeq (sForI itD fd t bd) b) o Ψ := by
  rw [sForI_eq]
  exact h
theorem js_SK {t : Ev.Tg} {bd : EvS} (h : JS cs (sSeq (sFor [] (itS keysD fd) t bd) b) o Ψ) : JS cs (sSeq (sForK fd t bd) b) o Ψ := js_S (itD := keysD) h
theorem jit_S {xs : List α} {dd : D} (hrd : ∀ ρ, Rel ρ cs → fd ρ = some dd) (hit : itD dd = some (xs.map e)) : JIt cs (itS itD fd) xs e false := fun ρ r => by
  refine ⟨false, id, ?_⟩
  unfold itS
  rw [hrd ρ r]
  simp only [Option.bind_some, hit, Option.map_some, List.map_map]
  rfl
theorem rd_sh {i : Nat} {d : D} {a : Bool} (h : nth cs i = some ⟨d, .s, a⟩) (hi : imm d = false := by rfl) : ∀ ρ, Rel ρ cs → rdSh i ρ = some d := fun ρ r => by
  obtain ⟨s, e1, k⟩ := r.nth h
  unfold rdSh
  rw [e1]
  simp only [show s.l = .shr from k.m hi, k.d, if_true]
theorem rd_shF {i : Nat} {C : Addr} {f : Str} {fs : List (Str × D)} {d : D} {a : Bool} (h : nth cs i = some ⟨.ins C fs, .s, a⟩) (hf : fs.lookup f = some d) : ∀ ρ, Rel ρ cs → rdShF C f i ρ = some d := fun ρ r => by
  obtain ⟨s, e1, k⟩ := r.nth h
  unfold rdShF
  rw [e1]
  simp only [show s.l = .shr from k.m rfl, if_true, show s.d = .ins C fs from k.d, hf]
theorem kd_KI (m : List (Int × α)) : keysD (dKI e m) = some ((m.map (·.1)).map dI) := by
  show some ((m.map fun p => ((.inl p.1 : Key), e p.2)).map fun p => keyD p.1) = _
  rw [List.map_map, List.map_map]
  rfl
theorem kd_KS (m : List (Str × α)) : keysD (dKS e m) = some ((m.map (·.1)).map dS) := by
  show some ((m.map fun p => ((.inr p.1 : Key), e p.2)).map fun p => keyD p.1) = _
  rw [List.map_map, List.map_map]
  rfl
theorem kd_KT (m : List ((Int × Int) × α)) : keysD (dKT e m) = some ((m.map (·.1)).map (dT2 dI dI)) := by
  show some ((m.map fun p => (([.inl p.1.1, .inl p.1.2] : List Key), e p.2)).map fun p => D.tup (p.1.map keyD)) = _
  rw [List.map_map, List.map_map]
  rfl
end
end Tg

set_option Elab.async false
set_option linter.all false
set_option maxRecDepth 100000

namespace Tg
open PySem PySem.Spec L2 Ev
open PyProof.Rows hiding St
section
variable {cs : CS} {f : EvE} {α β γ δ : Type} {e : α → D} {e2 : β → D} {e3 : γ → D} {e4 : δ → D} {l : Lv} {a v : Bool}
abbrev dH1 (e : α → D) (p : α) : D := .lst [e p]
abbrev dH2 (e : α → D) (f : β → D) (p : α × β) : D := .lst [e p.1, f p.2]
abbrev dH3 (e : α → D) (f : β → D) (g : γ → D) (p : α × β × γ) : D := .lst [e p.1, f p.2.1, g p.2.2]
abbrev dH4 (e : α → D) (f : β → D) (g : γ → D) (h : δ → D) (p : α × β × γ × δ) : D := .lst [e p.1, f p.2.1, g p.2.2.1, h p.2.2.2]
theorem ek_h2 [DecidableEq α] [DecidableEq β] {n m : Nat} (h : EqOk n e) (h2 : EqOk m e2) : EqOk (max n m + 1) (dH2 e e2) := ⟨fun x k hk => by
    obtain ⟨k, rfl⟩ : ∃ j, k = j + 1 := ⟨k - 1, by omega⟩
    simp only [Ev.shp, shps]
    rw [h.shp _ k (by omega), h2.shp _ k (by omega)]
    rfl, fun x y => by
    have q1 := h.eq x.1 y.1
    have q2 := h2.eq x.2 y.2
    unfold deq at q1 q2 ⊢
    simp only [pd, pds, PyData.eqv, PyData.eqvAll, q1, q2]
    obtain ⟨x1, x2⟩ := x
    obtain ⟨y1, y2⟩ := y
    by_cases z1 : x1 = y1 <;> by_cases z2 : x2 = y2 <;> simp [z1, z2]⟩
theorem ek_h3 [DecidableEq α] [DecidableEq β] [DecidableEq γ] {n m k : Nat} (h : EqOk n e) (h2 : EqOk m e2) (h3 : EqOk k e3) : EqOk (max n (max m k) + 1) (dH3 e e2 e3) := ⟨fun x j hj => by
    obtain ⟨j, rfl⟩ : ∃ i, j = i + 1 := ⟨j - 1, by omega⟩
    simp only [Ev.shp, shps]
    rw [h.shp _ j (by omega), h2.shp _ j (by omega), h3.shp _ j (by omega)]
    rfl, fun x y => by
    have q1 := h.eq x.1 y.1
    have q2 := h2.eq x.2.1 y.2.1
    have q3 := h3.eq x.2.2 y.2.2
    unfold deq at q1 q2 q3 ⊢
    simp only [pd, pds, PyData.eqv, PyData.eqvAll, q1, q2, q3]
    obtain ⟨x1, x2, x3⟩ := x
    obtain ⟨y1, y2, y3⟩ := y
    by_cases z1 : x1 = y1 <;> by_cases z2 : x2 = y2 <;> by_cases z3 : x3 = y3 <;> simp [z1, z2, z3]⟩
theorem ek_t4 [DecidableEq α] [DecidableEq β] [DecidableEq γ] [DecidableEq δ] {n m k j : Nat} (h : EqOk n e) (h2 : EqOk m e2) (h3 : EqOk k e3) (h4 : EqOk j e4) : EqOk (max n (max m (max k j)) + 1) (dT4 e e2 e3 e4) := ⟨fun x u hu => by
    obtain ⟨u, rfl⟩ : ∃ i, u = i + 1 := ⟨u - 1, by omega⟩
    simp only [Ev.shp, shps]
    rw [h.shp _ u (by omega), h2.shp _ u (by omega), h3.shp _ u (by omega), h4.shp _ u (by omega)]
    rfl, fun x y => by
    have q1 := h.eq x.1 y.1
    have q2 := h2.eq x.2.1 y.2.1
    have q3 := h3.eq x.2.2.1 y.2.2.1
    have q4 := h4.eq x.2.2.2 y.2.2.2
    unfold deq at q1 q2 q3 q4 ⊢
    simp only [pd, pds, PyData.eqv, PyData.eqvAll, q1, q2, q3, q4]
    obtain ⟨x1, x2, x3, x4⟩ := x
    obtain ⟨y1, y2, y3, y4⟩ := y
    by_cases z1 : x1 = y1 <;> by_cases z2 : x2 = y2 <;> by_cases z3 : x3 = y3 <;> by_cases z4 : x4 = y4 <;> simp [z1, z2, z3, z4]⟩

def dU (e : α → D) (f : β → D) : α ⊕ β → D
  | .inl x => e x
  | .inr y => f y
def getL : α ⊕ β → Option α
  | .inl x => some x
  | _ => none
def getR : α ⊕ β → Option β
  | .inr x => some x
  | _ => none
theorem jn_getL {x : α ⊕ β} {y : α} (h : JE cs f (dU e e2 x) l a v) (hx : getL x = some y) : JE cs f (e y) l a v := by
  cases x with
  | inl x => cases hx; exact h
  | inr x => cases hx
theorem jn_getR {x : α ⊕ β} {y : β} (h : JE cs f (dU e e2 x) l a v) (hx : getR x = some y) : JE cs f (e2 y) l a v := by
  cases x with
  | inl x => cases hx
  | inr x => cases hx; exact h
theorem jn_inl {x : α} (e2 : β → D) (h : JE cs f (e x) l a v) : JE cs f (dU e e2 (.inl x)) l a v := h
theorem jn_inr {x : β} (e : α → D) (h : JE cs f (e2 x) l a v) : JE cs f (dU e e2 (.inr x)) l a v := h
end
end Tg

set_option Elab.async false
set_option linter.all false
set_option maxRecDepth 100000

namespace Tg
open PySem PySem.Spec L2 Ev
open PyProof.Rows hiding St
section
variable {cs : CS} {f g : EvE} {b : EvS} {l l1 l2 : Lv} {a a1 a2 v v1 v2 : Bool} {α T : Type} {e : α → D} {Ψ : T → Out → Prop} {i j : Nat}
def setdO (m : List ((Int × Int) × α)) (k : Int × Int) (y : α) : Option (List ((Int × Int) × α)) := if m.length < 1000000 then some (if ahas m k = true then m else aput m k y) else none
def popTO (m : List ((Int × Int) × α)) (k : Int × Int) : Option (List ((Int × Int) × α)) := if ahas m k = true then some (m.filter fun p => decide (p.1 ≠ k)) else none
def popIO (xs : List α) (k : Int) : Option (List α) := if xs.length ≤ 1000000 then (L2.ixN xs.length k).map xs.eraseIdx else none
def putIO (xs : List α) (k : Int) (x : α) : Option (List α) := (L2.ixN xs.length k).map fun j => xs.set j x
def sdaO (m : List (Int × List α)) (k : Int) (x : α) : Option (List (Int × List α)) := if m.length < 1000000 then (match m.findIdx? (fun p => decide (p.1 = k)) with
  | some n => (m[n]?).bind fun q => if q.2.length ≤ 1000000 then some (m.set n (q.1, q.2 ++ [x])) else none
  | none => some (m ++ [(k, [x])])) else none
theorem set_self {ρ : Ev.Env} {s : Option Sv} (h : ρ[i]? = some s) : ρ.set i s = ρ := by
  apply List.ext_getElem?
  intro n
  rw [List.getElem?_set]
  split
  · rename_i hn
    subst hn
    split
    · exact h.symm
    · rename_i hl
      rw [List.getElem?_eq_none (by omega)] at h
      cases h
  · rfl
theorem ok_same {d d' : D} {m : Md} {s : Sv} (k1 : Cl.ok ⟨d, m, a⟩ s) (hi : imm d = false) (hm : fullM m = true) : Cl.ok ⟨d', m, a⟩ ⟨d', .full, s.al || false, s.pn⟩ :=
  ⟨rfl, fun _ => ok_keep hm (k1.m hi) rfl rfl, fun _ z => k1.al hi (by simpa using z)⟩
theorem js_setdT {m : List ((Int × Int) × α)} {k : Int × Int} {y : α} {mm : Md} {kk : List ((Int × Int) × α) → Option T} (hn : nth cs i = some ⟨dKT e m, mm, a⟩) (hm : fullM mm = true) (hk : JE cs f (dT2 dI dI k) l1 a1 v1) (hv : JE cs g (e y) l2 a2 v2) (hi : imm (e y) = true)
    (h : ∀ m', JS (put cs i ⟨dKT e m', mm, a⟩) b (kk m') Ψ) : JS cs (sSeq (sSetdT i f g) b) (bindO (setdO m k y) kk) Ψ := fun ρ r t ht => by
  obtain ⟨s, e1, k1⟩ := r.nth hn
  have hfull := fullM_ok hm (k1.m rfl)
  have hd : s.d = .dt (m.map fun p => ([.inl p.1.1, .inl p.1.2], e p.2)) := k1.d
  obtain ⟨yk, e2, k2⟩ := hk _ r
  obtain ⟨yv, e3, k3⟩ := hv _ r
  obtain ⟨m', e4, e5⟩ := bindO_some ht
  unfold setdO at e4
  split at e4
  · rename_i hl
    cases e4
    have hlen : (m.map fun p => (([.inl p.1.1, .inl p.1.2] : List Key), e p.2)).length < 1000000 := by rw [List.length_map]; exact hl
    have hks : keysOf [D.int k.1, D.int k.2] = some [.inl k.1, .inl k.2] := rfl
    by_cases hh : ahas m k = true
    · rw [if_pos hh] at e5
      have r' : Rel ρ (put cs i ⟨dKT e m, mm, a⟩) := by
        have := r.put (i := i) k1
        rwa [set_self e1] at this
      obtain ⟨out, e6, q⟩ := h _ _ r' t e5
      refine ⟨out, ?_, q⟩
      unfold sSeq sSetdT
      rw [e1]
      simp only [hd, e2, e3, Option.bind_some, k2.d, hks]
      rw [if_pos ⟨hfull, hlen, by rw [k3.d]; exact hi⟩, dhas_KT, if_pos hh]
      exact e6
    · rw [if_neg hh] at e5
      obtain ⟨out, e6, q⟩ := h _ _ (r.put (i := i) (ok_same (d' := dKT e (aput m k y)) k1 rfl hm)) t e5
      refine ⟨out, ?_, q⟩
      unfold sSeq sSetdT
      rw [e1]
      simp only [hd, e2, e3, Option.bind_some, k2.d, hks]
      rw [if_pos ⟨hfull, hlen, by rw [k3.d]; exact hi⟩, dhas_KT, if_neg hh, k3.d, dput_KT]
      exact e6
  · cases e4
theorem ddrop_KT (m : List ((Int × Int) × α)) (k : Int × Int) : ddrop (m.map fun p => (([.inl p.1.1, .inl p.1.2] : List Key), e p.2)) [.inl k.1, .inl k.2] = (m.filter fun p => decide (p.1 ≠ k)).map fun p => ([.inl p.1.1, .inl p.1.2], e p.2) := by
  unfold ddrop
  rw [List.filter_map]
  congr 1
  refine List.filter_congr fun p _ => ?_
  obtain ⟨⟨x, y⟩, z⟩ := p
  obtain ⟨k1, k2⟩ := k
  simp [Function.comp]
theorem js_popT {m : List ((Int × Int) × α)} {k : Int × Int} {mm : Md} {kk : List ((Int × Int) × α) → Option T} (hn : nth cs i = some ⟨dKT e m, mm, a⟩) (hm : fullM mm = true) (hk : JE cs f (dT2 dI dI k) l1 a1 v1)
    (h : ∀ m', JS (put cs i ⟨dKT e m', mm, a⟩) b (kk m') Ψ) : JS cs (sSeq (sPopT i f) b) (bindO (popTO m k) kk) Ψ := fun ρ r t ht => by
  obtain ⟨s, e1, k1⟩ := r.nth hn
  have hfull := fullM_ok hm (k1.m rfl)
  have hd : s.d = .dt (m.map fun p => ([.inl p.1.1, .inl p.1.2], e p.2)) := k1.d
  obtain ⟨yk, e2, k2⟩ := hk _ r
  obtain ⟨m', e4, e5⟩ := bindO_some ht
  unfold popTO at e4
  split at e4
  · rename_i hh
    cases e4
    have hks : keysOf [D.int k.1, D.int k.2] = some [.inl k.1, .inl k.2] := rfl
    obtain ⟨out, e6, q⟩ := h _ _ (r.put (i := i) (ok_same (d' := dKT e (m.filter fun p => decide (p.1 ≠ k))) k1 rfl hm)) t e5
    refine ⟨out, ?_, q⟩
    unfold sSeq sPopT
    rw [e1]
    simp only [hd, e2, Option.bind_some, k2.d, hks]
    rw [if_pos ⟨hfull, by rw [dhas_KT]; exact hh⟩, ddrop_KT]
    exact e6
  · cases e4
theorem map_eraseIdxE (e : α → D) : ∀ (xs : List α) (j : Nat), (xs.map e).eraseIdx j = (xs.eraseIdx j).map e
  | [], _ => rfl
  | _ :: _, 0 => rfl
  | x :: xs, j + 1 => by
    show e x :: (xs.map e).eraseIdx j = e x :: (xs.eraseIdx j).map e
    rw [map_eraseIdxE e xs j]
theorem js_popI {xs : List α} {k : Int} {mm : Md} {kk : List α → Option T} (hn : nth cs i = some ⟨dL e xs, mm, a⟩) (hm : fullM mm = true) (hk : JE cs f (.int k) l1 a1 v1)
    (h : ∀ ys, JS (put cs i ⟨dL e ys, mm, a⟩) b (kk ys) Ψ) : JS cs (sSeq (sPopI i f) b) (bindO (popIO xs k) kk) Ψ := fun ρ r t ht => by
  obtain ⟨s, e1, k1⟩ := r.nth hn
  have hfull := fullM_ok hm (k1.m rfl)
  have hd : s.d = .lst (xs.map e) := k1.d
  obtain ⟨yk, e2, k2⟩ := hk _ r
  obtain ⟨m', e4, e5⟩ := bindO_some ht
  unfold popIO at e4
  split at e4
  · rename_i hl
    obtain ⟨j, e7, e8⟩ := Option.map_eq_some_iff.mp e4
    subst e8
    obtain ⟨out, e6, q⟩ := h _ _ (r.put (i := i) (ok_same (d' := dL e (xs.eraseIdx j)) k1 rfl hm)) t e5
    refine ⟨out, ?_, q⟩
    unfold sSeq sPopI
    rw [e1]
    have hix : L2.ixN (xs.map e).length k = some j := by rw [List.length_map]; exact e7
    simp only [hd, e2, Option.bind_some, k2.d, hix]
    have her : (xs.map e).eraseIdx j = (xs.eraseIdx j).map e := map_eraseIdxE e xs j
    rw [if_pos ⟨by rw [hfull]; decide, by rw [List.length_map]; exact hl⟩, her, hfull]
    exact e6
  · cases e4
theorem js_putI {xs : List α} {x : α} {k : Int} {mm : Md} {kk : List α → Option T} (hn : nth cs i = some ⟨dL e xs, mm, a⟩) (hm : ownM mm = true) (hk : JE cs f (.int k) l1 a1 v1) (hv : JE cs g (e x) l a2 false)
    (h : ∀ ys, JS (put cs i ⟨dL e ys, keepM mm l, a || a2⟩) b (kk ys) Ψ) : JS cs (sSeq (sPutI i f g) b) (bindO (putIO xs k x) kk) Ψ := fun ρ r t ht => by
  obtain ⟨s, e1, k1⟩ := r.nth hn
  have hml := k1.m rfl
  have hne := ownM_ok hm hml
  have hd : s.d = .lst (xs.map e) := k1.d
  obtain ⟨yk, e2, k2⟩ := hk _ r
  obtain ⟨y, e3, k3⟩ := hv _ r
  obtain ⟨m', e4, e5⟩ := bindO_some ht
  obtain ⟨j, e7, e8⟩ := Option.map_eq_some_iff.mp e4
  subst e8
  have hvw : y.vw = false := by
    cases q : y.vw with
    | false => rfl
    | true => exact nomatch k3.vw q
  have hs : Cl.ok ⟨dL e (xs.set j x), keepM mm l, a || a2⟩ ⟨.lst ((xs.map e).set j y.d), keepLv s.l (if y.l = .full then .full else .top), s.al || y.al, s.pn⟩ := by
    refine ⟨by simp [k3.d, List.map_set], fun _ => ?_, fun _ z => ?_⟩
    · refine keepM_ok (l2 := if y.l = .full then .full else .top) hml ?_ rfl rfl
      cases l with
      | full => rw [leL_full k3.l]; rfl
      | top => split <;> rfl
      | shr => exact leL_shr _
    · rcases Bool.or_eq_true _ _ ▸ z with z | z
      · have := k1.al rfl z
        simp only at this
        rw [this]; rfl
      · have : a2 = true := k3.al z
        rw [this]
        cases a <;> rfl
  obtain ⟨out, e6, q⟩ := h _ _ (r.put (i := i) hs) t e5
  refine ⟨out, ?_, q⟩
  unfold sSeq sPutI
  have hix : L2.ixN (xs.map e).length k = some j := by rw [List.length_map]; exact e7
  rw [e3]
  simp only [Option.bind_some, e1, hd, e2, k2.d, hix]
  rw [if_pos ⟨hne, hvw⟩]
  exact e6
theorem sda_KI {m m' : List (Int × List α)} {k : Int} {x : α} (h : sdaO m k x = some m') : sda (m.map fun p => ((.inl p.1 : Key), dL e p.2)) (.inl k) (e x) = some (m'.map fun p => (.inl p.1, dL e p.2)) := by
  unfold sdaO at h
  split at h
  · have hf : (m.map fun p => ((.inl p.1 : Key), dL e p.2)).findIdx? (fun q => decide (q.1 = .inl k)) = m.findIdx? (fun p => decide (p.1 = k)) := by
      rw [List.findIdx?_map]
      congr 1
      funext p
      by_cases hp : p.1 = k <;> simp [Function.comp, hp]
    unfold sda
    rw [hf]
    split at h
    · rename_i n en
      obtain ⟨q, eq, h⟩ := bind_some h
      split at h
      · rename_i hl
        cases h
        try rw [en]
        have hq : ((m.map fun p => ((.inl p.1 : Key), dL e p.2)).map fun q => q.2)[n]? = some (D.lst (q.2.map e)) := by
          rw [List.map_map, List.getElem?_map, eq]
          rfl
        simp only [hq]
        rw [if_pos (by rw [List.length_map]; exact hl)]
        congr 1
        have : ∀ (m : List (Int × List α)) (n : Nat), m[n]? = some q → setSnd (m.map fun p => ((.inl p.1 : Key), dL e p.2)) n (D.lst (q.2.map e ++ [e x])) = (m.set n (q.1, q.2 ++ [x])).map fun p => (.inl p.1, dL e p.2) := by
          intro m
          induction m with
          | nil => intro n h; simp at h
          | cons p m ih =>
            intro n h
            cases n with
            | zero =>
              cases h
              simp [setSnd]
            | succ n =>
              have := ih n (by simpa using h)
              simp only [List.map_cons, setSnd, List.set_cons_succ]
              rw [this]
        exact this m n eq
      · cases h
    · rename_i en
      cases h
      try rw [en]
      simp
  · cases h
theorem js_sda {m : List (Int × List α)} {k : Int} {x : α} {mm : Md} {mj : Md} {aj : Bool} {kk : List (Int × List α) → Option T} (hn : nth cs i = some ⟨dKI (dL e) m, mm, a⟩) (hm : fullM mm = true) (hk : JE cs f (.int k) l1 a1 v1) (hj : nth cs j = some ⟨e x, mj, aj⟩) (hi : imm (e x) = true)
    (h : ∀ m', JS (put cs i ⟨dKI (dL e) m', mm, a⟩) b (kk m') Ψ) : JS cs (sSeq (sSDA i f j) b) (bindO (sdaO m k x) kk) Ψ := fun ρ r t ht => by
  obtain ⟨s, e1, k1⟩ := r.nth hn
  obtain ⟨sj, ej, kj⟩ := r.nth hj
  have hfull := fullM_ok hm (k1.m rfl)
  have hd : s.d = .dk (m.map fun p => (.inl p.1, dL e p.2)) := k1.d
  have hdj : sj.d = e x := kj.d
  obtain ⟨yk, e2, k2⟩ := hk _ r
  obtain ⟨m', e4, e5⟩ := bindO_some ht
  have hsd := sda_KI (e := e) e4
  have hl : m.length < 1000000 := by
    unfold sdaO at e4
    split at e4
    · assumption
    · cases e4
  obtain ⟨out, e6, q⟩ := h _ _ (r.put (i := i) (ok_same (d' := dKI (dL e) m') k1 rfl hm)) t e5
  refine ⟨out, ?_, q⟩
  unfold sSeq sSDA
  rw [e1]
  have hko : keyOf (D.int k) = some (.inl k) := rfl
  simp only [hd, e2, Option.bind_some, k2.d, hko, ej]
  rw [if_pos ⟨hfull, by rw [hdj]; exact hi, by rw [List.length_map]; exact hl⟩, hdj, hsd]
  exact e6
end
end Tg

set_option Elab.async false
set_option linter.all false
set_option maxRecDepth 100000

namespace Tg
open PySem PySem.Spec L2 Ev
open PyProof.Rows hiding St
section
variable {cs : CS} {f g : EvE} {b : EvS} {l l1 l2 : Lv} {a a1 a2 v v1 v2 : Bool} {α T : Type} {e : α → D} {Ψ : T → Out → Prop} {i j : Nat}

abbrev SS : Type := { x : Str // PyData.strOk x = true }
abbrev mkS (x : Str) (h : PyData.strOk x = true) : SS := ⟨x, h⟩
abbrev dSS (x : SS) : D := .str x.1
theorem ek_str : EqOk 0 dSS := ⟨fun x m _ => by simp [Ev.shp]; exact x.2, fun x y => by
  unfold deq
  simp only [pd, PyData.eqv]
  by_cases h : x = y
  · simp [h]
  · have : x.1 ≠ y.1 := fun z => h (Subtype.ext z)
    simp [h, this]⟩
theorem q_isB (x y : Bool) : gIsB (.bl x) (.bl y) = some (decide (x = y)) := rfl
theorem q_isnotB (x y : Bool) : gIsNotB (.bl x) (.bl y) = some (!decide (x = y)) := rfl
def extO (xs ys : List α) : Option (List α) := if xs.length + ys.length ≤ 1000000 then some (xs ++ ys) else none
theorem js_ext {xs ys : List α} {mm : Md} {kk : List α → Option T} (hn : nth cs i = some ⟨dL e xs, mm, a⟩) (hm : fullM mm = true) (hk : JE cs f (dL e ys) l1 a1 v1) (hi : ∀ x, imm (e x) = true)
    (h : ∀ zs, JS (put cs i ⟨dL e zs, mm, a⟩) b (kk zs) Ψ) : JS cs (sSeq (sExtI i f) b) (bindO (extO xs ys) kk) Ψ := fun ρ r t ht => by
  obtain ⟨s, e1, k1⟩ := r.nth hn
  have hfull := fullM_ok hm (k1.m rfl)
  have hd : s.d = .lst (xs.map e) := k1.d
  obtain ⟨y, e2, k2⟩ := hk _ r
  obtain ⟨m', e4, e5⟩ := bindO_some ht
  unfold extO at e4
  split at e4
  · rename_i hl
    cases e4
    obtain ⟨out, e6, q⟩ := h _ _ (r.put (i := i) (ok_same (d' := dL e (xs ++ ys)) k1 rfl hm)) t e5
    refine ⟨out, ?_, q⟩
    unfold sSeq sExtI
    rw [e1]
    simp only [hd, e2, Option.bind_some, k2.d]
    rw [if_pos ⟨by rw [hfull]; decide, by rw [List.length_map, List.length_map]; exact hl, immAll_map hi ys⟩, hfull, ← List.map_append]
    exact e6
  · cases e4
def remO [DecidableEq α] (xs : List α) (x : α) : Option (List α) := (xs.findIdx? fun y => decide (y = x)).map xs.eraseIdx
theorem js_rem [DecidableEq α] {n : Nat} {xs : List α} {x : α} {mm : Md} {kk : List α → Option T} (he : EqOk n e) (hn : nth cs i = some ⟨dL e xs, mm, a⟩) (hm : fullM mm = true) (hk : JE cs f (e x) l1 a1 v1)
    (h : ∀ zs, JS (put cs i ⟨dL e zs, mm, a⟩) b (kk zs) Ψ) (hb : decide (n ≤ 7) = true := by decide) : JS cs (sSeq (sRemI i f) b) (bindO (remO xs x) kk) Ψ := fun ρ r t ht => by
  obtain ⟨s, e1, k1⟩ := r.nth hn
  have hb := of_decide_eq_true hb
  have hfull := fullM_ok hm (k1.m rfl)
  have hd : s.d = .lst (xs.map e) := k1.d
  obtain ⟨y, e2, k2⟩ := hk _ r
  obtain ⟨m', e4, e5⟩ := bindO_some ht
  unfold remO at e4
  obtain ⟨j, ej, e7⟩ := Option.map_eq_some_iff.mp e4
  subst e7
  obtain ⟨out, e6, q⟩ := h _ _ (r.put (i := i) (ok_same (d' := dL e (xs.eraseIdx j)) k1 rfl hm)) t e5
  refine ⟨out, ?_, q⟩
  unfold sSeq sRemI
  rw [e1]
  have hf : (xs.map e).findIdx? (fun z => deq z (e x)) = some j := by
    rw [List.findIdx?_map, ← ej]
    congr 1
    funext z
    exact he.eq z x
  simp only [hd, e2, Option.bind_some, k2.d, hf]
  rw [if_pos ⟨by rw [hfull]; decide, by rw [he.shp x 8 (by omega), shps_map (fun y => he.shp y 7 hb)]; rfl⟩, hfull, map_eraseIdxE]
  exact e6
end
end Tg

set_option Elab.async false
set_option linter.all false
set_option maxRecDepth 100000

namespace Tg
open PySem PySem.Spec L2 Ev
open PyProof.Rows hiding St
section
variable {cs : CS} {f : EvE} {α β : Type} {e : α → D} {e2 : β → D} {l : Lv} {a v : Bool}
structure ShOk (n : Nat) (e : α → D) : Prop where
  shp : ∀ x m, n ≤ m → Ev.shp m (e x) = true
  rfl_ : ∀ x, deq (e x) (e x) = true
theorem sh_of [DecidableEq α] {n : Nat} (h : EqOk n e) : ShOk n e := ⟨h.shp, fun x => by rw [h.eq]; simp⟩
theorem sh_u {n m : Nat} (h : ShOk n e) (h2 : ShOk m e2) : ShOk (max n m) (dU e e2) := ⟨fun x k hk => by
    cases x with
    | inl x => exact h.shp x k (by omega)
    | inr x => exact h2.shp x k (by omega), fun x => by
    cases x with
    | inl x => exact h.rfl_ x
    | inr x => exact h2.rfl_ x⟩
theorem sh_list {n : Nat} (h : ShOk n e) : ShOk (n + 1) (dL e) := ⟨fun x k hk => by
    obtain ⟨k, rfl⟩ : ∃ j, k = j + 1 := ⟨k - 1, by omega⟩
    show Ev.shp (k + 1) (.lst (x.map e)) = true
    simp only [Ev.shp]
    exact shps_map (fun y => h.shp y k (by omega)) x, fun x => by
    show PyData.eqvAll (pds (x.map e)) (pds (x.map e)) = true
    induction x with
    | nil => rfl
    | cons y ys ih =>
      have := h.rfl_ y
      unfold deq at this
      simp only [List.map_cons, pds, PyData.eqvAll, this, ih, Bool.and_self]⟩
def eqB (e : α → D) (x y : α) : Bool := deq (e x) (e y)
theorem eqB_rfl {n : Nat} (h : ShOk n e) (x : α) : eqB e x x = true := h.rfl_ x
theorem q_eqB {n : Nat} (h : ShOk n e) (x y : α) (hn : decide (n ≤ 8) = true := by decide) : gEq (e x) (e y) = some (eqB e x y) := by
  have hn := of_decide_eq_true hn
  unfold gEq
  rw [h.shp x 8 hn, h.shp y 8 hn]
  rfl
theorem q_neB {n : Nat} (h : ShOk n e) (x y : α) (hn : decide (n ≤ 8) = true := by decide) : gNe (e x) (e y) = some (!eqB e x y) := by
  have hn := of_decide_eq_true hn
  unfold gNe
  rw [h.shp x 8 hn, h.shp y 8 hn]
  rfl
theorem jn_mapL {xs : List α} (e2 : β → D) (h : JE cs f (dL e xs) l a v) : JE cs f (dL (dU e e2) (xs.map Sum.inl)) l a v := by
  have : dL (dU e e2) (xs.map Sum.inl) = dL e xs := by
    show D.lst _ = D.lst _
    rw [List.map_map]
    rfl
  rw [this]
  exact h
theorem jn_mapR {xs : List β} (e : α → D) (h : JE cs f (dL e2 xs) l a v) : JE cs f (dL (dU e e2) (xs.map Sum.inr)) l a v := by
  have : dL (dU e e2) (xs.map Sum.inr) = dL e2 xs := by
    show D.lst _ = D.lst _
    rw [List.map_map]
    rfl
  rw [this]
  exact h
end
end Tg

set_option Elab.async false
set_option linter.all false
set_option maxRecDepth 100000

namespace Tg
open PySem PySem.Spec L2 Ev
open PyProof.Rows hiding St
section
variable {cs : CS} {f g : EvE} {b : EvS} {l l1 l2 : Lv} {a a1 a2 v v1 v2 : Bool} {α β T : Type} {e : α → D} {e2 : β → D} {Ψ : T → Out → Prop} {i j : Nat}
theorem js_forClr {xs : List (α × List β)} {m : Md} {k : List (α × List β) → Option T} (hn : nth cs j = some ⟨dL (dT2 e (dL e2)) xs, m, a⟩) (hm : fullM m = true) (hij : decide (j ≠ i) = true) (hi : decide (i < cs.length) = true)
    (h : ∀ ys, JS (put (hideC cs i) j ⟨dL (dT2 e (dL e2)) ys, m, a⟩) b (k ys) Ψ) : JS cs (sSeq (sForClr j i) b) (letB (xs.map fun p => (p.1, ([] : List β))) k) Ψ := fun ρ r t ht => by
  obtain ⟨s, e1, k1⟩ := r.nth hn
  have hml := k1.m rfl
  have hd : s.d = .lst (xs.map (dT2 e (dL e2))) := k1.d
  have hall : (xs.map (dT2 e (dL e2))).all isTC = true := by
    rw [List.all_map]
    exact List.all_eq_true.mpr fun p _ => rfl
  have hmap : (xs.map (dT2 e (dL e2))).map clrD = (xs.map fun p => (p.1, ([] : List β))).map (dT2 e (dL e2)) := by
    rw [List.map_map, List.map_map]
    rfl
  obtain ⟨out, e6, q⟩ := h _ _ ((r.hide i).put (i := j) (s := ⟨.lst ((xs.map (dT2 e (dL e2))).map clrD), .full, s.al, s.pn⟩) (c := ⟨dL (dT2 e (dL e2)) (xs.map fun p => (p.1, [])), m, a⟩) ⟨by show D.lst _ = D.lst _; rw [hmap], fun _ => by
    cases m <;> first | exact absurd hm (by decide) | rfl | exact ⟨rfl, hml.2⟩, fun _ z => k1.al rfl z⟩) t ht
  refine ⟨out, ?_, q⟩
  unfold sSeq sForClr
  rw [e1]
  simp only [hd]
  rw [if_pos ⟨fullM_ok hm hml, of_decide_eq_true hij, by rw [r.len]; exact of_decide_eq_true hi, hall⟩]
  exact e6
theorem Rel.loose {ρ : Ev.Env} (r : Rel ρ cs) (i : Nat) (s : Option Sv) : Rel (ρ.set i s) (hideC cs i) where
  len := by unfold hideC; rw [List.length_set, List.length_set, r.len]
  at_ := fun k c e => by
    unfold hideC at e
    rw [List.getElem?_set] at e ⊢
    by_cases q : i = k
    · subst q
      rw [if_pos rfl] at e
      split at e <;> simp at e
    · rw [if_neg q] at e
      rw [if_neg q]
      exact r.at_ k c e

theorem js_appD {xs : List α} {d : D} {m : Md} {o : Option T} (hn : nth cs i = some ⟨dL e xs, m, a⟩) (he : JE cs f d l a2 false) (hm : ownM m = true) (h : JS (hideC cs i) b o Ψ) : JS cs (sSeq (sLop oApp [] i (aCons f aNil)) b) (bindO (big xs) fun _ => o) Ψ := fun ρ r t ht => by
  obtain ⟨s, e1, k1⟩ := r.nth hn
  obtain ⟨y, e2, k2⟩ := he _ r
  obtain ⟨zs, e3, e4⟩ := bindO_some ht
  have hv : y.vw = false := by
    cases q : y.vw with
    | false => rfl
    | true => exact nomatch k2.vw q
  have hml := k1.m rfl
  have hne := ownM_ok hm hml
  have hd : s.d = .lst (xs.map e) := k1.d
  unfold big at e3
  split at e3
  · rename_i hl
    have hx : sLop oApp [] i (aCons f aNil) ρ = some (.nx (ρ.set i (some ⟨.lst (xs.map e ++ [y.d]), keepLv s.l (if [y].all (fun r => !r.vw && decide (r.l = .full)) = true then .full else .top), s.al || [y].any (·.al), s.pn⟩))) := by
      unfold sLop
      show (match ρ[i]? with | some (some s) => _ | _ => none) = _
      rw [e1]
      simp only [hd, List.length_map]
      rw [if_neg (by simp only [Bool.or_eq_true, decide_eq_true_eq, not_or, Nat.not_lt]; exact ⟨hne, hl⟩)]
      show ((aCons f aNil ρ).bind _) = _
      unfold aCons aNil
      simp only [e2, Option.bind_some]
      rw [if_pos (by simp [hv])]
      rfl
    obtain ⟨out, e6, q⟩ := h _ (r.loose i _) t e4
    refine ⟨out, ?_, q⟩
    unfold sSeq
    rw [hx]
    exact e6
  · cases e3
end
end Tg

set_option Elab.async false
set_option linter.all false
set_option maxRecDepth 100000

namespace Tg
open PySem PySem.Spec L2 Ev
open PyProof.Rows hiding St
section
variable {cs : CS} {f g : EvE} {b : EvS} {l l1 l2 : Lv} {a a1 aj v v1 v2 : Bool} {α β T : Type} {e : α → D} {e2 : β → D} {Ψ : T → Out → Prop} {i j : Nat}
theorem js_appMv {xs : List (α × β)} {x : α} {y : β} {m mj : Md} {k : List (α × β) → Option T} (hn : nth cs i = some ⟨dL (dT2 e e2) xs, m, a⟩) (hj : nth cs j = some ⟨e2 y, mj, aj⟩) (he : JE cs f (e x) l1 a1 v1) (hi : imm (e x) = true) (hni : imm (e2 y) = false) (hm : ownM m = true) (hmj : fullM mj = true) (hij : decide (i ≠ j) = true)
    (h : ∀ ys, JS (put (hideC cs j) i ⟨dL (dT2 e e2) ys, m, a || aj⟩) b (k ys) Ψ) : JS cs (sSeq (sAppMv i j f) b) (bindO (appO xs (x, y)) k) Ψ := fun ρ r t ht => by
  obtain ⟨s, e1, k1⟩ := r.nth hn
  obtain ⟨sj, ej, kj⟩ := r.nth hj
  obtain ⟨w, ew, kw⟩ := he _ r
  obtain ⟨zs, e3, e4⟩ := bindO_some ht
  obtain ⟨hl, rfl⟩ := appO_some e3
  have hml := k1.m rfl
  have hne := ownM_ok hm hml
  have hfj := fullM_ok hmj (kj.m hni)
  have hd : s.d = .lst (xs.map (dT2 e e2)) := k1.d
  have hdj : sj.d = e2 y := kj.d
  have hs : Cl.ok ⟨dL (dT2 e e2) (xs ++ [(x, y)]), m, a || aj⟩ ⟨.lst (xs.map (dT2 e e2) ++ [.tup [w.d, sj.d]]), keepLv s.l .full, s.al || sj.al, s.pn⟩ := by
    refine ⟨by simp [kw.d, hdj], fun _ => ?_, fun _ z => ?_⟩
    · have := keepM_ok (m := m) (l := .full) (l2 := .full) (x := s) (y := ⟨.lst (xs.map (dT2 e e2) ++ [.tup [w.d, sj.d]]), keepLv s.l .full, s.al || sj.al, s.pn⟩) hml rfl rfl rfl
      have hk : keepM m .full = m := by cases m <;> first | rfl | exact absurd hm (by decide)
      rw [hk] at this
      exact this
    · rcases Bool.or_eq_true _ _ ▸ z with z | z
      · have := k1.al rfl z
        simp only at this
        rw [this]; rfl
      · have := kj.al hni z
        simp only at this
        rw [this]; cases a <;> rfl
  obtain ⟨out, e6, q⟩ := h _ _ ((r.hide j).put (i := i) hs) t e4
  refine ⟨out, ?_, q⟩
  unfold sSeq sAppMv
  rw [e1, ej]
  simp only [hd, ew, Option.bind_some]
  rw [if_pos ⟨hne, hfj, of_decide_eq_true hij, by rw [List.length_map]; exact hl, by rw [kw.d]; exact hi⟩]
  exact e6
end
end Tg

set_option Elab.async false
set_option linter.all false
set_option maxRecDepth 100000
set_option maxHeartbeats 4000000
namespace Pr
open PySem PySem.Spec L2 Ev Tg
open PyProof.Rows hiding St
noncomputable section


def p_law_cell_at (x_script : List Int) (x_k : Int) : Option Int :=
if decide (x_k < (x_script.length : Int)) = true then
(bindO (idx x_script x_k) fun v1 =>
some v1)
else
(some (0 : Int))
def p_led_from_L1 (x_beside : List (Int × (List Int))) (x_found : List Int) (x_onward : List Int) : Option ((List Int) × (List Int)) :=
bindO (idx x_onward (0 : Int)) fun v2 =>
bindO (appO x_found v2) fun x_found_2 =>
bindO (idx x_onward (0 : Int)) fun v3 =>
bindO (aget x_beside v3) fun v4 =>
bindO (big ((v4.filter fun y5 => (!(decide (y5 ∈ x_found_2)))).map fun y5 => y5)) fun v6 =>
letB (v6 : List Int) fun x_onward_2 =>
some (x_found_2, x_onward_2)
def p_led_from (x_start : Int) (x_beside : List (Int × (List Int))) : Option (List Int) :=
letB ([x_start] : List Int) fun x_found =>
bindO (aget x_beside x_start) fun v1 =>
letB (v1 : List Int) fun x_onward =>
bindO (whS fuel (x_found, x_onward) (fun (s7 : (List Int) × (List Int)) => (some (!decide (s7.2 = ([] : List Int))))) (fun (s7 : (List Int) × (List Int)) => p_led_from_L1 x_beside s7.1 s7.2)) fun s7 =>
some s7.1
def p_law_tie (x_a : Int) (x_b : Int) : Option (Int × Int) :=
some ((minI x_a x_b), (maxI x_a x_b))
def p_law_whole (x_found : Int) : Option Bool :=
some (true && (!false))
def p_law_order_L1 (x_script : List Int) (x_k : Int) (x_order_here : List Int) : Option ((List Int)) :=
bindO (p_law_cell_at x_script (x_k + (1 : Int))) fun v2 =>
letB (((((v2 + ((7 : Int) * x_k)) + (3 : Int)) * (48271 : Int)) % (2147483647 : Int)) : Int) fun x_number =>
bindO (modO x_number (x_k + (1 : Int))) fun v3 =>
bindO (insO x_order_here v3 x_k) fun x_order_here_2 =>
some x_order_here_2
def p_law_order (x_script : List Int) (x_many : Int) : Option (List Int) :=
letB (([] : List Int) : List Int) fun x_order_here =>
bindO (rngO 0 x_many) fun v1 =>
bindO (forS v1 x_order_here (fun (x4 : Int) (s4 : (List Int)) => p_law_order_L1 x_script x4 s4)) fun s4 =>
some s4
def p_between_L1 (x_a : Int) (x_b : Int) (x_beside : List (Int × (List Int))) : Option ((List (Int × (List Int)))) :=
bindO (sdaO x_beside x_a x_b) fun x_beside_2 =>
bindO (sdaO x_beside_2 x_b x_a) fun x_beside_3 =>
some x_beside_3
def p_between_L3 (x_beside : List (Int × (List Int))) (x_count : Int) (x_kind : SS) (x_start : Int) (x_found : List (SS × (List Int))) (x_seen : List Int) : Option ((List (SS × (List Int))) × (List Int)) :=
bindO (if (!(decide (x_start ∈ x_seen))) = true then (bindO (aget x_beside x_start) fun v8 => some (decide ((v8.length : Int) = x_count))) else some false) fun v9 =>
bindO (if v9 = true then
bindO (p_led_from x_start x_beside) fun v10 =>
letB (v10 : List Int) fun x_points =>
bindO (extO x_seen x_points) fun x_seen_2 =>
bindO (appO x_found (x_kind, x_points)) fun x_found_2 =>
some (x_seen_2, x_found_2)
else
some (x_seen, x_found)) fun (s11 : (List Int) × (List (SS × (List Int)))) =>
some (s11.2, s11.1)
def p_between_L2 (x_beside : List (Int × (List Int))) (x_count : Int) (x_kind : SS) (x_found : List (SS × (List Int))) (x_seen : List Int) : Option ((List (SS × (List Int))) × (List Int)) :=
bindO (sortKO x_beside) fun v7 =>
bindO (forS v7 (x_found, x_seen) (fun (x12 : Int) (s12 : (List (SS × (List Int))) × (List Int)) => p_between_L3 x_beside x_count x_kind x12 s12.1 s12.2)) fun s12 =>
some (s12.1, s12.2)
def p_between (x_one : List (Int × Int)) (x_other : List (Int × Int)) : Option (List (SS × (List Int))) :=
letB (([] : List (Int × (List Int))) : List (Int × (List Int))) fun x_beside =>
bindO (big ((x_one.filter fun y1 => (!(decide (y1 ∈ x_other)))).map fun y1 => y1)) fun v2 =>
bindO (big ((x_other.filter fun y3 => (!(decide (y3 ∈ x_one)))).map fun y3 => y3)) fun v4 =>
bindO (catO v2 v4) fun v5 =>
bindO (forS v5 x_beside (fun (x6 : Int × Int) (s6 : (List (Int × (List Int)))) => p_between_L1 x6.1 x6.2 s6)) fun s6 =>
letB (([] : List (SS × (List Int))) : List (SS × (List Int))) fun x_found =>
letB (([] : List Int) : List Int) fun x_seen =>
bindO (forS ([((1 : Int), (mkS "row" (by decide +kernel))), ((2 : Int), (mkS "ring" (by decide +kernel)))]) (x_found, x_seen) (fun (x13 : Int × SS) (s13 : (List (SS × (List Int))) × (List Int)) => p_between_L2 s6 x13.1 x13.2 s13.1 s13.2)) fun s13 =>
some s13.1
def p_law_piece_L1 (x_piece_here : List Int) (x_kind : Int) (x_k : Int) (x_one : List (Int × Int)) (x_other : List (Int × Int)) : Option ((List (Int × Int)) × (List (Int × Int))) :=
bindO (if decide (((x_k + x_kind) % (2 : Int)) = (0 : Int)) = true then
bindO (idx x_piece_here x_k) fun v8 =>
bindO (idx x_piece_here (x_k + (1 : Int))) fun v9 =>
bindO (p_law_tie v8 v9) fun v10 =>
bindO (appO x_one v10) fun x_one_2 =>
some (x_one_2, x_other)
else
bindO (idx x_piece_here x_k) fun v11 =>
bindO (idx x_piece_here (x_k + (1 : Int))) fun v12 =>
bindO (p_law_tie v11 v12) fun v13 =>
bindO (appO x_other v13) fun x_other_2 =>
some (x_one, x_other_2)) fun (s14 : (List (Int × Int)) × (List (Int × Int))) =>
some (s14.1, s14.2)
def p_law_piece (x_one : List (Int × Int)) (x_other : List (Int × Int)) (x_piece_here : List Int) (x_kind : Int) : Option ((List (Int × Int)) × (List (Int × Int))) :=
if (decide (x_kind = (4 : Int)) || decide ((x_piece_here.length : Int) < (2 : Int))) = true then
(some (x_one, x_other))
else
(if decide (x_kind = (3 : Int)) = true then
(bindO (idx x_piece_here (0 : Int)) fun v1 =>
bindO (idx x_piece_here (1 : Int)) fun v2 =>
bindO (p_law_tie v1 v2) fun v3 =>
bindO (appO x_one v3) fun x_one_2 =>
bindO (idx x_piece_here (0 : Int)) fun v4 =>
bindO (idx x_piece_here (1 : Int)) fun v5 =>
bindO (p_law_tie v4 v5) fun v6 =>
bindO (appO x_other v6) fun x_other_2 =>
some (x_one_2, x_other_2))
else
(bindO (rngO 0 ((x_piece_here.length : Int) - (1 : Int))) fun v7 =>
bindO (forS v7 (x_one, x_other) (fun (x15 : Int) (s15 : (List (Int × Int)) × (List (Int × Int))) => p_law_piece_L1 x_piece_here x_kind x15 s15.1 s15.2)) fun s15 =>
if (decide (x_kind = (2 : Int)) && (decide (((x_piece_here.length : Int) % (2 : Int)) = (0 : Int)) && decide ((x_piece_here.length : Int) > (2 : Int)))) = true then
(bindO (idx x_piece_here (0 : Int)) fun v16 =>
bindO (idx x_piece_here (-(1 : Int))) fun v17 =>
bindO (p_law_tie v16 v17) fun v18 =>
bindO (appO s15.2 v18) fun x_other_3 =>
some (s15.1, x_other_3))
else
(some (s15.1, s15.2))))
def p_law_along (x_told : SS × (List Int)) : Option (Option (List (Int × Int))) :=
if ((!true) || ((!decide ((2 : Int) = (2 : Int))) || (!(decide (x_told.1 ∈ [(mkS "row" (by decide +kernel)), (mkS "ring" (by decide +kernel))]))))) = true then
(some (none : Option (List (Int × Int))))
else
(letB (x_told.2 : List Int) fun x_points =>
bindO (if (!true) = true then some true else (bindO (if decide ((x_points.length : Int) < (2 : Int)) = true then some true else (bindO (bindO (lcM x_points (fun y1 => (some true)) (fun y1 => (bindO (p_law_whole y1) fun v2 => some v2))) big) fun v3 => some (!(v3.all id)))) fun v4 => some v4)) fun v5 =>
if v5 = true then
(some (none : Option (List (Int × Int))))
else
(bindO (rngO 0 ((x_points.length : Int) - (1 : Int))) fun v6 =>
bindO (bindO (lcM v6 (fun y7 => (some true)) (fun y7 => (bindO (idx x_points y7) fun v8 => bindO (idx x_points (y7 + (1 : Int))) fun v9 => bindO (p_law_tie v8 v9) fun v10 => some v10))) big) fun v11 =>
letB (v11 : List (Int × Int)) fun x_ties =>
if decide (x_told.1 = (mkS "ring" (by decide +kernel))) = true then
(if decide ((x_points.length : Int) < (4 : Int)) = true then
(some (none : Option (List (Int × Int))))
else
(bindO (idx x_points (0 : Int)) fun v12 =>
bindO (idx x_points (-(1 : Int))) fun v13 =>
bindO (p_law_tie v12 v13) fun v14 =>
bindO (appO x_ties v14) fun x_ties_2 =>
some (some x_ties_2)))
else
(some (some x_ties))))
def p_law_two_L1 (x_script : List Int) (x_order_here : List Int) (x_one : List (Int × Int)) (x_other : List (Int × Int)) (x_at : Int) (x_k : Int) : Option ((List (Int × Int)) × (List (Int × Int)) × Int × Int) :=
bindO (p_law_cell_at x_script x_k) fun v1 =>
letB ((((v1 + ((5 : Int) * x_k)) * (69621 : Int)) % (2147483629 : Int)) : Int) fun x_number =>
bindO (idx ([(5 : Int), (24 : Int)]) ((x_number / (120 : Int)) % (2 : Int))) fun v2 =>
bindO (modO (x_number / (5 : Int)) v2) fun v3 =>
letB (((1 : Int) + v3) : Int) fun x_size =>
bindO (p_law_piece x_one x_other (cutL x_order_here (some x_at) (some (x_at + x_size))) (x_number % (5 : Int))) fun v4 =>
letB ((x_at + x_size) : Int) fun x_at_2 =>
letB ((x_k + (1 : Int)) : Int) fun x_k_2 =>
some (v4.1, v4.2, x_at_2, x_k_2)
def p_law_two (x_script : List Int) (x_order_here : List Int) : Option ((List (Int × Int)) × (List (Int × Int))) :=
letB (([] : List (Int × Int)) : List (Int × Int)) fun x_one =>
letB (([] : List (Int × Int)) : List (Int × Int)) fun x_other =>
letB ((0 : Int) : Int) fun x_at =>
letB ((25 : Int) : Int) fun x_k =>
bindO (whS fuel (x_one, x_other, x_at, x_k) (fun (s5 : (List (Int × Int)) × (List (Int × Int)) × Int × Int) => (some (decide (s5.2.2.1 < (x_order_here.length : Int))))) (fun (s5 : (List (Int × Int)) × (List (Int × Int)) × Int × Int) => p_law_two_L1 x_script x_order_here s5.1 s5.2.1 s5.2.2.1 s5.2.2.2)) fun s5 =>
some ((sort2 s5.1), (sort2 s5.2.1))
def p_law_right_L1 (x_told : SS × (List Int)) (x_points : List Int) (x_ties : List (Int × Int)) : Option (Ctl ((List Int) × (List (Int × Int))) (Bool)) :=
bindO (p_law_along x_told) fun v1 =>
letB (v1 : Option (List (Int × Int))) fun x_along_here =>
if x_along_here.isNone = true then
(some (.rt false))
else
(bindO (catO x_points x_told.2) fun v2 =>
letB (v2 : List Int) fun x_points_2 =>
bindO x_along_here fun v3 =>
bindO (catO x_ties v3) fun v4 =>
letB (v4 : List (Int × Int)) fun x_ties_2 =>
some (.nx (x_points_2, x_ties_2)))
def p_law_right (x_found : List (SS × (List Int))) (x_one : List (Int × Int)) (x_other : List (Int × Int)) : Option Bool :=
if (!true) = true then
(some false)
else
(letB (([] : List Int) : List Int) fun x_points =>
letB (([] : List (Int × Int)) : List (Int × Int)) fun x_ties =>
onS (forC x_found (x_points, x_ties) (fun (x5 : SS × (List Int)) (s5 : (List Int) × (List (Int × Int))) => p_law_right_L1 x5 s5.1 s5.2)) (fun s5 =>
bindO (big ((x_one.filter fun y6 => (!(decide (y6 ∈ x_other)))).map fun y6 => y6)) fun v7 =>
bindO (big ((x_other.filter fun y8 => (!(decide (y8 ∈ x_one)))).map fun y8 => y8)) fun v9 =>
bindO (catO v7 v9) fun v10 =>
letB (v10 : List (Int × Int)) fun x_due =>
bindO (kindsO s5.1) fun v11 =>
some (decide (v11 = (s5.1.length : Int)) && decide ((sort2 s5.2) = (sort2 x_due)))) (fun r => r))
def p_law (x_script : List Int) : Option Bool :=
bindO (p_law_cell_at x_script (0 : Int)) fun v1 =>
letB ((((v1 + (7 : Int)) * (48271 : Int)) % (2147483647 : Int)) : Int) fun x_head =>
letB (((1 : Int) + (x_head % (12 : Int))) : Int) fun x_many =>
bindO (if decide (((x_head / (12 : Int)) % (7 : Int)) = (3 : Int)) = true then
letB (((13 : Int) + ((x_head / (40000 : Int)) % (12 : Int))) : Int) fun x_many_2 =>
some x_many_2
else
some x_many) fun (s2 : Int) =>
bindO (p_law_order x_script s2) fun v3 =>
bindO (p_law_two x_script v3) fun v4 =>
letB (v4 : (List (Int × Int)) × (List (Int × Int))) fun q5 =>
letB ([q5.1, q5.2] : List (List (Int × Int))) fun x_handed =>
bindO (idx x_handed (0 : Int)) fun v6 =>
bindO (idx x_handed (1 : Int)) fun v7 =>
bindO (p_between v6 v7) fun v8 =>
letB (v8 : List (SS × (List Int))) fun x_found =>
bindO (p_law_right x_found q5.1 q5.2) fun v9 =>
bindO (if (!v9) = true then some true else (bindO (idx x_handed (0 : Int)) fun v10 => bindO (idx x_handed (0 : Int)) fun v11 => bindO (p_between v10 v11) fun v12 => some (!decide (v12 = ([] : List (SS × (List Int))))))) fun v13 =>
if v13 = true then
(some false)
else
(letB (x_found.map fun p => (p.1, []) : List (SS × (List Int))) fun x_found_2 =>
bindO (big x_found_2) fun _ =>
bindO (idx x_handed (1 : Int)) fun v14 =>
bindO (idx x_handed (0 : Int)) fun v15 =>
bindO (p_between v14 v15) fun v16 =>
bindO (p_law_right v16 q5.1 q5.2) fun v17 =>
if (!v17) = true then
(some false)
else
(bindO (idx x_handed (0 : Int)) fun v18 =>
bindO (idx x_handed (1 : Int)) fun v19 =>
bindO (p_between v18 v19) fun v20 =>
bindO (p_law_right v20 q5.1 q5.2) fun v21 =>
some (v21 && decide (x_handed = [q5.1, q5.2]))))

end
end Pr

set_option Elab.async false
set_option linter.all false
set_option maxRecDepth 100000
set_option maxHeartbeats 4000000
namespace Pr
open PySem PySem.Spec L2 Ev Tg
open PyProof.Rows hiding St
noncomputable section

def CT_led_from_1 : EvT :=
  (tCmp gNin (eName 4) (eName 2))
def CE_led_from_1 : EvE :=
  (eName 4)
def C_led_from_1 : EvE :=
  (eLc (iLstV (eIx (eName 1) (eIx (eName 3) (eC (.int 0))))) [4] (.nm 4) CT_led_from_1 CE_led_from_1)
def WT_led_from_1 : EvT :=
  (tCmp gNe (eName 3) (eLst aNil))
def WB_led_from_1 : EvS :=
  (sSeq (sLop oApp [3] 2 (aCons (eIx (eName 3) (eC (.int 0))) aNil)) (sSet [] 3 C_led_from_1))
def W_led_from_1 : EvS :=
  (sWhile WT_led_from_1 WB_led_from_1)
def B_led_from : EvS :=
  (sSeq (sSet [] 2 (eLst (aCons (eName 0) aNil))) (sSeq (sSet [] 3 (eIx (eName 1) (eName 0))) (sSeq W_led_from_1 (sRetV 2))))
def R_led_from : List D → Option RetD := run B_led_from 5
def B_law_cell_at : EvS :=
  (sSeq (sIf (tCmp gLt (eName 1) (eLen (aCons (eName 0) aNil))) (sRet (eIx (eName 0) (eName 1))) sNil) (sRet (eC (.int 0))))
def R_law_cell_at : List D → Option RetD := run B_law_cell_at 2
def B_law_whole : EvS :=
  (sRet (eAnd (eIsi "int" (eName 0)) (eNot (eIsi "bool" (eName 0)))))
def R_law_whole : List D → Option RetD := run B_law_whole 1
def B_law_tie : EvS :=
  (sRet (eTup (aCons (eBi bMin2 (aCons (eName 0) (aCons (eName 1) aNil))) (aCons (eBi bMax2 (aCons (eName 0) (aCons (eName 1) aNil))) aNil))))
def R_law_tie : List D → Option RetD := run B_law_tie 2
def CT_between_1 : EvT :=
  (tCmp gNin (eName 11) (eName 1))
def CE_between_1 : EvE :=
  (eName 11)
def C_between_1 : EvE :=
  (eLc (iLstV (eName 0)) [11] (.nm 11) CT_between_1 CE_between_1)
def CT_between_2 : EvT :=
  (tCmp gNin (eName 11) (eName 0))
def C_between_2 : EvE :=
  (eLc (iLstV (eName 1)) [11] (.nm 11) CT_between_2 CE_between_1)
def FB_between_1 : EvS :=
  (sSeq (sSDA 2 (eName 3) 4) (sSDA 2 (eName 4) 3))
def F_between_1 : EvS :=
  (sFor [] (iLst (ePlus C_between_1 C_between_2)) (.tp [(.nm 3), (.nm 4)]) FB_between_1)
def FB_between_2 : EvS :=
  (sIf (tAnd (tCmp gNin (eName 9) (eName 6)) (tCmp gEq (eLen (aCons (eIx (eName 2) (eName 9)) aNil)) (eName 7))) (sSeq (sSet [] 10 (eCall R_led_from (aCons (eName 9) (aCons (eName 2) aNil)))) (sSeq (sExtI 6 (eName 10)) (sAppMv 5 10 (eName 8)))) sNil)
def F_between_2 : EvS :=
  (sFor [] (iLst (eBi bSorted (aCons (eName 2) aNil))) (.nm 9) FB_between_2)
def FB_between_3 : EvS :=
  F_between_2
def F_between_3 : EvS :=
  (sFor [] (iLst (eLst (aCons (eTup (aCons (eC (.int 1)) (aCons (eC (.str "row")) aNil))) (aCons (eTup (aCons (eC (.int 2)) (aCons (eC (.str "ring")) aNil))) aNil)))) (.tp [(.nm 7), (.nm 8)]) FB_between_3)
def B_between : EvS :=
  (sSeq (sSet [] 2 eDk) (sSeq F_between_1 (sSeq (sSet [] 5 (eLst aNil)) (sSeq (sSet [] 6 (eLst aNil)) (sSeq F_between_3 (sRetV 5))))))
def R_between : List D → Option RetD := run B_between 12
def FB_law_order_1 : EvS :=
  (sSeq (sSet [] 4 (eMod (eMul (ePlus (ePlus (eCall R_law_cell_at (aCons (eName 0) (aCons (ePlus (eName 3) (eC (.int 1))) aNil))) (eMul (eC (.int 7)) (eName 3))) (eC (.int 3))) (eC (.int 48271))) (eC (.int 2147483647)))) (sLop oIns [3] 2 (aCons (eMod (eName 4) (ePlus (eName 3) (eC (.int 1)))) (aCons (eName 3) aNil))))
def F_law_order_1 : EvS :=
  (sFor [] (iRange (aCons (eName 1) aNil)) (.nm 3) FB_law_order_1)
def B_law_order : EvS :=
  (sSeq (sSet [] 2 (eLst aNil)) (sSeq F_law_order_1 (sRetV 2)))
def R_law_order : List D → Option RetD := run B_law_order 5
def FB_law_piece_1 : EvS :=
  (sIf (tCmp gEq (eMod (ePlus (eName 4) (eName 3)) (eC (.int 2))) (eC (.int 0))) (sLop oApp [] 0 (aCons (eCall R_law_tie (aCons (eIx (eName 2) (eName 4)) (aCons (eIx (eName 2) (ePlus (eName 4) (eC (.int 1)))) aNil))) aNil)) (sLop oApp [] 1 (aCons (eCall R_law_tie (aCons (eIx (eName 2) (eName 4)) (aCons (eIx (eName 2) (ePlus (eName 4) (eC (.int 1)))) aNil))) aNil)))
def F_law_piece_1 : EvS :=
  (sFor [] (iRange (aCons (eSub (eLen (aCons (eName 2) aNil)) (eC (.int 1))) aNil)) (.nm 4) FB_law_piece_1)
def B_law_piece : EvS :=
  (sSeq (sIf (tOr (tCmp gEq (eName 3) (eC (.int 4))) (tCmp gLt (eLen (aCons (eName 2) aNil)) (eC (.int 2)))) sRet0 sNil) (sSeq (sIf (tCmp gEq (eName 3) (eC (.int 3))) (sSeq (sLop oApp [] 0 (aCons (eCall R_law_tie (aCons (eIx (eName 2) (eC (.int 0))) (aCons (eIx (eName 2) (eC (.int 1))) aNil))) aNil)) (sSeq (sLop oApp [] 1 (aCons (eCall R_law_tie (aCons (eIx (eName 2) (eC (.int 0))) (aCons (eIx (eName 2) (eC (.int 1))) aNil))) aNil)) sRet0)) sNil) (sSeq F_law_piece_1 (sIf (tAnd (tCmp gEq (eName 3) (eC (.int 2))) (tAnd (tCmp gEq (eMod (eLen (aCons (eName 2) aNil)) (eC (.int 2))) (eC (.int 0))) (tCmp gGt (eLen (aCons (eName 2) aNil)) (eC (.int 2))))) (sLop oApp [] 1 (aCons (eCall R_law_tie (aCons (eIx (eName 2) (eC (.int 0))) (aCons (eIx (eName 2) (eNeg (eC (.int 1)))) aNil))) aNil)) sNil))))
def R_law_piece : List D → Option RetM := runM B_law_piece 5 [true, true, false, false] [true, true, false, false]
def CE_law_along_1 : EvE :=
  (eCall R_law_whole (aCons (eName 3) aNil))
def C_law_along_1 : EvE :=
  (eLc (iLstV (eName 1)) [3] (.nm 3) tYes CE_law_along_1)
def CE_law_along_2 : EvE :=
  (eCall R_law_tie (aCons (eIx (eName 1) (eName 4)) (aCons (eIx (eName 1) (ePlus (eName 4) (eC (.int 1)))) aNil)))
def C_law_along_2 : EvE :=
  (eLc (iRange (aCons (eSub (eLen (aCons (eName 1) aNil)) (eC (.int 1))) aNil)) [4] (.nm 4) tYes CE_law_along_2)
def B_law_along : EvS :=
  (sSeq (sIf (tOr (tNot (tVal (eIsi "tuple" (eName 0)))) (tOr (tCmp gNe (eLen (aCons (eName 0) aNil)) (eC (.int 2))) (tCmp gNin (eIx (eName 0) (eC (.int 0))) (eLst (aCons (eC (.str "row")) (aCons (eC (.str "ring")) aNil)))))) (sRet (eC .non)) sNil) (sSeq (sSet [] 1 (eIx (eName 0) (eC (.int 1)))) (sSeq (sIf (tOr (tNot (tVal (eIsi "list" (eName 1)))) (tOr (tCmp gLt (eLen (aCons (eName 1) aNil)) (eC (.int 2))) (tNot (tVal (eBi bAll (aCons C_law_along_1 aNil)))))) (sRet (eC .non)) sNil) (sSeq (sSet [] 2 C_law_along_2) (sSeq (sIf (tCmp gEq (eIx (eName 0) (eC (.int 0))) (eC (.str "ring"))) (sSeq (sIf (tCmp gLt (eLen (aCons (eName 1) aNil)) (eC (.int 4))) (sRet (eC .non)) sNil) (sLop oApp [] 2 (aCons (eCall R_law_tie (aCons (eIx (eName 1) (eC (.int 0))) (aCons (eIx (eName 1) (eNeg (eC (.int 1)))) aNil))) aNil))) sNil) (sRetV 2))))))
def R_law_along : List D → Option RetD := run B_law_along 5
def WT_law_two_1 : EvT :=
  (tCmp gLt (eName 4) (eLen (aCons (eName 1) aNil)))
def WB_law_two_1 : EvS :=
  (sSeq (sSet [] 6 (eMod (eMul (ePlus (eCall R_law_cell_at (aCons (eName 0) (aCons (eName 5) aNil))) (eMul (eC (.int 5)) (eName 5))) (eC (.int 69621))) (eC (.int 2147483629)))) (sSeq (sSet [] 7 (ePlus (eC (.int 1)) (eMod (eDiv (eName 6) (eC (.int 5))) (eIx (eLst (aCons (eC (.int 5)) (aCons (eC (.int 24)) aNil))) (eMod (eDiv (eName 6) (eC (.int 120))) (eC (.int 2))))))) (sSeq (sExprX (xCall [true, true, false, false] R_law_piece (mSlot 2 (mSlot 3 (mVal (eSl (eName 1) (oSome (eName 4)) (oSome (ePlus (eName 4) (eName 7)))) (mVal (eMod (eName 6) (eC (.int 5))) mNil)))))) (sSeq (sSet [] 4 (ePlus (eName 4) (eName 7))) (sSet [] 5 (ePlus (eName 5) (eC (.int 1))))))))
def W_law_two_1 : EvS :=
  (sWhile WT_law_two_1 WB_law_two_1)
def B_law_two : EvS :=
  (sSeq (sSet [] 2 (eLst aNil)) (sSeq (sSet [] 3 (eLst aNil)) (sSeq (sSet [] 4 (eC (.int 0))) (sSeq (sSet [] 5 (eC (.int 25))) (sSeq W_law_two_1 (sRet (eTup (aCons (eBi bSorted (aCons (eName 2) aNil)) (aCons (eBi bSorted (aCons (eName 3) aNil)) aNil)))))))))
def R_law_two : List D → Option RetD := run B_law_two 8
def FB_law_right_1 : EvS :=
  (sSeq (sSet [] 6 (eCall R_law_along (aCons (eName 5) aNil))) (sSeq (sIf (tCmp gIs (eName 6) (eC .non)) (sRet (eC (.bl false))) sNil) (sSeq (sSet [] 3 (ePlus (eName 3) (eIx (eName 5) (eC (.int 1))))) (sSet [] 4 (ePlus (eName 4) (eName 6))))))
def F_law_right_1 : EvS :=
  (sFor [] (iLst (eName 0)) (.nm 5) FB_law_right_1)
def CT_law_right_1 : EvT :=
  (tCmp gNin (eName 8) (eName 2))
def CE_law_right_1 : EvE :=
  (eName 8)
def C_law_right_1 : EvE :=
  (eLc (iLstV (eName 1)) [8] (.nm 8) CT_law_right_1 CE_law_right_1)
def CT_law_right_2 : EvT :=
  (tCmp gNin (eName 8) (eName 1))
def C_law_right_2 : EvE :=
  (eLc (iLstV (eName 2)) [8] (.nm 8) CT_law_right_2 CE_law_right_1)
def B_law_right : EvS :=
  (sSeq (sIf (tNot (tVal (eIsi "list" (eName 0)))) (sRet (eC (.bl false))) sNil) (sSeq (sSet [] 3 (eLst aNil)) (sSeq (sSet [] 4 (eLst aNil)) (sSeq F_law_right_1 (sSeq (sSet [] 7 (ePlus C_law_right_1 C_law_right_2)) (sRet (eAnd (eCmp gEq (eBi bLenSet (aCons (eName 3) aNil)) (eLen (aCons (eName 3) aNil))) (eCmp gEq (eBi bSorted (aCons (eName 4) aNil)) (eBi bSorted (aCons (eName 7) aNil))))))))))
def R_law_right : List D → Option RetD := run B_law_right 9
def B_law : EvS :=
  (sSeq (sSet [] 1 (eMod (eMul (ePlus (eCall R_law_cell_at (aCons (eName 0) (aCons (eC (.int 0)) aNil))) (eC (.int 7))) (eC (.int 48271))) (eC (.int 2147483647)))) (sSeq (sSet [] 2 (ePlus (eC (.int 1)) (eMod (eName 1) (eC (.int 12))))) (sSeq (sIf (tCmp gEq (eMod (eDiv (eName 1) (eC (.int 12))) (eC (.int 7))) (eC (.int 3))) (sSet [] 2 (ePlus (eC (.int 13)) (eMod (eDiv (eName 1) (eC (.int 40000))) (eC (.int 12))))) sNil) (sSeq (sAsg [] (.tp [(.nm 3), (.nm 4)]) (eCall R_law_two (aCons (eName 0) (aCons (eCall R_law_order (aCons (eName 0) (aCons (eName 2) aNil))) aNil)))) (sSeq (sSet [] 5 (eLst (aCons (eBi bList (aCons (eName 3) aNil)) (aCons (eBi bList (aCons (eName 4) aNil)) aNil)))) (sSeq (sSet [] 6 (eCall R_between (aCons (eIx (eName 5) (eC (.int 0))) (aCons (eIx (eName 5) (eC (.int 1))) aNil)))) (sSeq (sIf (tOr (tNot (tVal (eCall R_law_right (aCons (eName 6) (aCons (eName 3) (aCons (eName 4) aNil)))))) (tCmp gNe (eCall R_between (aCons (eIx (eName 5) (eC (.int 0))) (aCons (eIx (eName 5) (eC (.int 0))) aNil))) (eLst aNil))) (sRet (eC (.bl false))) sNil) (sSeq (sForClr 6 7) (sSeq (sLop oApp [] 6 (aCons (eC .non) aNil)) (sSeq (sIf (tNot (tVal (eCall R_law_right (aCons (eCall R_between (aCons (eIx (eName 5) (eC (.int 1))) (aCons (eIx (eName 5) (eC (.int 0))) aNil))) (aCons (eName 3) (aCons (eName 4) aNil)))))) (sRet (eC (.bl false))) sNil) (sFz [3, 4] (sRet (eAnd (eCall R_law_right (aCons (eCall R_between (aCons (eIx (eName 5) (eC (.int 0))) (aCons (eIx (eName 5) (eC (.int 1))) aNil))) (aCons (eName 3) (aCons (eName 4) aNil)))) (eCmp gEq (eName 5) (eLst (aCons (eName 3) (aCons (eName 4) aNil)))))))))))))))))
def R_law : List D → Option RetD := run B_law 8
end
end Pr

set_option Elab.async false
set_option linter.all false
set_option maxRecDepth 100000
set_option maxHeartbeats 4000000
namespace Pr
open PySem PySem.Spec L2 Ev Tg
open PyProof.Rows hiding St
noncomputable section

local macro_rules | `(tactic| walk_at "lk") => `(tactic| simp [List.lookup_cons, List.findIdx?_cons, putD])
theorem kb_int_bool : kitB "int" "bool" = some false := by decide +kernel
theorem kb_int_int : kitB "int" "int" = some true := by decide +kernel
theorem kb_list_list : kitB "list" "list" = some true := by decide +kernel
theorem kb_tuple_tuple : kitB "tuple" "tuple" = some true := by decide +kernel
theorem p_law_cell_at_ok (x_script : List Int) (x_k : Int) (r : Int) (h : p_law_cell_at x_script x_k = some r) : RetE (R_law_cell_at) [(dF dI) x_script, dI x_k] (dI r) .full false :=
  fn_ok (n := 2) (ds := [(dF dI) x_script, dI x_k]) (o := p_law_cell_at x_script x_k) (er := dI) (by
    unfold p_law_cell_at B_law_cell_at
    exact (js_if (jt_cmp (d := (dI x_k)) (d2 := (dI (x_script.length : Int))) (jn_i (i := 1) rfl rfl) (je_len (jn_i (i := 0) rfl (immAll_map (fun _ => rfl) x_script)) (n_f _)) q_ltI) (js_bind fun v1 h1 =>
(js_ret (q := (fun r => r)) (er := dI) (x := v1) (l := .full) ret_R (je_ixI (d := ((dF dI) x_script)) (d2 := (dI x_k)) (jn_i (i := 0) rfl (immAll_map (fun _ => rfl) x_script)) (jn_i (i := 1) rfl rfl) (x_f (e := dI) h1) rfl))) (js_nil (js_last (js_ret (q := (fun r => r)) (er := dI) (x := (0 : Int)) (l := .full) ret_R jc))))) h (Nat.le_of_ble_eq_true rfl)
abbrev K_led_from_L1 (x_beside : List (Int × (List Int))) : ((List Int) × (List Int)) → CS := fun s => [none, some ⟨(dKI (dL dI)) x_beside, .s, true⟩, some ⟨(dL dI) s.1, .f, false⟩, some ⟨(dL dI) s.2, .a, true⟩, none]
theorem p_led_from_L1_ok (x_beside : List (Int × (List Int))) (x_found : List Int) (x_onward : List Int) : JS [none, some ⟨(dKI (dL dI)) x_beside, .s, true⟩, some ⟨(dL dI) x_found, .f, false⟩, some ⟨(dL dI) x_onward, .a, true⟩, none] (WB_led_from_1) (p_led_from_L1 x_beside x_found x_onward) (ΨL (K_led_from_L1 x_beside)) := by
  unfold p_led_from_L1 WB_led_from_1
  exact (js_bind fun v2 h2 =>
(js_app (fz := [3]) (e := dI) rfl (je_ixI (d := ((dL dI) x_onward)) (d2 := (dI (0 : Int))) (jn_s (i := 3) rfl) jc (x_l (e := dI) h2) rfl) rfl fun x_found_2 =>
(js_last (js_bind fun v3 h3 =>
(js_bind fun v4 h4 =>
(js_bind fun v6 h6 =>
(js_set (fz := []) (e := (dL dI)) (JE.w (l2 := .full) (a2 := false) (v2 := false) (je_lcP (e := dI) (e2 := dI) (jit_lI (e := dI) (fun _ => rfl) (je_ix (d := ((dKI (dL dI)) x_beside)) (d2 := (dI v3)) (jn_s (i := 1) rfl) (je_ixI (d := ((dL dI) x_onward)) (d2 := (dI (0 : Int))) (jn_s (i := 3) rfl) jc (x_l (e := dI) h3) rfl) (x_KI (e := (dL dI)) h4))) (fun _ => rfl) (fun y5 => (jt_cmp (d := (dI y5)) (d2 := ((dL dI) x_found_2)) (jn_i (i := 4) rfl rfl) (jn_v (i := 2) rfl) (q_ninL ek_int y5 x_found_2))) (fun y5 => (jn_i (i := 4) rfl rfl)) h6)) rfl fun x_onward_2 =>
(js_endL (s := (x_found_2, x_onward_2)) (.no (.so rfl rfl (.so rfl rfl (.so rfl rfl (.no .nil)))))))))))))
theorem p_led_from_ok (x_start : Int) (x_beside : List (Int × (List Int))) (r : (List Int)) (h : p_led_from x_start x_beside = some r) : RetE (R_led_from) [dI x_start, (dKI (dL dI)) x_beside] ((dL dI) r) .full false :=
  fn_ok (n := 5) (ds := [dI x_start, (dKI (dL dI)) x_beside]) (o := p_led_from x_start x_beside) (er := (dL dI)) (by
    unfold p_led_from B_led_from
    exact (js_set (fz := []) (e := (dL dI)) (JE.w (l2 := .full) (a2 := false) (v2 := false) (je_lst (ja_cons (jn_i (i := 0) rfl rfl) ja_nil))) rfl fun x_found =>
(js_bind fun v1 h1 =>
(js_set (fz := []) (e := (dL dI)) (je_ix (d := ((dKI (dL dI)) x_beside)) (d2 := (dI x_start)) (jn_s (i := 1) rfl) (jn_i (i := 0) rfl rfl) (x_KI (e := (dL dI)) h1)) rfl fun x_onward =>
(js_while (C := K_led_from_L1 x_beside) (.no (.so rfl rfl (.so rfl rfl (.so rfl rfl (.no .nil))))) (fun s7 => (jto_p (jt_cmp (d := ((dL dI) s7.2)) (d2 := ((dL dI) ([] : List Int))) (jn_v (i := 3) rfl) (JE.w (l2 := .full) (a2 := false) (v2 := false) (je_lst ja_nil)) (q_ne (ek_list ek_int) s7.2 ([] : List Int))))) (fun s7 => p_led_from_L1_ok x_beside s7.1 s7.2) (fun s7 =>
(js_last (js_retV (q := (fun r => r)) (er := (dL dI)) (x := s7.1) (m := .f) (i := 2) ret_R rfl md_f)))))))) h (Nat.le_of_ble_eq_true rfl)
theorem p_law_tie_ok (x_a : Int) (x_b : Int) (r : (Int × Int)) (h : p_law_tie x_a x_b = some r) : RetE (R_law_tie) [dI x_a, dI x_b] ((dT2 dI dI) r) .full false :=
  fn_ok (n := 2) (ds := [dI x_a, dI x_b]) (o := p_law_tie x_a x_b) (er := (dT2 dI dI)) (by
    unfold p_law_tie B_law_tie
    exact (js_last (js_ret (q := (fun r => r)) (er := (dT2 dI dI)) (x := ((minI x_a x_b), (maxI x_a x_b))) (l := .full) ret_R (JE.w (l2 := .full) (a2 := false) (v2 := false) (je_tup (ja_cons (je_biI (ja_cons (jn_i (i := 0) rfl rfl) (ja_cons (jn_i (i := 1) rfl rfl) ja_nil)) b_min (.inl rfl)) (ja_cons (je_biI (ja_cons (jn_i (i := 0) rfl rfl) (ja_cons (jn_i (i := 1) rfl rfl) ja_nil)) b_max (.inl rfl)) ja_nil))))))) h (Nat.le_of_ble_eq_true rfl)
theorem p_law_whole_ok (x_found : Int) (r : Bool) (h : p_law_whole x_found = some r) : RetE (R_law_whole) [dI x_found] (dB r) .full false :=
  fn_ok (n := 1) (ds := [dI x_found]) (o := p_law_whole x_found) (er := dB) (by
    unfold p_law_whole B_law_whole
    exact (js_last (js_ret (q := (fun r => r)) (er := dB) (x := (true && (!false))) (l := .full) ret_R (je_and (je_isi (d := (dI x_found)) (jn_i (i := 0) rfl rfl) rfl kb_int_int) (je_not (je_isi (d := (dI x_found)) (jn_i (i := 0) rfl rfl) rfl kb_int_bool)))))) h (Nat.le_of_ble_eq_true rfl)
abbrev K_law_order_L1 (x_script : List Int) : ((List Int)) → CS := fun s => [some ⟨(dF dI) x_script, .a, true⟩, none, some ⟨(dL dI) s, .f, false⟩, none, none]
theorem p_law_order_L1_ok (x_script : List Int) (x_k : Int) (x_order_here : List Int) : JS [some ⟨(dF dI) x_script, .a, true⟩, none, some ⟨(dL dI) x_order_here, .f, false⟩, some ⟨dI x_k, .s, false⟩, none] (FB_law_order_1) (p_law_order_L1 x_script x_k x_order_here) (ΨL (K_law_order_L1 x_script)) := by
  unfold p_law_order_L1 FB_law_order_1
  exact (js_bind fun v2 h2 =>
(js_set (fz := []) (e := dI) (je_modL (je_mulR (je_add (je_add (je_callI (ja_cons (jn_i (i := 0) rfl (immAll_map (fun _ => rfl) x_script)) (ja_cons (je_add (jn_i (i := 3) rfl rfl) jc) ja_nil)) (p_law_cell_at_ok x_script (x_k + (1 : Int)) v2 h2) rfl) (je_mulL jc (jn_i (i := 3) rfl rfl))) jc) jc) jc) rfl fun x_number =>
(js_last (js_bind fun v3 h3 =>
(js_ins (fz := [3]) (e := dI) rfl (je_modO (jn_i (i := 4) rfl rfl) (je_add (jn_i (i := 3) rfl rfl) jc) h3) (jn_i (i := 3) rfl rfl) rfl fun x_order_here_2 =>
(js_endL (s := x_order_here_2) (.so rfl rfl (.no (.so rfl rfl (.no (.no .nil)))))))))))
theorem p_law_order_ok (x_script : List Int) (x_many : Int) (r : (List Int)) (h : p_law_order x_script x_many = some r) : RetE (R_law_order) [(dF dI) x_script, dI x_many] ((dL dI) r) .full false :=
  fn_ok (n := 5) (ds := [(dF dI) x_script, dI x_many]) (o := p_law_order x_script x_many) (er := (dL dI)) (by
    unfold p_law_order B_law_order
    exact (js_set (fz := []) (e := (dL dI)) (JE.w (l2 := .full) (a2 := false) (v2 := false) (je_lst ja_nil)) rfl fun x_order_here =>
(js_bind fun v1 h1 =>
(js_for (fz := []) (e := dI) (C := K_law_order_L1 x_script) (jit_r1 (jn_i (i := 1) rfl rfl) h1) (.so rfl rfl (.no (.so rfl rfl (.no (.no .nil))))) (fun _ _ => rfl) (fun x4 s4 => p_law_order_L1_ok x_script x4 s4) (fun s4 =>
(js_last (js_retV (q := (fun r => r)) (er := (dL dI)) (x := s4) (m := .f) (i := 2) ret_R rfl md_f))))))) h (Nat.le_of_ble_eq_true rfl)
abbrev K_between_L1  : ((List (Int × (List Int)))) → CS := fun s => [none, none, some ⟨(dKI (dL dI)) s, .f, false⟩, none, none, none, none, none, none, none, none, none]
theorem p_between_L1_ok (x_a : Int) (x_b : Int) (x_beside : List (Int × (List Int))) : JS [none, none, some ⟨(dKI (dL dI)) x_beside, .f, false⟩, some ⟨dI x_a, .s, false⟩, some ⟨dI x_b, .s, false⟩, none, none, none, none, none, none, none] (FB_between_1) (p_between_L1 x_a x_b x_beside) (ΨL (K_between_L1 )) := by
  unfold p_between_L1 FB_between_1
  exact (js_sda (i := 2) (j := 4) (e := dI) rfl rfl (jn_i (i := 3) rfl rfl) rfl rfl fun x_beside_2 =>
(js_last (js_sda (i := 2) (j := 3) (e := dI) rfl rfl (jn_i (i := 4) rfl rfl) rfl rfl fun x_beside_3 =>
(js_endL (s := x_beside_3) (.no (.no (.so rfl rfl (.no (.no (.no (.no (.no (.no (.no (.no (.no .nil))))))))))))))))
abbrev K_between_L3 (x_beside : List (Int × (List Int))) (x_count : Int) (x_kind : SS) : ((List (SS × (List Int))) × (List Int)) → CS := fun s => [none, none, some ⟨(dKI (dL dI)) x_beside, .f, false⟩, none, none, some ⟨(dL (dT2 dSS (dL dI))) s.1, .f, false⟩, some ⟨(dL dI) s.2, .f, false⟩, some ⟨dI x_count, .a, true⟩, some ⟨dSS x_kind, .a, true⟩, none, none, none]
theorem p_between_L3_ok (x_beside : List (Int × (List Int))) (x_count : Int) (x_kind : SS) (x_start : Int) (x_found : List (SS × (List Int))) (x_seen : List Int) : JS [none, none, some ⟨(dKI (dL dI)) x_beside, .f, false⟩, none, none, some ⟨(dL (dT2 dSS (dL dI))) x_found, .f, false⟩, some ⟨(dL dI) x_seen, .f, false⟩, some ⟨dI x_count, .a, true⟩, some ⟨dSS x_kind, .a, true⟩, some ⟨dI x_start, .s, false⟩, none, none] (FB_between_2) (p_between_L3 x_beside x_count x_kind x_start x_found x_seen) (ΨL (K_between_L3 x_beside x_count x_kind)) := by
  unfold p_between_L3 FB_between_2
  exact (js_last (js_bind fun v9 h9 =>
(js_ifJ (C := fun (s11 : (List Int) × (List (SS × (List Int)))) => [none, none, some ⟨(dKI (dL dI)) x_beside, .f, false⟩, none, none, some ⟨(dL (dT2 dSS (dL dI))) s11.2, .f, false⟩, some ⟨(dL dI) s11.1, .f, false⟩, some ⟨dI x_count, .a, true⟩, some ⟨dSS x_kind, .a, true⟩, none, none, none]) (jt_andO (jt_cmp (d := (dI x_start)) (d2 := ((dL dI) x_seen)) (jn_i (i := 9) rfl rfl) (jn_v (i := 6) rfl) (q_ninL ek_int x_start x_seen)) (jto_b fun v8 h8 => (jto_p (jt_cmp (d := (dI (v8.length : Int))) (d2 := (dI x_count)) (je_len (je_ix (d := ((dKI (dL dI)) x_beside)) (d2 := (dI x_start)) (jn_v (i := 2) rfl) (jn_i (i := 9) rfl rfl) (x_KI (e := (dL dI)) h8)) (n_l _)) (jn_i (i := 7) rfl rfl) (q_eq ek_int (v8.length : Int) x_count)))) h9) (js_bind fun v10 h10 =>
(js_set (fz := []) (e := (dL dI)) (JE.w (l2 := .full) (a2 := false) (v2 := false) (je_call (ja_cons (jn_i (i := 9) rfl rfl) (ja_cons (jn_v (i := 2) rfl) ja_nil)) (p_led_from_ok x_start x_beside v10 h10))) rfl fun x_points =>
(js_ext (i := 6) (e := dI) rfl rfl (jn_v (i := 10) rfl) (fun _ => rfl) fun x_seen_2 =>
(js_last (js_appMv (e := dSS) (e2 := (dL dI)) (i := 5) (j := 10) rfl rfl (jn_i (i := 8) rfl rfl) rfl rfl rfl rfl rfl fun x_found_2 =>
(js_endJ (s := (x_seen_2, x_found_2)) (.no (.no (.so rfl rfl (.no (.no (.so rfl rfl (.so rfl rfl (.so rfl rfl (.so rfl rfl (.no (.no (.no .nil)))))))))))))))))) (js_endJ (s := (x_seen, x_found)) (.no (.no (.so rfl rfl (.no (.no (.so rfl rfl (.so rfl rfl (.so rfl rfl (.so rfl rfl (.no (.no (.no .nil))))))))))))) fun s11 =>
(js_endL (s := (s11.2, s11.1)) (.no (.no (.so rfl rfl (.no (.no (.so rfl rfl (.so rfl rfl (.so rfl rfl (.so rfl rfl (.no (.no (.no .nil))))))))))))))))
abbrev K_between_L2 (x_beside : List (Int × (List Int))) : ((List (SS × (List Int))) × (List Int)) → CS := fun s => [none, none, some ⟨(dKI (dL dI)) x_beside, .f, false⟩, none, none, some ⟨(dL (dT2 dSS (dL dI))) s.1, .f, false⟩, some ⟨(dL dI) s.2, .f, false⟩, none, none, none, none, none]
theorem p_between_L2_ok (x_beside : List (Int × (List Int))) (x_count : Int) (x_kind : SS) (x_found : List (SS × (List Int))) (x_seen : List Int) : JS [none, none, some ⟨(dKI (dL dI)) x_beside, .f, false⟩, none, none, some ⟨(dL (dT2 dSS (dL dI))) x_found, .f, false⟩, some ⟨(dL dI) x_seen, .f, false⟩, some ⟨dI x_count, .s, false⟩, some ⟨dSS x_kind, .s, false⟩, none, none, none] (FB_between_3) (p_between_L2 x_beside x_count x_kind x_found x_seen) (ΨL (K_between_L2 x_beside)) := by
  unfold p_between_L2 FB_between_3
  exact (js_last (js_bind fun v7 h7 =>
(js_for (fz := []) (e := dI) (C := K_between_L3 x_beside x_count x_kind) (jit_l (e := dI) (je_biI (ja_cons (jn_v (i := 2) rfl) ja_nil) (b_sortedK (e := (dL dI)) h7) (.inr ⟨whole_map (fun _ => rfl), rfl⟩))) (.no (.no (.so rfl rfl (.no (.no (.so rfl rfl (.so rfl rfl (.so rfl rfl (.so rfl rfl (.no (.no (.no .nil)))))))))))) (fun _ _ => rfl) (fun x12 s12 => p_between_L3_ok x_beside x_count x_kind x12 s12.1 s12.2) (fun s12 =>
(js_endL (s := (s12.1, s12.2)) (.no (.no (.so rfl rfl (.no (.no (.so rfl rfl (.so rfl rfl (.no (.no (.no (.no (.no .nil)))))))))))))))))
theorem p_between_ok (x_one : List (Int × Int)) (x_other : List (Int × Int)) (r : (List (SS × (List Int)))) (h : p_between x_one x_other = some r) : RetE (R_between) [(dL (dT2 dI dI)) x_one, (dL (dT2 dI dI)) x_other] ((dL (dT2 dSS (dL dI))) r) .full false :=
  fn_ok (n := 12) (ds := [(dL (dT2 dI dI)) x_one, (dL (dT2 dI dI)) x_other]) (o := p_between x_one x_other) (er := (dL (dT2 dSS (dL dI)))) (by
    unfold p_between B_between
    exact (js_set (fz := []) (e := (dKI (dL dI))) je_dk rfl fun x_beside =>
(js_bind fun v2 h2 =>
(js_bind fun v4 h4 =>
(js_bind fun v5 h5 =>
(js_for (fz := []) (e := (dT2 dI dI)) (C := K_between_L1) (jit_l (e := (dT2 dI dI)) (je_catI (e := (dT2 dI dI)) (JE.w (l2 := .full) (a2 := false) (v2 := false) (je_lcP (e := (dT2 dI dI)) (e2 := (dT2 dI dI)) (jit_lI (e := (dT2 dI dI)) (fun _ => rfl) (jn_s (i := 0) rfl)) (fun _ => rfl) (fun y1 => (jt_cmp (d := ((dT2 dI dI) y1)) (d2 := ((dL (dT2 dI dI)) x_other)) (jn_i (i := 11) rfl rfl) (jn_s (i := 1) rfl) (q_ninL (ek_t2 ek_int ek_int) y1 x_other))) (fun y1 => (jn_i (i := 11) rfl rfl)) h2)) (JE.w (l2 := .full) (a2 := false) (v2 := false) (je_lcP (e := (dT2 dI dI)) (e2 := (dT2 dI dI)) (jit_lI (e := (dT2 dI dI)) (fun _ => rfl) (jn_s (i := 1) rfl)) (fun _ => rfl) (fun y3 => (jt_cmp (d := ((dT2 dI dI) y3)) (d2 := ((dL (dT2 dI dI)) x_one)) (jn_i (i := 11) rfl rfl) (jn_s (i := 0) rfl) (q_ninL (ek_t2 ek_int ek_int) y3 x_one))) (fun y3 => (jn_i (i := 11) rfl rfl)) h4)) h5 (fun _ => rfl))) (.no (.no (.so rfl rfl (.no (.no (.no (.no (.no (.no (.no (.no (.no .nil)))))))))))) (fun _ _ => rfl) (fun x6 s6 => p_between_L1_ok x6.1 x6.2 s6) (fun s6 =>
(js_set (fz := []) (e := (dL (dT2 dSS (dL dI)))) (JE.w (l2 := .full) (a2 := false) (v2 := false) (je_lst ja_nil)) rfl fun x_found =>
(js_set (fz := []) (e := (dL dI)) (JE.w (l2 := .full) (a2 := false) (v2 := false) (je_lst ja_nil)) rfl fun x_seen =>
(js_for (fz := []) (e := (dT2 dI dSS)) (C := K_between_L2 s6) (jit_l (e := (dT2 dI dSS)) (JE.w (l2 := .full) (a2 := false) (v2 := false) (je_lst (ja_cons (JE.w (l2 := .full) (a2 := false) (v2 := false) (je_tup (ja_cons jc (ja_cons jc ja_nil)))) (ja_cons (JE.w (l2 := .full) (a2 := false) (v2 := false) (je_tup (ja_cons jc (ja_cons jc ja_nil)))) ja_nil))))) (.no (.no (.so rfl rfl (.no (.no (.so rfl rfl (.so rfl rfl (.no (.no (.no (.no (.no .nil)))))))))))) (fun _ _ => rfl) (fun x13 s13 => p_between_L2_ok s6 x13.1 x13.2 s13.1 s13.2) (fun s13 =>
(js_last (js_retV (q := (fun r => r)) (er := (dL (dT2 dSS (dL dI)))) (x := s13.1) (m := .f) (i := 5) ret_R rfl md_f))))))))))))) h (Nat.le_of_ble_eq_true rfl)
abbrev K_law_piece_L1 (x_piece_here : List Int) (x_kind : Int) : ((List (Int × Int)) × (List (Int × Int))) → CS := fun s => [some ⟨(dL (dT2 dI dI)) s.1, .p 0, true⟩, some ⟨(dL (dT2 dI dI)) s.2, .p 1, true⟩, some ⟨(dL dI) x_piece_here, .s, true⟩, some ⟨dI x_kind, .a, true⟩, none]
theorem p_law_piece_L1_ok (x_piece_here : List Int) (x_kind : Int) (x_k : Int) (x_one : List (Int × Int)) (x_other : List (Int × Int)) : JS [some ⟨(dL (dT2 dI dI)) x_one, .p 0, true⟩, some ⟨(dL (dT2 dI dI)) x_other, .p 1, true⟩, some ⟨(dL dI) x_piece_here, .s, true⟩, some ⟨dI x_kind, .a, true⟩, some ⟨dI x_k, .s, false⟩] (FB_law_piece_1) (p_law_piece_L1 x_piece_here x_kind x_k x_one x_other) (ΨL (K_law_piece_L1 x_piece_here x_kind)) := by
  unfold p_law_piece_L1 FB_law_piece_1
  exact (js_last (js_ifJ (C := fun (s14 : (List (Int × Int)) × (List (Int × Int))) => [some ⟨(dL (dT2 dI dI)) s14.1, .p 0, true⟩, some ⟨(dL (dT2 dI dI)) s14.2, .p 1, true⟩, some ⟨(dL dI) x_piece_here, .s, true⟩, some ⟨dI x_kind, .a, true⟩, none]) (jt_cmp (d := (dI ((x_k + x_kind) % (2 : Int)))) (d2 := (dI (0 : Int))) (je_modL (je_add (jn_i (i := 4) rfl rfl) (jn_i (i := 3) rfl rfl)) jc) jc (q_eq ek_int ((x_k + x_kind) % (2 : Int)) (0 : Int))) (js_last (js_bind fun v8 h8 =>
(js_bind fun v9 h9 =>
(js_bind fun v10 h10 =>
(js_app (fz := []) (e := (dT2 dI dI)) rfl (je_callI (ja_cons (je_ixI (d := ((dL dI) x_piece_here)) (d2 := (dI x_k)) (jn_s (i := 2) rfl) (jn_i (i := 4) rfl rfl) (x_l (e := dI) h8) rfl) (ja_cons (je_ixI (d := ((dL dI) x_piece_here)) (d2 := (dI (x_k + (1 : Int)))) (jn_s (i := 2) rfl) (je_add (jn_i (i := 4) rfl rfl) jc) (x_l (e := dI) h9) rfl) ja_nil)) (p_law_tie_ok v8 v9 v10 h10) rfl) rfl fun x_one_2 =>
(js_endJ (s := (x_one_2, x_other)) (.so rfl rfl (.so rfl rfl (.so rfl rfl (.so rfl rfl (.no .nil))))))))))) (js_last (js_bind fun v11 h11 =>
(js_bind fun v12 h12 =>
(js_bind fun v13 h13 =>
(js_app (fz := []) (e := (dT2 dI dI)) rfl (je_callI (ja_cons (je_ixI (d := ((dL dI) x_piece_here)) (d2 := (dI x_k)) (jn_s (i := 2) rfl) (jn_i (i := 4) rfl rfl) (x_l (e := dI) h11) rfl) (ja_cons (je_ixI (d := ((dL dI) x_piece_here)) (d2 := (dI (x_k + (1 : Int)))) (jn_s (i := 2) rfl) (je_add (jn_i (i := 4) rfl rfl) jc) (x_l (e := dI) h12) rfl) ja_nil)) (p_law_tie_ok v11 v12 v13 h13) rfl) rfl fun x_other_2 =>
(js_endJ (s := (x_one, x_other_2)) (.so rfl rfl (.so rfl rfl (.so rfl rfl (.so rfl rfl (.no .nil))))))))))) fun s14 =>
(js_endL (s := (s14.1, s14.2)) (.so rfl rfl (.so rfl rfl (.so rfl rfl (.so rfl rfl (.no .nil))))))))
theorem p_law_piece_ok (x_one : List (Int × Int)) (x_other : List (Int × Int)) (x_piece_here : List Int) (x_kind : Int) (r : (List (Int × Int)) × (List (Int × Int))) (h : p_law_piece x_one x_other x_piece_here x_kind = some r) : RetME (R_law_piece) [(dL (dT2 dI dI)) x_one, (dL (dT2 dI dI)) x_other, (dL dI) x_piece_here, dI x_kind] ((fun (r : (List (Int × Int)) × (List (Int × Int))) => [some ((dL (dT2 dI dI)) r.1), some ((dL (dT2 dI dI)) r.2), none, none]) r) .non .shr true :=
  fn_okMN (n := 5) (ms := [true, true, false, false]) (bs := [true, true, false, false]) (ds := [(dL (dT2 dI dI)) x_one, (dL (dT2 dI dI)) x_other, (dL dI) x_piece_here, dI x_kind]) (o := p_law_piece x_one x_other x_piece_here x_kind) (bk := (fun (r : (List (Int × Int)) × (List (Int × Int))) => [some ((dL (dT2 dI dI)) r.1), some ((dL (dT2 dI dI)) r.2), none, none])) (by
    unfold p_law_piece B_law_piece
    exact (js_if (jt_or (jt_cmp (d := (dI x_kind)) (d2 := (dI (4 : Int))) (jn_i (i := 3) rfl rfl) jc (q_eq ek_int x_kind (4 : Int))) (jt_cmp (d := (dI (x_piece_here.length : Int))) (d2 := (dI (2 : Int))) (je_len (jn_s (i := 2) rfl) (n_l _)) jc q_ltI)) (js_ret0M (lr := .full) (ra := true) (q := (fun r => r)) (er := (fun (_ : (List (Int × Int)) × (List (Int × Int))) => D.non)) (x := (x_one, x_other)) ret_M rfl (hP := bk_ok rfl)) (js_nil (js_if (jt_cmp (d := (dI x_kind)) (d2 := (dI (3 : Int))) (jn_i (i := 3) rfl rfl) jc (q_eq ek_int x_kind (3 : Int))) (js_assoc (js_bind fun v1 h1 =>
(js_bind fun v2 h2 =>
(js_bind fun v3 h3 =>
(js_app (fz := []) (e := (dT2 dI dI)) rfl (je_callI (ja_cons (je_ixI (d := ((dL dI) x_piece_here)) (d2 := (dI (0 : Int))) (jn_s (i := 2) rfl) jc (x_l (e := dI) h1) rfl) (ja_cons (je_ixI (d := ((dL dI) x_piece_here)) (d2 := (dI (1 : Int))) (jn_s (i := 2) rfl) jc (x_l (e := dI) h2) rfl) ja_nil)) (p_law_tie_ok v1 v2 v3 h3) rfl) rfl fun x_one_2 =>
(js_assoc (js_bind fun v4 h4 =>
(js_bind fun v5 h5 =>
(js_bind fun v6 h6 =>
(js_app (fz := []) (e := (dT2 dI dI)) rfl (je_callI (ja_cons (je_ixI (d := ((dL dI) x_piece_here)) (d2 := (dI (0 : Int))) (jn_s (i := 2) rfl) jc (x_l (e := dI) h4) rfl) (ja_cons (je_ixI (d := ((dL dI) x_piece_here)) (d2 := (dI (1 : Int))) (jn_s (i := 2) rfl) jc (x_l (e := dI) h5) rfl) ja_nil)) (p_law_tie_ok v4 v5 v6 h6) rfl) rfl fun x_other_2 =>
(js_ret0M (lr := .full) (ra := true) (q := (fun r => r)) (er := (fun (_ : (List (Int × Int)) × (List (Int × Int))) => D.non)) (x := (x_one_2, x_other_2)) ret_M rfl (hP := bk_ok rfl)))))))))))) (js_nil (js_bind fun v7 h7 =>
(js_for (fz := []) (e := dI) (C := K_law_piece_L1 x_piece_here x_kind) (jit_r1 (je_sub (je_len (jn_s (i := 2) rfl) (n_l _)) jc) h7) (.so rfl rfl (.so rfl rfl (.so rfl rfl (.so rfl rfl (.no .nil))))) (fun _ _ => rfl) (fun x15 s15 => p_law_piece_L1_ok x_piece_here x_kind x15 s15.1 s15.2) (fun s15 =>
(js_last (js_if (jt_and (jt_cmp (d := (dI x_kind)) (d2 := (dI (2 : Int))) (jn_i (i := 3) rfl rfl) jc (q_eq ek_int x_kind (2 : Int))) (jt_and (jt_cmp (d := (dI ((x_piece_here.length : Int) % (2 : Int)))) (d2 := (dI (0 : Int))) (je_modL (je_len (jn_s (i := 2) rfl) (n_l _)) jc) jc (q_eq ek_int ((x_piece_here.length : Int) % (2 : Int)) (0 : Int))) (jt_cmp (d := (dI (x_piece_here.length : Int))) (d2 := (dI (2 : Int))) (je_len (jn_s (i := 2) rfl) (n_l _)) jc q_gtI))) (js_bind fun v16 h16 =>
(js_bind fun v17 h17 =>
(js_bind fun v18 h18 =>
(js_app (fz := []) (e := (dT2 dI dI)) rfl (je_callI (ja_cons (je_ixI (d := ((dL dI) x_piece_here)) (d2 := (dI (0 : Int))) (jn_s (i := 2) rfl) jc (x_l (e := dI) h16) rfl) (ja_cons (je_ixI (d := ((dL dI) x_piece_here)) (d2 := (dI (-(1 : Int)))) (jn_s (i := 2) rfl) (je_neg jc) (x_l (e := dI) h17) rfl) ja_nil)) (p_law_tie_ok v16 v17 v18 h18) rfl) rfl fun x_other_3 =>
(js_endM (x := (s15.1, x_other_3)) (bk_ok rfl)))))) (js_nil (js_endM (x := (s15.1, s15.2)) (bk_ok rfl))))))))))))) h
theorem p_law_along_ok (x_told : SS × (List Int)) (r : (Option (List (Int × Int)))) (h : p_law_along x_told = some r) : RetE (R_law_along) [(dT2 dSS (dL dI)) x_told] ((dO (dL (dT2 dI dI))) r) .full false :=
  fn_ok (n := 5) (ds := [(dT2 dSS (dL dI)) x_told]) (o := p_law_along x_told) (er := (dO (dL (dT2 dI dI)))) (by
    unfold p_law_along B_law_along
    exact (js_if (jt_or (jt_not (jt_val (je_isi (d := ((dT2 dSS (dL dI)) x_told)) (jn_s (i := 0) rfl) rfl kb_tuple_tuple))) (jt_or (jt_cmp (d := (dI (2 : Int))) (d2 := (dI (2 : Int))) (je_len (n := 2) (d := ((dT2 dSS (dL dI)) x_told)) (jn_s (i := 0) rfl) (n_t rfl)) jc (q_ne ek_int (2 : Int) (2 : Int))) (jt_cmp (d := (dSS x_told.1)) (d2 := ((dL dSS) ([(mkS "row" (by decide +kernel)), (mkS "ring" (by decide +kernel))]))) (je_ixI (d' := dSS x_told.1) (jn_s (i := 0) rfl) jc rfl rfl) (JE.w (l2 := .full) (a2 := false) (v2 := false) (je_lst (ja_cons jc (ja_cons jc ja_nil)))) (q_ninL ek_str x_told.1 ([(mkS "row" (by decide +kernel)), (mkS "ring" (by decide +kernel))]))))) (js_ret (q := (fun r => r)) (er := (dO (dL (dT2 dI dI)))) (x := (none : Option (List (Int × Int)))) (l := .full) ret_R (jn_none (dL (dT2 dI dI)) jc)) (js_nil (js_set (fz := []) (e := (dL dI)) (je_ix (d' := (dL dI) x_told.2) (jn_s (i := 0) rfl) jc rfl) rfl fun x_points =>
(js_bind fun v5 h5 =>
(js_if (jt_orO (jt_not (jt_val (je_isi (d := ((dL dI) x_points)) (jn_v (i := 1) rfl) rfl kb_list_list))) (jto_b fun v4 h4 => (jto_p (jt_orO (jt_cmp (d := (dI (x_points.length : Int))) (d2 := (dI (2 : Int))) (je_len (jn_v (i := 1) rfl) (n_l _)) jc q_ltI) (jto_b fun v3 h3 => (jto_p (jt_not (jt_val (je_biI (ja_cons (JE.w (l2 := .full) (a2 := false) (v2 := false) (je_lcM (e := dI) (e2 := dB) (jit_lI (e := dI) (fun _ => rfl) (jn_v (i := 1) rfl)) (fun _ => rfl) (fun y1 => (jto_p jt_yes)) (fun y1 => (jeo_b fun v2 h2 => (jeo_p (je_callI (ja_cons (jn_i (i := 3) rfl rfl) ja_nil) (p_law_whole_ok y1 v2 h2) rfl)))) h3)) ja_nil) (b_all _) (.inl rfl)))))) h4))) h5) (js_ret (q := (fun r => r)) (er := (dO (dL (dT2 dI dI)))) (x := (none : Option (List (Int × Int)))) (l := .full) ret_R (jn_none (dL (dT2 dI dI)) jc)) (js_nil (js_bind fun v6 h6 =>
(js_bind fun v11 h11 =>
(js_set (fz := []) (e := (dL (dT2 dI dI))) (JE.w (l2 := .full) (a2 := false) (v2 := false) (je_lcM (e := dI) (e2 := (dT2 dI dI)) (jit_r1 (je_sub (je_len (jn_v (i := 1) rfl) (n_l _)) jc) h6) (fun _ => rfl) (fun y7 => (jto_p jt_yes)) (fun y7 => (jeo_b fun v8 h8 => (jeo_b fun v9 h9 => (jeo_b fun v10 h10 => (jeo_p (je_callI (ja_cons (je_ixI (d := ((dL dI) x_points)) (d2 := (dI y7)) (jn_v (i := 1) rfl) (jn_i (i := 4) rfl rfl) (x_l (e := dI) h8) rfl) (ja_cons (je_ixI (d := ((dL dI) x_points)) (d2 := (dI (y7 + (1 : Int)))) (jn_v (i := 1) rfl) (je_add (jn_i (i := 4) rfl rfl) jc) (x_l (e := dI) h9) rfl) ja_nil)) (p_law_tie_ok v8 v9 v10 h10) rfl)))))) h11)) rfl fun x_ties =>
(js_if (jt_cmp (d := (dSS x_told.1)) (d2 := (dSS (mkS "ring" (by decide +kernel)))) (je_ixI (d' := dSS x_told.1) (jn_s (i := 0) rfl) jc rfl rfl) jc (q_eq ek_str x_told.1 (mkS "ring" (by decide +kernel)))) (js_assoc (js_if (jt_cmp (d := (dI (x_points.length : Int))) (d2 := (dI (4 : Int))) (je_len (jn_v (i := 1) rfl) (n_l _)) jc q_ltI) (js_ret (q := (fun r => r)) (er := (dO (dL (dT2 dI dI)))) (x := (none : Option (List (Int × Int)))) (l := .full) ret_R (jn_none (dL (dT2 dI dI)) jc)) (js_nil (js_bind fun v12 h12 =>
(js_bind fun v13 h13 =>
(js_bind fun v14 h14 =>
(js_app (fz := []) (e := (dT2 dI dI)) rfl (je_callI (ja_cons (je_ixI (d := ((dL dI) x_points)) (d2 := (dI (0 : Int))) (jn_v (i := 1) rfl) jc (x_l (e := dI) h12) rfl) (ja_cons (je_ixI (d := ((dL dI) x_points)) (d2 := (dI (-(1 : Int)))) (jn_v (i := 1) rfl) (je_neg jc) (x_l (e := dI) h13) rfl) ja_nil)) (p_law_tie_ok v12 v13 v14 h14) rfl) rfl fun x_ties_2 =>
(js_last (js_retV (q := (fun r => r)) (er := (dO (dL (dT2 dI dI)))) (x := (some x_ties_2)) (m := .f) (i := 2) ret_R rfl md_f))))))))) (js_nil (js_last (js_retV (q := (fun r => r)) (er := (dO (dL (dT2 dI dI)))) (x := (some x_ties)) (m := .f) (i := 2) ret_R rfl md_f)))))))))))))) h (Nat.le_of_ble_eq_true rfl)
abbrev K_law_two_L1 (x_script : List Int) (x_order_here : List Int) : ((List (Int × Int)) × (List (Int × Int)) × Int × Int) → CS := fun s => [some ⟨(dF dI) x_script, .a, true⟩, some ⟨(dL dI) x_order_here, .s, true⟩, some ⟨(dL (dT2 dI dI)) s.1, .f, false⟩, some ⟨(dL (dT2 dI dI)) s.2.1, .f, false⟩, some ⟨dI s.2.2.1, .a, true⟩, some ⟨dI s.2.2.2, .a, true⟩, none, none]
theorem p_law_two_L1_ok (x_script : List Int) (x_order_here : List Int) (x_one : List (Int × Int)) (x_other : List (Int × Int)) (x_at : Int) (x_k : Int) : JS [some ⟨(dF dI) x_script, .a, true⟩, some ⟨(dL dI) x_order_here, .s, true⟩, some ⟨(dL (dT2 dI dI)) x_one, .f, false⟩, some ⟨(dL (dT2 dI dI)) x_other, .f, false⟩, some ⟨dI x_at, .a, true⟩, some ⟨dI x_k, .a, true⟩, none, none] (WB_law_two_1) (p_law_two_L1 x_script x_order_here x_one x_other x_at x_k) (ΨL (K_law_two_L1 x_script x_order_here)) := by
  unfold p_law_two_L1 WB_law_two_1
  exact (js_bind fun v1 h1 =>
(js_set (fz := []) (e := dI) (je_modL (je_mulR (je_add (je_callI (ja_cons (jn_i (i := 0) rfl (immAll_map (fun _ => rfl) x_script)) (ja_cons (jn_i (i := 5) rfl rfl) ja_nil)) (p_law_cell_at_ok x_script x_k v1 h1) rfl) (je_mulL jc (jn_i (i := 5) rfl rfl))) jc) jc) rfl fun x_number =>
(js_bind fun v2 h2 =>
(js_bind fun v3 h3 =>
(js_set (fz := []) (e := dI) (je_add jc (je_modO (je_divL (jn_i (i := 6) rfl rfl) jc) (je_ixI (d := ((dL dI) ([(5 : Int), (24 : Int)]))) (d2 := (dI ((x_number / (120 : Int)) % (2 : Int)))) (JE.w (l2 := .full) (a2 := false) (v2 := false) (je_lst (ja_cons jc (ja_cons jc ja_nil)))) (je_modL (je_divL (jn_i (i := 6) rfl rfl) jc) jc) (x_l (e := dI) h2) rfl) h3)) rfl fun x_size =>
(js_bind fun v4 h4 =>
(js_exprX (jx_call (jm_slot (j := 2) rfl rfl (jm_slot (j := 3) rfl rfl (jm_val (je_slLI (e := dI) (jn_s (i := 1) rfl) (jo_s (jn_i (i := 4) rfl rfl)) (jo_s (je_add (jn_i (i := 4) rfl rfl) (jn_i (i := 7) rfl rfl))) (fun _ => rfl)) (jm_val (je_modL (jn_i (i := 6) rfl rfl) jc) jm_nil)))) (OkC.sl rfl rfl rfl (OkC.sl rfl rfl rfl (OkC.sh (OkC.sh OkC.nil)))) (p_law_piece_ok x_one x_other (cutL x_order_here (some x_at) (some (x_at + x_size))) (x_number % (5 : Int)) v4 h4)) (js_set (fz := []) (e := dI) (je_add (jn_i (i := 4) rfl rfl) (jn_i (i := 7) rfl rfl)) rfl fun x_at_2 =>
(js_last (js_set (fz := []) (e := dI) (je_add (jn_i (i := 5) rfl rfl) jc) rfl fun x_k_2 =>
(js_endL (s := (v4.1, v4.2, x_at_2, x_k_2)) (.so rfl rfl (.so rfl rfl (.so rfl rfl (.so rfl rfl (.so rfl rfl (.so rfl rfl (.no (.no .nil)))))))))))))))))))
theorem p_law_two_ok (x_script : List Int) (x_order_here : List Int) (r : ((List (Int × Int)) × (List (Int × Int)))) (h : p_law_two x_script x_order_here = some r) : RetE (R_law_two) [(dF dI) x_script, (dL dI) x_order_here] ((dT2 (dL (dT2 dI dI)) (dL (dT2 dI dI))) r) .full false :=
  fn_ok (n := 8) (ds := [(dF dI) x_script, (dL dI) x_order_here]) (o := p_law_two x_script x_order_here) (er := (dT2 (dL (dT2 dI dI)) (dL (dT2 dI dI)))) (by
    unfold p_law_two B_law_two
    exact (js_set (fz := []) (e := (dL (dT2 dI dI))) (JE.w (l2 := .full) (a2 := false) (v2 := false) (je_lst ja_nil)) rfl fun x_one =>
(js_set (fz := []) (e := (dL (dT2 dI dI))) (JE.w (l2 := .full) (a2 := false) (v2 := false) (je_lst ja_nil)) rfl fun x_other =>
(js_set (fz := []) (e := dI) jc rfl fun x_at =>
(js_set (fz := []) (e := dI) jc rfl fun x_k =>
(js_while (C := K_law_two_L1 x_script x_order_here) (.so rfl rfl (.so rfl rfl (.so rfl rfl (.so rfl rfl (.so rfl rfl (.so rfl rfl (.no (.no .nil)))))))) (fun s5 => (jto_p (jt_cmp (d := (dI s5.2.2.1)) (d2 := (dI (x_order_here.length : Int))) (jn_i (i := 4) rfl rfl) (je_len (jn_s (i := 1) rfl) (n_l _)) q_ltI))) (fun s5 => p_law_two_L1_ok x_script x_order_here s5.1 s5.2.1 s5.2.2.1 s5.2.2.2) (fun s5 =>
(js_last (js_ret (q := (fun r => r)) (er := (dT2 (dL (dT2 dI dI)) (dL (dT2 dI dI)))) (x := ((sort2 s5.1), (sort2 s5.2.1))) (l := .full) ret_R (JE.w (l2 := .full) (a2 := false) (v2 := false) (je_tup (ja_cons (je_biI (ja_cons (jn_v (i := 2) rfl) ja_nil) (b_sorted2 _) (.inr ⟨whole_map (fun _ => rfl), rfl⟩)) (ja_cons (je_biI (ja_cons (jn_v (i := 3) rfl) ja_nil) (b_sorted2 _) (.inr ⟨whole_map (fun _ => rfl), rfl⟩)) ja_nil))))))))))))) h (Nat.le_of_ble_eq_true rfl)
abbrev K_law_right_L1 (x_one : List (Int × Int)) (x_other : List (Int × Int)) : ((List Int) × (List (Int × Int))) → CS := fun s => [none, some ⟨(dL (dT2 dI dI)) x_one, .s, true⟩, some ⟨(dL (dT2 dI dI)) x_other, .s, true⟩, some ⟨(dL dI) s.1, .f, false⟩, some ⟨(dL (dT2 dI dI)) s.2, .f, false⟩, none, none, none, none]
theorem p_law_right_L1_ok (x_one : List (Int × Int)) (x_other : List (Int × Int)) (x_told : SS × (List Int)) (x_points : List Int) (x_ties : List (Int × Int)) : JS [none, some ⟨(dL (dT2 dI dI)) x_one, .s, true⟩, some ⟨(dL (dT2 dI dI)) x_other, .s, true⟩, some ⟨(dL dI) x_points, .f, false⟩, some ⟨(dL (dT2 dI dI)) x_ties, .f, false⟩, some ⟨(dT2 dSS (dL dI)) x_told, .s, true⟩, none, none, none] (FB_law_right_1) (p_law_right_L1 x_told x_points x_ties) (ΨC (K_law_right_L1 x_one x_other) dB .full false) := by
  unfold p_law_right_L1 FB_law_right_1
  exact (js_bind fun v1 h1 =>
(js_set (fz := []) (e := (dO (dL (dT2 dI dI)))) (JE.w (l2 := .full) (a2 := false) (v2 := false) (je_call (ja_cons (jn_s (i := 5) rfl) ja_nil) (p_law_along_ok x_told v1 h1))) rfl fun x_along_here =>
(js_if (jt_cmp (d := ((dO (dL (dT2 dI dI))) x_along_here)) (d2 := .non) (jn_v (i := 6) rfl) jc (q_is (e := (dL (dT2 dI dI))) (fun _ => rfl) _)) (js_ret (q := (fun r => Ctl.rt r)) (er := dB) (x := false) (l := .full) ret_C jc) (js_nil (js_bind fun v2 h2 =>
(js_set (fz := []) (e := (dL dI)) (je_catI (e := dI) (jn_v (i := 3) rfl) (je_ix (d' := (dL dI) x_told.2) (jn_s (i := 5) rfl) jc rfl) h2 (fun _ => rfl)) rfl fun x_points_2 =>
(js_last (js_bind fun v3 h3 =>
(js_bind fun v4 h4 =>
(js_set (fz := []) (e := (dL (dT2 dI dI))) (je_catI (e := (dT2 dI dI)) (jn_v (i := 4) rfl) (jn_o (e := (dL (dT2 dI dI))) (jn_v (i := 6) rfl) h3) h4 (fun _ => rfl)) rfl fun x_ties_2 =>
(js_endC (s := (x_points_2, x_ties_2)) (.no (.so rfl rfl (.so rfl rfl (.so rfl rfl (.so rfl rfl (.no (.no (.no (.no .nil))))))))))))))))))))
theorem p_law_right_ok (x_found : List (SS × (List Int))) (x_one : List (Int × Int)) (x_other : List (Int × Int)) (r : Bool) (h : p_law_right x_found x_one x_other = some r) : RetE (R_law_right) [(dL (dT2 dSS (dL dI))) x_found, (dL (dT2 dI dI)) x_one, (dL (dT2 dI dI)) x_other] (dB r) .full false :=
  fn_ok (n := 9) (ds := [(dL (dT2 dSS (dL dI))) x_found, (dL (dT2 dI dI)) x_one, (dL (dT2 dI dI)) x_other]) (o := p_law_right x_found x_one x_other) (er := dB) (by
    unfold p_law_right B_law_right
    exact (js_if (jt_not (jt_val (je_isi (d := ((dL (dT2 dSS (dL dI))) x_found)) (jn_s (i := 0) rfl) rfl kb_list_list))) (js_ret (q := (fun r => r)) (er := dB) (x := false) (l := .full) ret_R jc) (js_nil (js_set (fz := []) (e := (dL dI)) (JE.w (l2 := .full) (a2 := false) (v2 := false) (je_lst ja_nil)) rfl fun x_points =>
(js_set (fz := []) (e := (dL (dT2 dI dI))) (JE.w (l2 := .full) (a2 := false) (v2 := false) (je_lst ja_nil)) rfl fun x_ties =>
(js_forC (fz := []) (e := (dT2 dSS (dL dI))) (C := K_law_right_L1 x_one x_other) (er := dB) (lr := .full) (ra := false) (q := (fun r => r)) ret_R (jit_l (e := (dT2 dSS (dL dI))) (jn_s (i := 0) rfl)) (.no (.so rfl rfl (.so rfl rfl (.so rfl rfl (.so rfl rfl (.no (.no (.no (.no .nil))))))))) (fun _ _ => rfl) (fun x5 s5 => p_law_right_L1_ok x_one x_other x5 s5.1 s5.2) (fun s5 =>
(js_bind fun v7 h7 =>
(js_bind fun v9 h9 =>
(js_bind fun v10 h10 =>
(js_set (fz := []) (e := (dL (dT2 dI dI))) (je_catI (e := (dT2 dI dI)) (JE.w (l2 := .full) (a2 := false) (v2 := false) (je_lcP (e := (dT2 dI dI)) (e2 := (dT2 dI dI)) (jit_lI (e := (dT2 dI dI)) (fun _ => rfl) (jn_s (i := 1) rfl)) (fun _ => rfl) (fun y6 => (jt_cmp (d := ((dT2 dI dI) y6)) (d2 := ((dL (dT2 dI dI)) x_other)) (jn_i (i := 8) rfl rfl) (jn_s (i := 2) rfl) (q_ninL (ek_t2 ek_int ek_int) y6 x_other))) (fun y6 => (jn_i (i := 8) rfl rfl)) h7)) (JE.w (l2 := .full) (a2 := false) (v2 := false) (je_lcP (e := (dT2 dI dI)) (e2 := (dT2 dI dI)) (jit_lI (e := (dT2 dI dI)) (fun _ => rfl) (jn_s (i := 2) rfl)) (fun _ => rfl) (fun y8 => (jt_cmp (d := ((dT2 dI dI) y8)) (d2 := ((dL (dT2 dI dI)) x_one)) (jn_i (i := 8) rfl rfl) (jn_s (i := 1) rfl) (q_ninL (ek_t2 ek_int ek_int) y8 x_one))) (fun y8 => (jn_i (i := 8) rfl rfl)) h9)) h10 (fun _ => rfl)) rfl fun x_due =>
(js_last (js_bind fun v11 h11 =>
(js_ret (q := (fun r => r)) (er := dB) (x := (decide (v11 = (s5.1.length : Int)) && decide ((sort2 s5.2) = (sort2 x_due)))) (l := .full) ret_R (je_and (je_cmp (d := (dI v11)) (d2 := (dI (s5.1.length : Int))) (je_biI (ja_cons (jn_v (i := 3) rfl) ja_nil) (b_lenSet h11) (.inl rfl)) (je_len (jn_v (i := 3) rfl) (n_l _)) (q_eq ek_int v11 (s5.1.length : Int))) (je_cmp (d := ((dL (dT2 dI dI)) (sort2 s5.2))) (d2 := ((dL (dT2 dI dI)) (sort2 x_due))) (je_biI (ja_cons (jn_v (i := 4) rfl) ja_nil) (b_sorted2 _) (.inr ⟨whole_map (fun _ => rfl), rfl⟩)) (je_biI (ja_cons (jn_v (i := 7) rfl) ja_nil) (b_sorted2 _) (.inr ⟨whole_map (fun _ => rfl), rfl⟩)) (q_eq (ek_list (ek_t2 ek_int ek_int)) (sort2 s5.2) (sort2 x_due)))))))))))))))))) h (Nat.le_of_ble_eq_true rfl)
theorem p_law_ok (x_script : List Int) (r : Bool) (h : p_law x_script = some r) : RetE (R_law) [(dF dI) x_script] (dB r) .full false :=
  fn_ok (n := 8) (ds := [(dF dI) x_script]) (o := p_law x_script) (er := dB) (by
    unfold p_law B_law
    exact (js_bind fun v1 h1 =>
(js_set (fz := []) (e := dI) (je_modL (je_mulR (je_add (je_callI (ja_cons (jn_i (i := 0) rfl (immAll_map (fun _ => rfl) x_script)) (ja_cons jc ja_nil)) (p_law_cell_at_ok x_script (0 : Int) v1 h1) rfl) jc) jc) jc) rfl fun x_head =>
(js_set (fz := []) (e := dI) (je_add jc (je_modL (jn_i (i := 1) rfl rfl) jc)) rfl fun x_many =>
(js_ifJ (C := fun (s2 : Int) => [some ⟨(dF dI) x_script, .a, true⟩, none, some ⟨dI s2, .a, true⟩, none, none, none, none, none]) (jt_cmp (d := (dI ((x_head / (12 : Int)) % (7 : Int)))) (d2 := (dI (3 : Int))) (je_modL (je_divL (jn_i (i := 1) rfl rfl) jc) jc) jc (q_eq ek_int ((x_head / (12 : Int)) % (7 : Int)) (3 : Int))) (js_last (js_set (fz := []) (e := dI) (je_add jc (je_modL (je_divL (jn_i (i := 1) rfl rfl) jc) jc)) rfl fun x_many_2 =>
(js_endJ (s := x_many_2) (.so rfl rfl (.no (.so rfl rfl (.no (.no (.no (.no (.no .nil))))))))))) (js_endJ (s := x_many) (.so rfl rfl (.no (.so rfl rfl (.no (.no (.no (.no (.no .nil))))))))) fun s2 =>
(js_bind fun v3 h3 =>
(js_bind fun v4 h4 =>
(js_asg (fz := []) (e := (dT2 (dL (dT2 dI dI)) (dL (dT2 dI dI)))) (JE.w (l2 := .full) (a2 := false) (v2 := false) (je_call (ja_cons (jn_i (i := 0) rfl (immAll_map (fun _ => rfl) x_script)) (ja_cons (JE.w (l2 := .full) (a2 := false) (v2 := false) (je_call (ja_cons (jn_i (i := 0) rfl (immAll_map (fun _ => rfl) x_script)) (ja_cons (jn_i (i := 2) rfl rfl) ja_nil)) (p_law_order_ok x_script s2 v3 h3))) ja_nil)) (p_law_two_ok x_script v3 v4 h4))) (fun _ => rfl) fun q5 =>
(js_set (fz := []) (e := (dL (dL (dT2 dI dI)))) (JE.w (l2 := .full) (a2 := false) (v2 := false) (je_lst (ja_cons (je_biI (ja_cons (jn_s (i := 3) rfl) ja_nil) (b_list (e := (dT2 dI dI)) _) (.inr ⟨whole_map (fun _ => rfl), rfl⟩)) (ja_cons (je_biI (ja_cons (jn_s (i := 4) rfl) ja_nil) (b_list (e := (dT2 dI dI)) _) (.inr ⟨whole_map (fun _ => rfl), rfl⟩)) ja_nil)))) rfl fun x_handed =>
(js_bind fun v6 h6 =>
(js_bind fun v7 h7 =>
(js_bind fun v8 h8 =>
(js_set (fz := []) (e := (dL (dT2 dSS (dL dI)))) (JE.w (l2 := .full) (a2 := false) (v2 := false) (je_call (ja_cons (je_ix (d := ((dL (dL (dT2 dI dI))) x_handed)) (d2 := (dI (0 : Int))) (jn_v (i := 5) rfl) jc (x_l (e := (dL (dT2 dI dI))) h6)) (ja_cons (je_ix (d := ((dL (dL (dT2 dI dI))) x_handed)) (d2 := (dI (1 : Int))) (jn_v (i := 5) rfl) jc (x_l (e := (dL (dT2 dI dI))) h7)) ja_nil)) (p_between_ok v6 v7 v8 h8))) rfl fun x_found =>
(js_bind fun v9 h9 =>
(js_bind fun v13 h13 =>
(js_if (jt_orO (jt_not (jt_val (je_callI (ja_cons (jn_v (i := 6) rfl) (ja_cons (jn_s (i := 3) rfl) (ja_cons (jn_s (i := 4) rfl) ja_nil))) (p_law_right_ok x_found q5.1 q5.2 v9 h9) rfl))) (jto_b fun v10 h10 => (jto_b fun v11 h11 => (jto_b fun v12 h12 => (jto_p (jt_cmp (d := ((dL (dT2 dSS (dL dI))) v12)) (d2 := ((dL (dT2 dSS (dL dI))) ([] : List (SS × (List Int))))) (JE.w (l2 := .full) (a2 := false) (v2 := false) (je_call (ja_cons (je_ix (d := ((dL (dL (dT2 dI dI))) x_handed)) (d2 := (dI (0 : Int))) (jn_v (i := 5) rfl) jc (x_l (e := (dL (dT2 dI dI))) h10)) (ja_cons (je_ix (d := ((dL (dL (dT2 dI dI))) x_handed)) (d2 := (dI (0 : Int))) (jn_v (i := 5) rfl) jc (x_l (e := (dL (dT2 dI dI))) h11)) ja_nil)) (p_between_ok v10 v11 v12 h12))) (JE.w (l2 := .full) (a2 := false) (v2 := false) (je_lst ja_nil)) (q_ne (ek_list (ek_t2 ek_str (ek_list ek_int))) v12 ([] : List (SS × (List Int))))))))) h13) (js_ret (q := (fun r => r)) (er := dB) (x := false) (l := .full) ret_R jc) (js_nil (js_forClr (e := dSS) (e2 := dI) (j := 6) (i := 7) rfl rfl rfl rfl fun x_found_2 =>
(js_appD (e := (dT2 dSS (dL dI))) (d := .non) (i := 6) rfl jc rfl
(js_bind fun v14 h14 =>
(js_bind fun v15 h15 =>
(js_bind fun v16 h16 =>
(js_bind fun v17 h17 =>
(js_if (jt_not (jt_val (je_callI (ja_cons (JE.w (l2 := .full) (a2 := false) (v2 := false) (je_call (ja_cons (je_ix (d := ((dL (dL (dT2 dI dI))) x_handed)) (d2 := (dI (1 : Int))) (jn_v (i := 5) rfl) jc (x_l (e := (dL (dT2 dI dI))) h14)) (ja_cons (je_ix (d := ((dL (dL (dT2 dI dI))) x_handed)) (d2 := (dI (0 : Int))) (jn_v (i := 5) rfl) jc (x_l (e := (dL (dT2 dI dI))) h15)) ja_nil)) (p_between_ok v14 v15 v16 h16))) (ja_cons (jn_s (i := 3) rfl) (ja_cons (jn_s (i := 4) rfl) ja_nil))) (p_law_right_ok v16 q5.1 q5.2 v17 h17) rfl))) (js_ret (q := (fun r => r)) (er := dB) (x := false) (l := .full) ret_R jc) (js_nil (js_last (js_fz (z := [3, 4]) (js_bind fun v18 h18 =>
(js_bind fun v19 h19 =>
(js_bind fun v20 h20 =>
(js_bind fun v21 h21 =>
(js_ret (q := (fun r => r)) (er := dB) (x := (v21 && decide (x_handed = [q5.1, q5.2]))) (l := .full) ret_R (je_and (je_callI (ja_cons (JE.w (l2 := .full) (a2 := false) (v2 := false) (je_call (ja_cons (je_ix (d := ((dL (dL (dT2 dI dI))) x_handed)) (d2 := (dI (0 : Int))) (jn_v (i := 5) rfl) jc (x_l (e := (dL (dT2 dI dI))) h18)) (ja_cons (je_ix (d := ((dL (dL (dT2 dI dI))) x_handed)) (d2 := (dI (1 : Int))) (jn_v (i := 5) rfl) jc (x_l (e := (dL (dT2 dI dI))) h19)) ja_nil)) (p_between_ok v18 v19 v20 h20))) (ja_cons (jn_s (i := 3) rfl) (ja_cons (jn_s (i := 4) rfl) ja_nil))) (p_law_right_ok v20 q5.1 q5.2 v21 h21) rfl) (je_cmp (d := ((dL (dL (dT2 dI dI))) x_handed)) (d2 := ((dL (dL (dT2 dI dI))) ([q5.1, q5.2]))) (jn_v (i := 5) rfl) (JE.w (l2 := .top) (a2 := false) (v2 := false) (je_lst (ja_cons (jn_s (i := 3) rfl) (ja_cons (jn_s (i := 4) rfl) ja_nil)))) (q_eq (ek_list (ek_list (ek_t2 ek_int ek_int))) x_handed ([q5.1, q5.2])))))))))))))))))))))))))))))))))))) h (Nat.le_of_ble_eq_true rfl)
end
end Pr

set_option Elab.async false
set_option linter.all false
set_option maxRecDepth 100000
set_option maxHeartbeats 4000000
namespace Pr
open PySem PySem.Spec L2 Ev Tg
open PyProof.Rows hiding St
noncomputable section

def topS (i : Nat) : Stmt := PySem.Challenge.pw_pairsheath_k25_between_two_choices.main.body.getD i (.Pass ⟨0, 0, 0, 0⟩)
abbrev s_led_from : Stmt := topS 1
abbrev N_led_from : List Str := ["start", "beside", "found", "onward", "b"]
theorem sc_led_from : FnScope N_led_from ["start", "beside"] (defScope s_led_from) := ⟨rfl, rfl, rfl, by decide +kernel, rfl, by decide +kernel, by decide +kernel⟩
theorem ok_led_from {P : Program} {w : World} {K : PySem.W.Frag} {mg : Str → Option Value} {base : Heap} {f : Addr} {fd : FuncData} (F : Fun K "led_from" "led_from" s_led_from f fd) (hB : Blts mg)  : FnOk P w K mg base CX0 1 f fd ["start", "beside"] (spD K 2 R_led_from) := by
  refine def_ok (k := 0) F sc_led_from fun cdv A outer s H E hr => ?_
  have hu := hu_room hr
  have nd := sc_led_from.nd
  exact (s_cons (s_set [] 2 (e_lst (a_cons (e_name 0) a_nil)) nd) (s_cons (s_set [] 3 (x_ix hu (e_name 1) (e_name 0)) nd) (s_cons (s_while (t_cmp (x_ne hu) (e_name 3) (e_lst a_nil)) (s_cons (s_lop [3] 2 l_app PySem.F.slot_list_append PySem.F.type_list_append (a_cons (x_ix hu (e_name 3) e_int) a_nil)) (s_one (s_setLc 3 [("b", 4)] rfl nd (i_lstV (x_ix hu (e_name 1) (x_ix hu (e_name 3) e_int))) (blkOk_by (N := N_led_from) (sc := defScope s_led_from) (by decide +kernel)) (fun _ _ _ _ _ => (g_name 4 nd)) (fun _ _ _ _ _ => (ts_one (t_cmp (x_nin hu) (e_name 4) (e_name 2)))) (fun _ _ _ _ _ => (e_name 4)) (sw_true rfl rfl rfl (by decide +kernel)))))) (s_one (s_retv 2)))))
abbrev s_law_cell_at : Stmt := topS 4
abbrev N_law_cell_at : List Str := ["_law_script", "_law_k"]
theorem sc_law_cell_at : FnScope N_law_cell_at ["_law_script", "_law_k"] (defScope s_law_cell_at) := ⟨rfl, rfl, rfl, by decide +kernel, rfl, by decide +kernel, by decide +kernel⟩
theorem ok_law_cell_at {P : Program} {w : World} {K : PySem.W.Frag} {mg : Str → Option Value} {base : Heap} {f : Addr} {fd : FuncData} (F : Fun K "_law_cell_at" "_law_cell_at" s_law_cell_at f fd) (hB : Blts mg)  : FnOk P w K mg base CX0 1 f fd ["_law_script", "_law_k"] (spD K 2 R_law_cell_at) := by
  refine def_ok (k := 0) F sc_law_cell_at fun cdv A outer s H E hr => ?_
  have hu := hu_room hr
  have nd := sc_law_cell_at.nd
  exact (s_cons (s_if (t_cmp (x_lt hu) (e_name 1) (e_len hB.len (a_cons (e_name 0) a_nil))) (s_one (s_ret (x_ix hu (e_name 0) (e_name 1)))) s_nil) (s_one (s_ret e_int)))
abbrev s_law_whole : Stmt := topS 5
abbrev N_law_whole : List Str := ["_law_found"]
theorem sc_law_whole : FnScope N_law_whole ["_law_found"] (defScope s_law_whole) := ⟨rfl, rfl, rfl, by decide +kernel, rfl, by decide +kernel, by decide +kernel⟩
theorem ok_law_whole {P : Program} {w : World} {K : PySem.W.Frag} {mg : Str → Option Value} {base : Heap} {f : Addr} {fd : FuncData} (F : Fun K "_law_whole" "_law_whole" s_law_whole f fd) (hB : Blts mg)  : FnOk P w K mg base CX0 1 f fd ["_law_found"] (spD K 1 R_law_whole) := by
  refine def_ok (k := 0) F sc_law_whole fun cdv A outer s H E hr => ?_
  have hu := hu_room hr
  have nd := sc_law_whole.nd
  exact (s_one (s_ret (e_and (e_isi "int" hB.isinstance hB.int PyProof.Rows.boot_int (e_name 0)) (e_one _ (e_not (e_isi "bool" hB.isinstance hB.bool bt_bool (e_name 0)))))))
abbrev s_law_tie : Stmt := topS 6
abbrev N_law_tie : List Str := ["_law_a", "_law_b"]
theorem sc_law_tie : FnScope N_law_tie ["_law_a", "_law_b"] (defScope s_law_tie) := ⟨rfl, rfl, rfl, by decide +kernel, rfl, by decide +kernel, by decide +kernel⟩
theorem ok_law_tie {P : Program} {w : World} {K : PySem.W.Frag} {mg : Str → Option Value} {base : Heap} {f : Addr} {fd : FuncData} (F : Fun K "_law_tie" "_law_tie" s_law_tie f fd) (hB : Blts mg)  : FnOk P w K mg base CX0 1 f fd ["_law_a", "_law_b"] (spD K 2 R_law_tie) := by
  refine def_ok (k := 0) F sc_law_tie fun cdv A outer s H E hr => ?_
  have hu := hu_room hr
  have nd := sc_law_tie.nd
  exact (s_one (s_ret (e_tup (a_cons (e_bi (k_min2 rfl) hB.min PyProof.Rows.boot_min (a_cons (e_name 0) (a_cons (e_name 1) a_nil))) (a_cons (e_bi (k_max2 rfl) hB.max PyProof.Rows.boot_max (a_cons (e_name 0) (a_cons (e_name 1) a_nil))) a_nil)))))
abbrev s_between : Stmt := topS 2
abbrev N_between : List Str := ["one", "other", "beside", "a", "b", "found", "seen", "count", "kind", "start", "points", "tie"]
theorem sc_between : FnScope N_between ["one", "other"] (defScope s_between) := ⟨rfl, rfl, rfl, by decide +kernel, rfl, by decide +kernel, by decide +kernel⟩
theorem ok_between {P : Program} {w : World} {K : PySem.W.Frag} {mg : Str → Option Value} {base : Heap} {f : Addr} {fd : FuncData} (F : Fun K "between" "between" s_between f fd) (hB : Blts mg) (G_led_from : FnD P w K mg base 1 "led_from" 2 R_led_from) : FnOk P w K mg base CX0 2 f fd ["one", "other"] (spD K 2 R_between) := by
  refine def_ok (k := 1) F sc_between fun cdv A outer s H E hr => ?_
  have hu := hu_room hr
  have nd := sc_between.nd
  exact (s_cons (s_set [] 2 e_dict nd) (s_cons (s_for [] rfl (i_lst (e_plus (e_lc [("tie", 11)] rfl nd (i_lstV (e_name 0)) (blkOk_by (N := N_between) (sc := defScope s_between) (by decide +kernel)) (fun _ _ _ _ _ => (g_name 11 nd)) (fun _ _ _ _ _ => (ts_one (t_cmp (x_nin hu) (e_name 11) (e_name 1)))) (fun _ _ _ _ _ => (e_name 11))) (e_lc [("tie", 11)] rfl nd (i_lstV (e_name 1)) (blkOk_by (N := N_between) (sc := defScope s_between) (by decide +kernel)) (fun _ _ _ _ _ => (g_name 11 nd)) (fun _ _ _ _ _ => (ts_one (t_cmp (x_nin hu) (e_name 11) (e_name 0)))) (fun _ _ _ _ _ => (e_name 11))))) (g_tup rfl (gs_cons (g_name 3 nd) (gs_cons (g_name 4 nd) gs_nil))) (s_cons (s_sda 2 4 (e_name 3)) (s_one (s_sda 2 3 (e_name 4))))) (s_cons (s_set [] 5 (e_lst a_nil) nd) (s_cons (s_set [] 6 (e_lst a_nil) nd) (s_cons (s_for [] rfl (i_lst (e_lst (a_cons (e_tup (a_cons e_int (a_cons e_str a_nil))) (a_cons (e_tup (a_cons e_int (a_cons e_str a_nil))) a_nil)))) (g_tup rfl (gs_cons (g_name 7 nd) (gs_cons (g_name 8 nd) gs_nil))) (s_one (s_for [] rfl (i_lst (e_bi (k_sorted rfl) hB.sorted PyProof.Rows.boot_sorted (a_cons (e_name 2) a_nil))) (g_name 9 nd) (s_one (s_if (t_bool (t_and (t_cmp (x_nin hu) (e_name 9) (e_name 6)) (t_and1 (t_cmp (x_eq hu) (e_len hB.len (a_cons (x_ix hu (e_name 2) (e_name 9)) a_nil)) (e_name 7))))) (s_cons (s_set [] 10 (e_call G_led_from (hr.mono (by decide)) (a_cons (e_name 9) (a_cons (e_name 2) a_nil)) (hl := len2)) nd) (s_cons (s_extI 6 (e_name 10)) (s_one (s_appMv 5 10 (e_name 8))))) s_nil))))) (s_one (s_retv 5)))))))
abbrev s_law_order : Stmt := topS 7
abbrev N_law_order : List Str := ["_law_script", "_law_many", "_law_order_here", "_law_k", "_law_number"]
theorem sc_law_order : FnScope N_law_order ["_law_script", "_law_many"] (defScope s_law_order) := ⟨rfl, rfl, rfl, by decide +kernel, rfl, by decide +kernel, by decide +kernel⟩
theorem ok_law_order {P : Program} {w : World} {K : PySem.W.Frag} {mg : Str → Option Value} {base : Heap} {f : Addr} {fd : FuncData} (F : Fun K "_law_order" "_law_order" s_law_order f fd) (hB : Blts mg) (G_law_cell_at : FnD P w K mg base 1 "_law_cell_at" 2 R_law_cell_at) : FnOk P w K mg base CX0 2 f fd ["_law_script", "_law_many"] (spD K 2 R_law_order) := by
  refine def_ok (k := 1) F sc_law_order fun cdv A outer s H E hr => ?_
  have hu := hu_room hr
  have nd := sc_law_order.nd
  exact (s_cons (s_set [] 2 (e_lst a_nil) nd) (s_cons (s_for [] rfl (i_range1 hB.range (a_cons (e_name 1) a_nil) len1) (g_name 3 nd) (s_cons (s_set [] 4 (e_mod (e_mul (e_plus (e_plus (e_call G_law_cell_at (hr.mono (by decide)) (a_cons (e_name 0) (a_cons (e_plus (e_name 3) e_int) a_nil)) (hl := len2)) (e_mul e_int (e_name 3))) e_int) e_int) e_int) nd) (s_one (s_lop [3] 2 l_ins PySem.F.slot_list_insert PySem.F.type_list_insert (a_cons (e_mod (e_name 4) (e_plus (e_name 3) e_int)) (a_cons (e_name 3) a_nil)))))) (s_one (s_retv 2))))
abbrev s_law_piece : Stmt := topS 8
abbrev N_law_piece : List Str := ["_law_one", "_law_other", "_law_piece_here", "_law_kind", "_law_k"]
theorem sc_law_piece : FnScope N_law_piece ["_law_one", "_law_other", "_law_piece_here", "_law_kind"] (defScope s_law_piece) := ⟨rfl, rfl, rfl, by decide +kernel, rfl, by decide +kernel, by decide +kernel⟩
theorem ok_law_piece {P : Program} {w : World} {K : PySem.W.Frag} {mg : Str → Option Value} {base : Heap} {f : Addr} {fd : FuncData} (F : Fun K "_law_piece" "_law_piece" s_law_piece f fd) (hB : Blts mg) (G_law_tie : FnD P w K mg base 1 "_law_tie" 2 R_law_tie) : FnOk P w K mg base CX0 2 f fd ["_law_one", "_law_other", "_law_piece_here", "_law_kind"] (spM K [true, true, false, false] R_law_piece) := by
  refine def_okM (k := 1) [true, true, false, false] [true, true, false, false] F sc_law_piece rfl rfl rfl fun cdv A outer s H E hr => ?_
  have hu := hu_room hr
  have nd := sc_law_piece.nd
  exact (s_cons (s_if (t_bool (t_or (t_cmp (x_eq hu) (e_name 3) e_int) (t_or1 (t_cmp (x_lt hu) (e_len hB.len (a_cons (e_name 2) a_nil)) e_int)))) (s_one s_ret0) s_nil) (s_cons (s_if (t_cmp (x_eq hu) (e_name 3) e_int) (s_cons (s_lop [] 0 l_app PySem.F.slot_list_append PySem.F.type_list_append (a_cons (e_call G_law_tie (hr.mono (by decide)) (a_cons (x_ix hu (e_name 2) e_int) (a_cons (x_ix hu (e_name 2) e_int) a_nil)) (hl := len2)) a_nil)) (s_cons (s_lop [] 1 l_app PySem.F.slot_list_append PySem.F.type_list_append (a_cons (e_call G_law_tie (hr.mono (by decide)) (a_cons (x_ix hu (e_name 2) e_int) (a_cons (x_ix hu (e_name 2) e_int) a_nil)) (hl := len2)) a_nil)) (s_one s_ret0))) s_nil) (s_cons (s_for [] rfl (i_range1 hB.range (a_cons (e_sub (e_len hB.len (a_cons (e_name 2) a_nil)) e_int) a_nil) len1) (g_name 4 nd) (s_one (s_if (t_cmp (x_eq hu) (e_mod (e_plus (e_name 4) (e_name 3)) e_int) e_int) (s_one (s_lop [] 0 l_app PySem.F.slot_list_append PySem.F.type_list_append (a_cons (e_call G_law_tie (hr.mono (by decide)) (a_cons (x_ix hu (e_name 2) (e_name 4)) (a_cons (x_ix hu (e_name 2) (e_plus (e_name 4) e_int)) a_nil)) (hl := len2)) a_nil))) (s_one (s_lop [] 1 l_app PySem.F.slot_list_append PySem.F.type_list_append (a_cons (e_call G_law_tie (hr.mono (by decide)) (a_cons (x_ix hu (e_name 2) (e_name 4)) (a_cons (x_ix hu (e_name 2) (e_plus (e_name 4) e_int)) a_nil)) (hl := len2)) a_nil)))))) (s_one (s_if (t_bool (t_and (t_cmp (x_eq hu) (e_name 3) e_int) (t_and (t_cmp (x_eq hu) (e_mod (e_len hB.len (a_cons (e_name 2) a_nil)) e_int) e_int) (t_and1 (t_cmp (x_gt hu) (e_len hB.len (a_cons (e_name 2) a_nil)) e_int))))) (s_one (s_lop [] 1 l_app PySem.F.slot_list_append PySem.F.type_list_append (a_cons (e_call G_law_tie (hr.mono (by decide)) (a_cons (x_ix hu (e_name 2) e_int) (a_cons (x_ix hu (e_name 2) (e_neg e_int)) a_nil)) (hl := len2)) a_nil))) s_nil)))))
abbrev s_law_along : Stmt := topS 10
abbrev N_law_along : List Str := ["_law_told", "_law_points", "_law_ties", "_law_a", "_law_k"]
theorem sc_law_along : FnScope N_law_along ["_law_told"] (defScope s_law_along) := ⟨rfl, rfl, rfl, by decide +kernel, rfl, by decide +kernel, by decide +kernel⟩
theorem ok_law_along {P : Program} {w : World} {K : PySem.W.Frag} {mg : Str → Option Value} {base : Heap} {f : Addr} {fd : FuncData} (F : Fun K "_law_along" "_law_along" s_law_along f fd) (hB : Blts mg) (G_law_whole : FnD P w K mg base 1 "_law_whole" 1 R_law_whole) (G_law_tie : FnD P w K mg base 1 "_law_tie" 2 R_law_tie) : FnOk P w K mg base CX0 2 f fd ["_law_told"] (spD K 1 R_law_along) := by
  refine def_ok (k := 1) F sc_law_along fun cdv A outer s H E hr => ?_
  have hu := hu_room hr
  have nd := sc_law_along.nd
  exact (s_cons (s_if (t_bool (t_or (t_not (t_val (e_isi "tuple" hB.isinstance hB.tuple PyProof.Rows.boot_tuple (e_name 0)))) (t_or (t_cmp (x_ne hu) (e_len hB.len (a_cons (e_name 0) a_nil)) e_int) (t_or1 (t_cmp (x_nin hu) (x_ix hu (e_name 0) e_int) (e_lst (a_cons e_str (a_cons e_str a_nil)))))))) (s_one (s_ret e_non)) s_nil) (s_cons (s_set [] 1 (x_ix hu (e_name 0) e_int) nd) (s_cons (s_if (t_bool (t_or (t_not (t_val (e_isi "list" hB.isinstance hB.list PyProof.Rows.boot_list (e_name 1)))) (t_or (t_cmp (x_lt hu) (e_len hB.len (a_cons (e_name 1) a_nil)) e_int) (t_or1 (t_not (t_val (e_bi (k_all rfl) hB.all PyProof.Rows.boot_all (a_cons (e_lc [("_law_a", 3)] rfl nd (i_lstV (e_name 1)) (blkOk_by (N := N_law_along) (sc := defScope s_law_along) (by decide +kernel)) (fun _ _ _ _ _ => (g_name 3 nd)) (fun _ _ _ _ _ => ts_nil) (fun _ _ _ _ _ => (e_call G_law_whole (hr.mono (by decide)) (a_cons (e_name 3) a_nil) (hl := len1)))) a_nil)))))))) (s_one (s_ret e_non)) s_nil) (s_cons (s_setLc 2 [("_law_k", 4)] rfl nd (pis (i_range1 hB.range (a_cons (e_sub (e_len hB.len (a_cons (e_name 1) a_nil)) e_int) a_nil) len1)) (blkOk_by (N := N_law_along) (sc := defScope s_law_along) (by decide +kernel)) (fun _ _ _ _ _ => (g_name 4 nd)) (fun _ _ _ _ _ => ts_nil) (fun _ _ _ _ _ => (e_call G_law_tie (hr.mono (by decide)) (a_cons (x_ix hu (e_name 1) (e_name 4)) (a_cons (x_ix hu (e_name 1) (e_plus (e_name 4) e_int)) a_nil)) (hl := len2))) (sw_true rfl rfl rfl (by decide +kernel))) (s_cons (s_if (t_cmp (x_eq hu) (x_ix hu (e_name 0) e_int) e_str) (s_cons (s_if (t_cmp (x_lt hu) (e_len hB.len (a_cons (e_name 1) a_nil)) e_int) (s_one (s_ret e_non)) s_nil) (s_one (s_lop [] 2 l_app PySem.F.slot_list_append PySem.F.type_list_append (a_cons (e_call G_law_tie (hr.mono (by decide)) (a_cons (x_ix hu (e_name 1) e_int) (a_cons (x_ix hu (e_name 1) (e_neg e_int)) a_nil)) (hl := len2)) a_nil)))) s_nil) (s_one (s_retv 2)))))))
abbrev s_law_two : Stmt := topS 9
abbrev N_law_two : List Str := ["_law_script", "_law_order_here", "_law_one", "_law_other", "_law_at", "_law_k", "_law_number", "_law_size"]
theorem sc_law_two : FnScope N_law_two ["_law_script", "_law_order_here"] (defScope s_law_two) := ⟨rfl, rfl, rfl, by decide +kernel, rfl, by decide +kernel, by decide +kernel⟩
theorem ok_law_two {P : Program} {w : World} {K : PySem.W.Frag} {mg : Str → Option Value} {base : Heap} {f : Addr} {fd : FuncData} (F : Fun K "_law_two" "_law_two" s_law_two f fd) (hB : Blts mg) (G_law_cell_at : FnD P w K mg base 1 "_law_cell_at" 2 R_law_cell_at) (G_law_piece : FnM P w K mg base 2 "_law_piece" [true, true, false, false] R_law_piece) : FnOk P w K mg base CX0 3 f fd ["_law_script", "_law_order_here"] (spD K 2 R_law_two) := by
  refine def_ok (k := 2) F sc_law_two fun cdv A outer s H E hr => ?_
  have hu := hu_room hr
  have nd := sc_law_two.nd
  exact (s_cons (s_set [] 2 (e_lst a_nil) nd) (s_cons (s_set [] 3 (e_lst a_nil) nd) (s_cons (s_set [] 4 e_int nd) (s_cons (s_set [] 5 e_int nd) (s_cons (s_while (t_cmp (x_lt hu) (e_name 4) (e_len hB.len (a_cons (e_name 1) a_nil))) (s_cons (s_set [] 6 (e_mod (e_mul (e_plus (e_call G_law_cell_at (hr.mono (by decide)) (a_cons (e_name 0) (a_cons (e_name 5) a_nil)) (hl := len2)) (e_mul e_int (e_name 5))) e_int) e_int) nd) (s_cons (s_set [] 7 (e_plus e_int (e_mod (e_div (e_name 6) e_int) (x_ix hu (e_lst (a_cons e_int (a_cons e_int a_nil))) (e_mod (e_div (e_name 6) e_int) e_int)))) nd) (s_cons (s_exprX (x_callM G_law_piece (hr.mono (by decide)) (m_slot 2 (m_slot 3 (m_val (e_sl (e_name 1) (o_some (e_name 4)) (o_some (e_plus (e_name 4) (e_name 7)))) (m_val (e_mod (e_name 6) e_int) m_nil)))) (mok_slot (mok_slot (mok_val (mok_val mok_nil)))) (ml_slot (ml_slot (ml_val (ml_val ml_nil)))))) (s_cons (s_set [] 4 (e_plus (e_name 4) (e_name 7)) nd) (s_one (s_set [] 5 (e_plus (e_name 5) e_int) nd))))))) (s_one (s_ret (e_tup (a_cons (e_bi (k_sorted rfl) hB.sorted PyProof.Rows.boot_sorted (a_cons (e_name 2) a_nil)) (a_cons (e_bi (k_sorted rfl) hB.sorted PyProof.Rows.boot_sorted (a_cons (e_name 3) a_nil)) a_nil))))))))))
abbrev s_law_right : Stmt := topS 11
abbrev N_law_right : List Str := ["_law_found", "_law_one", "_law_other", "_law_points", "_law_ties", "_law_told", "_law_along_here", "_law_due", "_law_tie_here"]
theorem sc_law_right : FnScope N_law_right ["_law_found", "_law_one", "_law_other"] (defScope s_law_right) := ⟨rfl, rfl, rfl, by decide +kernel, rfl, by decide +kernel, by decide +kernel⟩
theorem ok_law_right {P : Program} {w : World} {K : PySem.W.Frag} {mg : Str → Option Value} {base : Heap} {f : Addr} {fd : FuncData} (F : Fun K "_law_right" "_law_right" s_law_right f fd) (hB : Blts mg) (G_law_along : FnD P w K mg base 2 "_law_along" 1 R_law_along) : FnOk P w K mg base CX0 3 f fd ["_law_found", "_law_one", "_law_other"] (spD K 3 R_law_right) := by
  refine def_ok (k := 2) F sc_law_right fun cdv A outer s H E hr => ?_
  have hu := hu_room hr
  have nd := sc_law_right.nd
  exact (s_cons (s_if (t_not (t_val (e_isi "list" hB.isinstance hB.list PyProof.Rows.boot_list (e_name 0)))) (s_one (s_ret e_bl)) s_nil) (s_cons (s_set [] 3 (e_lst a_nil) nd) (s_cons (s_set [] 4 (e_lst a_nil) nd) (s_cons (s_for [] rfl (i_lst (e_name 0)) (g_name 5 nd) (s_cons (s_set [] 6 (e_call G_law_along (hr.mono (by decide)) (a_cons (e_name 5) a_nil) (hl := len1)) nd) (s_cons (s_if (t_cmp (x_is hu) (e_name 6) e_non) (s_one (s_ret e_bl)) s_nil) (s_cons (s_set [] 3 (e_plus (e_name 3) (x_ix hu (e_name 5) e_int)) nd) (s_one (s_set [] 4 (e_plus (e_name 4) (e_name 6)) nd)))))) (s_cons (s_set [] 7 (e_plus (e_lc [("_law_tie_here", 8)] rfl nd (i_lstV (e_name 1)) (blkOk_by (N := N_law_right) (sc := defScope s_law_right) (by decide +kernel)) (fun _ _ _ _ _ => (g_name 8 nd)) (fun _ _ _ _ _ => (ts_one (t_cmp (x_nin hu) (e_name 8) (e_name 2)))) (fun _ _ _ _ _ => (e_name 8))) (e_lc [("_law_tie_here", 8)] rfl nd (i_lstV (e_name 2)) (blkOk_by (N := N_law_right) (sc := defScope s_law_right) (by decide +kernel)) (fun _ _ _ _ _ => (g_name 8 nd)) (fun _ _ _ _ _ => (ts_one (t_cmp (x_nin hu) (e_name 8) (e_name 1)))) (fun _ _ _ _ _ => (e_name 8)))) nd) (s_one (s_ret (e_and (e_cmp (x_eq hu) (e_lenSet rfl hB.len hB.set (a_cons (e_name 3) a_nil)) (e_len hB.len (a_cons (e_name 3) a_nil))) (e_one _ (e_cmp (x_eq hu) (e_bi (k_sorted rfl) hB.sorted PyProof.Rows.boot_sorted (a_cons (e_name 4) a_nil)) (e_bi (k_sorted rfl) hB.sorted PyProof.Rows.boot_sorted (a_cons (e_name 7) a_nil))))))))))))
abbrev s_law : Stmt := topS 12
abbrev N_law : List Str := ["_law_script", "_law_head", "_law_many", "_law_one", "_law_other", "_law_handed", "_law_found", "_law_told"]
theorem sc_law : FnScope N_law ["_law_script"] (defScope s_law) := ⟨rfl, rfl, rfl, by decide +kernel, rfl, by decide +kernel, by decide +kernel⟩
theorem ok_law {P : Program} {w : World} {K : PySem.W.Frag} {mg : Str → Option Value} {base : Heap} {f : Addr} {fd : FuncData} (F : Fun K "law" "law" s_law f fd) (hB : Blts mg) (G_law_cell_at : FnD P w K mg base 1 "_law_cell_at" 2 R_law_cell_at) (G_law_two : FnD P w K mg base 3 "_law_two" 2 R_law_two) (G_law_order : FnD P w K mg base 2 "_law_order" 2 R_law_order) (G_between : FnD P w K mg base 2 "between" 2 R_between) (G_law_right : FnD P w K mg base 3 "_law_right" 3 R_law_right) : FnOk P w K mg base CX0 4 f fd ["_law_script"] (spD K 1 R_law) := by
  refine def_ok (k := 3) F sc_law fun cdv A outer s H E hr => ?_
  have hu := hu_room hr
  have nd := sc_law.nd
  exact (s_cons (s_set [] 1 (e_mod (e_mul (e_plus (e_call G_law_cell_at (hr.mono (by decide)) (a_cons (e_name 0) (a_cons e_int a_nil)) (hl := len2)) e_int) e_int) e_int) nd) (s_cons (s_set [] 2 (e_plus e_int (e_mod (e_name 1) e_int)) nd) (s_cons (s_if (t_cmp (x_eq hu) (e_mod (e_div (e_name 1) e_int) e_int) e_int) (s_one (s_set [] 2 (e_plus e_int (e_mod (e_div (e_name 1) e_int) e_int)) nd)) s_nil) (s_cons (s_asg [] (e_call G_law_two (hr.mono (by decide)) (a_cons (e_name 0) (a_cons (e_call G_law_order (hr.mono (by decide)) (a_cons (e_name 0) (a_cons (e_name 2) a_nil)) (hl := len2)) a_nil)) (hl := len2)) (g_tup rfl (gs_cons (g_name 3 nd) (gs_cons (g_name 4 nd) gs_nil)))) (s_cons (s_set [] 5 (e_lst (a_cons (e_ty (k_list) hB.list PyProof.Rows.boot_list (a_cons (e_name 3) a_nil)) (a_cons (e_ty (k_list) hB.list PyProof.Rows.boot_list (a_cons (e_name 4) a_nil)) a_nil))) nd) (s_cons (s_set [] 6 (e_call G_between (hr.mono (by decide)) (a_cons (x_ix hu (e_name 5) e_int) (a_cons (x_ix hu (e_name 5) e_int) a_nil)) (hl := len2)) nd) (s_cons (s_if (t_bool (t_or (t_not (t_val (e_call G_law_right (hr.mono (by decide)) (a_cons (e_name 6) (a_cons (e_name 3) (a_cons (e_name 4) a_nil))) (hl := len3)))) (t_or1 (t_cmp (x_ne hu) (e_call G_between (hr.mono (by decide)) (a_cons (x_ix hu (e_name 5) e_int) (a_cons (x_ix hu (e_name 5) e_int) a_nil)) (hl := len2)) (e_lst a_nil))))) (s_one (s_ret e_bl)) s_nil) (s_cons (s_forClr 6 7 hu rfl nd) (s_cons (s_lop [] 6 l_app PySem.F.slot_list_append PySem.F.type_list_append (a_cons e_non a_nil)) (s_cons (s_if (t_not (t_val (e_call G_law_right (hr.mono (by decide)) (a_cons (e_call G_between (hr.mono (by decide)) (a_cons (x_ix hu (e_name 5) e_int) (a_cons (x_ix hu (e_name 5) e_int) a_nil)) (hl := len2)) (a_cons (e_name 3) (a_cons (e_name 4) a_nil))) (hl := len3)))) (s_one (s_ret e_bl)) s_nil) (s_one (s_fz [3, 4] (s_ret (e_and (e_call G_law_right (hr.mono (by decide)) (a_cons (e_call G_between (hr.mono (by decide)) (a_cons (x_ix hu (e_name 5) e_int) (a_cons (x_ix hu (e_name 5) e_int) a_nil)) (hl := len2)) (a_cons (e_name 3) (a_cons (e_name 4) a_nil))) (hl := len3)) (e_one _ (e_cmp (x_eq hu) (e_name 5) (e_lst (a_cons (e_name 3) (a_cons (e_name 4) a_nil)))))))))))))))))))
end
end Pr

set_option Elab.async false
set_option linter.all false
set_option maxRecDepth 100000

namespace Tg
open PySem PySem.Spec L2 Ev
open PyProof.Rows hiding St
section
variable {α β σ R T κ : Type}
@[simp] theorem letB_eq (x : α) (k : α → β) : letB x k = k x := Eq.trans rfl rfl
@[simp] theorem bindO_s (x : α) (k : α → Option β) : bindO (some x) k = k x := Eq.trans rfl rfl
theorem bindO_e {o : Option α} {x : α} (h : o = some x) (k : α → Option β) : bindO o k = k x := by rw [h]; rfl
@[simp] theorem onS_l (s : σ) (k : σ → Option T) (q : R → T) : onS (some (.inl s)) k q = k s := Eq.trans rfl rfl
@[simp] theorem onS_r (r : R) (k : σ → Option T) (q : R → T) : onS (some (.inr r)) k q = some (q r) := Eq.trans rfl rfl

theorem forS_inv {xs : List α} {s0 : σ} {f : α → σ → Option σ} (P : List α → σ → Prop) (h0 : P [] s0)
    (hs : ∀ pre x post s, xs = pre ++ x :: post → P pre s → ∃ s', f x s = some s' ∧ P (pre ++ [x]) s') : ∃ s', forS xs s0 f = some s' ∧ P xs s' := by
  have go : ∀ (post pre : List α) (s : σ), xs = pre ++ post → P pre s → ∃ s', forS post s f = some s' ∧ P xs s' := by
    intro post
    induction post with
    | nil => exact fun pre s e p => ⟨s, rfl, by rw [e, List.append_nil]; exact p⟩
    | cons x post ih =>
      intro pre s e p
      obtain ⟨s1, e1, p1⟩ := hs pre x post s e p
      obtain ⟨s2, e2, p2⟩ := ih (pre ++ [x]) s1 (by rw [e, List.append_assoc]; rfl) p1
      exact ⟨s2, by unfold forS; rw [e1]; exact e2, p2⟩
  exact go xs [] s0 rfl h0
theorem forS_fold {xs : List α} {s0 : σ} {f : α → σ → Option σ} (g : σ → α → σ) (P : List α → σ → Prop) (h0 : P [] s0)
    (hs : ∀ pre x post s, xs = pre ++ x :: post → P pre s → f x s = some (g s x) ∧ P (pre ++ [x]) (g s x)) : forS xs s0 f = some (xs.foldl g s0) ∧ P xs (xs.foldl g s0) := by
  obtain ⟨s', e, p, q⟩ := forS_inv (xs := xs) (s0 := s0) (f := f) (fun pre s => P pre s ∧ s = pre.foldl g s0) ⟨h0, rfl⟩ fun pre x post s e ⟨p, q⟩ => by
    obtain ⟨e1, p1⟩ := hs pre x post s e p
    exact ⟨_, e1, p1, by rw [List.foldl_append, ← q]; rfl⟩
  rw [← q]
  exact ⟨e, p⟩
theorem forC_inv {xs : List α} {s0 : σ} {f : α → σ → Option (Ctl σ R)} (P : List α → σ → Prop) (Q : R → Prop) (h0 : P [] s0)
    (hs : ∀ pre x post s, xs = pre ++ x :: post → P pre s → (∃ s', f x s = some (.nx s') ∧ P (pre ++ [x]) s') ∨ ∃ r, f x s = some (.rt r) ∧ Q r) :
    (∃ s', forC xs s0 f = some (.inl s') ∧ P xs s') ∨ ∃ r, forC xs s0 f = some (.inr r) ∧ Q r := by
  have go : ∀ (post pre : List α) (s : σ), xs = pre ++ post → P pre s → (∃ s', forC post s f = some (.inl s') ∧ P xs s') ∨ ∃ r, forC post s f = some (.inr r) ∧ Q r := by
    intro post
    induction post with
    | nil => exact fun pre s e p => .inl ⟨s, rfl, by rw [e, List.append_nil]; exact p⟩
    | cons x post ih =>
      intro pre s e p
      rcases hs pre x post s e p with ⟨s1, e1, p1⟩ | ⟨r, e1, q⟩
      · rcases ih (pre ++ [x]) s1 (by rw [e, List.append_assoc]; rfl) p1 with ⟨s2, e2, p2⟩ | ⟨r, e2, q⟩
        · exact .inl ⟨s2, by unfold forC; rw [e1]; exact e2, p2⟩
        · exact .inr ⟨r, by unfold forC; rw [e1]; exact e2, q⟩
      · exact .inr ⟨r, by unfold forC; rw [e1]; rfl, q⟩
  exact go xs [] s0 rfl h0

theorem forC_nx {xs : List α} {s0 : σ} {f : α → σ → Option (Ctl σ R)} (P : List α → σ → Prop) (h0 : P [] s0)
    (hs : ∀ pre x post s, xs = pre ++ x :: post → P pre s → ∃ s', f x s = some (.nx s') ∧ P (pre ++ [x]) s') : ∃ s', forC xs s0 f = some (.inl s') ∧ P xs s' := by
  rcases forC_inv (R := R) P (fun _ => False) h0 (fun pre x post s e p => .inl (hs pre x post s e p)) with h | ⟨_, _, h⟩
  · exact h
  · exact h.elim
theorem forC_unit {xs : List α} {f : α → Unit → Option (Ctl Unit R)} (h : ∀ x ∈ xs, f x () = some (.nx ())) : forC xs () f = some (.inl ()) := by
  obtain ⟨s, e, _⟩ := forC_nx (xs := xs) (f := f) (s0 := ()) (fun _ _ => True) trivial fun pre x post s e _ => ⟨(), h x (by rw [e]; simp), trivial⟩
  exact e

theorem forC_find {xs : List α} {f : α → Unit → Option (Ctl Unit R)} {p : α → Option R} (h : ∀ x ∈ xs, f x () = some (match p x with | some r => .rt r | none => .nx ())) : forC xs () f = some (match xs.findSome? p with | some r => .inr r | none => .inl ()) := by
  induction xs with
  | nil => rfl
  | cons x xs ih =>
    unfold forC
    rw [h x List.mem_cons_self, List.findSome?_cons]
    have := ih fun y hy => h y (List.mem_cons_of_mem _ hy)
    cases p x with
    | some r => rfl
    | none => exact this
theorem whS_inv {s0 : σ} {c : σ → Option Bool} {f : σ → Option σ} (P : σ → Prop) (m : σ → Nat) {n : Nat} (hn : m s0 < n) (h0 : P s0)
    (hs : ∀ s, P s → c s = some false ∨ c s = some true ∧ ∃ s', f s = some s' ∧ P s' ∧ m s' < m s) : ∃ s', whS n s0 c f = some s' ∧ P s' ∧ c s' = some false := by
  induction n generalizing s0 with
  | zero => omega
  | succ n ih =>
    unfold whS
    rcases hs s0 h0 with h | ⟨h, s1, e1, p1, l1⟩
    · exact ⟨s0, by rw [h]; rfl, h0, h⟩
    · obtain ⟨s2, e2, p2, c2⟩ := ih (s0 := s1) (by omega) p1
      exact ⟨s2, by rw [h]; simp [bindO, e1]; exact e2, p2, c2⟩
theorem whC_inv {s0 : σ} {c : σ → Option Bool} {f : σ → Option (Ctl σ R)} (P : σ → Prop) (Q : R → Prop) (m : σ → Nat) {n : Nat} (hn : m s0 < n) (h0 : P s0)
    (hs : ∀ s, P s → c s = some false ∨ c s = some true ∧ ((∃ s', f s = some (.nx s') ∧ P s' ∧ m s' < m s) ∨ ∃ r, f s = some (.rt r) ∧ Q r)) : (∃ s', whC n s0 c f = some (.inl s') ∧ P s' ∧ c s' = some false) ∨ ∃ r, whC n s0 c f = some (.inr r) ∧ Q r := by
  induction n generalizing s0 with
  | zero => omega
  | succ n ih =>
    unfold whC
    rcases hs s0 h0 with h | ⟨h, ⟨s1, e1, p1, l1⟩ | ⟨r, e1, q⟩⟩
    · exact .inl ⟨s0, by rw [h]; rfl, h0, h⟩
    · rcases ih (s0 := s1) (by omega) p1 with ⟨s2, e2, p2, c2⟩ | ⟨r, e2, q⟩
      · exact .inl ⟨s2, by rw [h]; simp [bindO, e1]; exact e2, p2, c2⟩
      · exact .inr ⟨r, by rw [h]; simp [bindO, e1]; exact e2, q⟩
    · exact .inr ⟨r, by rw [h]; simp [bindO, e1], q⟩
theorem fuel_big {n : Nat} (h : n < 1000000) : n < fuel := by unfold fuel; omega

theorem big_e {xs : List α} (h : xs.length ≤ 1000000) : big xs = some xs := if_pos h
theorem appO_e {xs : List α} {x : α} (h : xs.length ≤ 1000000) : appO xs x = some (xs ++ [x]) := if_pos h
theorem catO_e {xs ys : List α} (h : xs.length + ys.length ≤ 1000000) : catO xs ys = some (xs ++ ys) := if_pos h
theorem lcM_e {xs : List α} {p : α → Option Bool} {f : α → Option β} (p' : α → Bool) (f' : α → β) (hp : ∀ x ∈ xs, p x = some (p' x)) (hf : ∀ x ∈ xs, p' x = true → f x = some (f' x)) : lcM xs p f = some ((xs.filter p').map f') := by
  induction xs with
  | nil => rfl
  | cons x xs ih =>
    unfold lcM
    rw [hp x List.mem_cons_self, ih (fun y hy => hp y (List.mem_cons_of_mem _ hy)) fun y hy => hf y (List.mem_cons_of_mem _ hy)]
    cases h : p' x with
    | true => simp [bindO, hf x List.mem_cons_self h, h]
    | false => simp [bindO, h]
theorem lcM_map {xs : List α} {f : α → Option β} (f' : α → β) (hf : ∀ x ∈ xs, f x = some (f' x)) : lcM xs (fun _ => some true) f = some (xs.map f') := by
  rw [lcM_e (fun _ => true) f' (fun _ _ => rfl) fun x hx _ => hf x hx, List.filter_eq_self.mpr (fun _ _ => rfl)]
theorem rng_e {n : Nat} (h : n ≤ 1000000000) : rngO 0 (n : Int) = some ((List.range n).map fun (k : Nat) => (k : Int)) := by
  unfold rngO
  rw [if_pos (by omega)]
  simp
theorem rng2_e {a n : Nat} (h : n ≤ 1000000000) (ha : a ≤ 1000000000) : rngO (a : Int) (n : Int) = some ((List.range (n - a)).map fun (k : Nat) => (a : Int) + (k : Int)) := by
  unfold rngO
  rw [if_pos (by omega)]
  congr 3
  omega
theorem idx_nat (xs : List α) (k : Nat) : idx xs (k : Int) = xs[k]? := by
  unfold idx atI ixN
  by_cases h : k < xs.length
  · rw [if_pos (by omega), if_pos (by omega)]
    simp
  · rw [if_pos (by omega), if_neg (by omega)]
    simp
    omega
theorem idx_lt {xs : List α} {k : Nat} (h : k < xs.length) : idx xs (k : Int) = some xs[k] := by rw [idx_nat, List.getElem?_eq_getElem h]
theorem idx_i {xs : List α} {i : Int} (h0 : 0 ≤ i) (h : i < xs.length) : idx xs i = some (xs[i.toNat]'(by omega)) := by
  obtain ⟨k, rfl⟩ : ∃ k : Nat, i = k := ⟨i.toNat, by omega⟩
  rw [idx_lt (by omega)]
  simp
theorem setI_nat {xs : List α} {k : Nat} {y : α} (h : k < xs.length) : setI xs (k : Int) y = xs.set k y := by
  unfold setI ixN
  rw [if_pos (by omega), if_pos (by omega)]
  simp
theorem mulR {i j : Int} (h : -(2 ^ 64) < j ∧ j < 2 ^ 64) : mulO i j = some (i * j) := if_pos (.inl (.inr h))
theorem mulL {i j : Int} (h : -(2 ^ 64) < i ∧ i < 2 ^ 64) : mulO i j = some (i * j) := if_pos (.inl (.inl h))
theorem mulW {i j : Int} (h : i.natAbs.log2 + j.natAbs.log2 < 1000000) : mulO i j = some (i * j) := if_pos (.inr h)
theorem divW {i j : Int} (h : 0 < j) (h2 : j.natAbs.log2 < 9000) : divO i j = some (i / j) := if_pos ⟨h, h2⟩
theorem modP {i j : Int} (h : 0 < j) : modO i j = some (i % j) := if_pos h

section
variable [DecidableEq κ]
theorem ahas_iff {m : List (κ × α)} {k : κ} : ahas m k = (aget m k).isSome := by
  unfold ahas aget
  rw [Option.isSome_map]
  induction m with
  | nil => rfl
  | cons p m ih =>
    rw [List.any_cons, List.find?_cons]
    by_cases h : p.1 = k <;> simp [h, ih]
theorem aget_put (m : List (κ × α)) (k k' : κ) (v : α) : aget (aput m k v) k' = if k = k' then some v else aget m k' := by
  unfold aput
  by_cases h : ahas m k = true
  · rw [if_pos h]
    have e : ∀ m : List (κ × α), ahas m k = true → aget (m.map fun p => if p.1 = k then (p.1, v) else p) k' = if k = k' then some v else aget m k' := by
      intro m
      induction m with
      | nil => intro h; simp [ahas] at h
      | cons p m ih =>
        intro h
        by_cases hp : p.1 = k
        · by_cases hk : k = k'
          · subst hk
            simp [aget, hp]
          · rw [if_neg hk]
            have hne : ¬ p.1 = k' := fun z => hk (hp.symm.trans z)
            by_cases h2 : ahas m k = true
            · have := ih h2
              rw [if_neg hk] at this
              unfold aget at this ⊢
              rw [List.map_cons, List.find?_cons, List.find?_cons]
              simp only [hp, if_true]
              rw [show decide (k = k') = false from decide_eq_false hk]
              exact this
            · have h3 : m.map (fun p => if p.1 = k then (p.1, v) else p) = m := by
                rw [List.map_congr_left (g := id)]
                · simp
                · intro q hq
                  have : ¬ q.1 = k := fun z => h2 (List.any_eq_true.mpr ⟨q, hq, by simp [z]⟩)
                  simp [this]
              unfold aget
              rw [List.map_cons, h3, List.find?_cons, List.find?_cons]
              simp [hp, hk]
        · have h2 : ahas m k = true := by
            unfold ahas at h ⊢
            rw [List.any_cons] at h
            simpa [hp] using h
          have := ih h2
          unfold aget at this ⊢
          rw [List.map_cons, List.find?_cons, List.find?_cons]
          simp only [hp, if_false]
          by_cases hk : p.1 = k'
          · have : ¬ k = k' := fun z => hp (hk.trans z.symm)
            simp [hk, this]
          · simp only [hk, decide_false]
            exact this
    exact e m h
  · rw [if_neg h]
    have hn : aget m k = none := by
      have := ahas_iff (m := m) (k := k)
      cases e : aget m k with
      | none => rfl
      | some x => rw [e] at this; exact absurd this h
    unfold aget at hn ⊢
    rw [List.find?_append]
    by_cases hk : k = k'
    · subst hk
      rw [if_pos rfl]
      rw [Option.map_eq_none_iff] at hn
      rw [hn]
      simp
    · rw [if_neg hk]
      cases m.find? (fun p => decide (p.1 = k')) with
      | some x => simp
      | none => simp [hk]
theorem ahas_put (m : List (κ × α)) (k k' : κ) (v : α) : ahas (aput m k v) k' = (decide (k = k') || ahas m k') := by
  rw [ahas_iff, aget_put, ahas_iff]
  by_cases h : k = k' <;> simp [h]
theorem aput_len (m : List (κ × α)) (k : κ) (v : α) : (aput m k v).length ≤ m.length + 1 := by
  unfold aput
  split <;> simp
theorem aputO_e {m : List (κ × α)} {k : κ} {v : α} (h : m.length < 1000000) : aputO m k v = some (aput m k v) := if_pos h
theorem aput_new {m : List (κ × α)} {k : κ} {v : α} (h : ahas m k = false) : aput m k v = m ++ [(k, v)] := by
  unfold aput
  rw [if_neg (by rw [h]; exact Bool.false_ne_true)]
@[simp] theorem aget_nil (k : κ) : aget ([] : List (κ × α)) k = none := rfl
@[simp] theorem ahas_nil (k : κ) : ahas ([] : List (κ × α)) k = false := rfl
end
end

theorem minI_eq (i j : Int) : minI i j = min i j := by unfold minI; split <;> omega
theorem maxI_eq (i j : Int) : maxI i j = max i j := by unfold maxI; split <;> omega

theorem swo2 : SrtO.Swo ltP2 := ⟨fun x y h => EvS.lt_asym _ _ h, fun x y z h1 h2 => EvS.lt_neg_trans _ _ _ h2 h1⟩
theorem swo3 : SrtO.Swo ltP3 := ⟨fun x y h => EvS.lt_asym _ _ h, fun x y z h1 h2 => EvS.lt_neg_trans _ _ _ h2 h1⟩
theorem perm2 (xs : List (Int × Int)) : (sort2 xs).Perm xs := isort_perm xs
theorem perm3 (xs : List (Int × Int × Int)) : (sort3 xs).Perm xs := isort_perm xs
theorem permI (xs : List Int) : (sortI xs).Perm xs := isort_perm xs
theorem srt2 (xs : List (Int × Int)) : (sort2 xs).Pairwise fun a b => ltP2 b a = false := isort_srtd swo2 xs
theorem srt3 (xs : List (Int × Int × Int)) : (sort3 xs).Pairwise fun a b => ltP3 b a = false := isort_srtd swo3 xs
theorem srtI (xs : List Int) : (sortI xs).Pairwise fun a b => a ≤ b := (isort_srtd swo_int xs).imp fun h => by have := of_decide_eq_false h; omega
end Tg

set_option Elab.async false
set_option linter.all false
namespace Tg
open PySem PySem.Spec L2 Ev
open PyProof.Rows hiding St
section
variable {α β σ R T κ : Type}
theorem rng_at {n : Nat} {pre post : List Int} {x : Int} (e : (List.range n).map (fun (k : Nat) => (k : Int)) = pre ++ x :: post) : pre.length < n ∧ x = (pre.length : Int) := by
  have h1 := congrArg List.length e
  simp at h1
  have h2 : ((List.range n).map fun (k : Nat) => (k : Int))[pre.length]? = some x := by rw [e]; simp
  rw [List.getElem?_map, List.getElem?_range (by omega)] at h2
  simp at h2
  exact ⟨by omega, h2.symm⟩
theorem forC_rng {n : Nat} {s0 : σ} {f : Int → σ → Option (Ctl σ R)} (P : Nat → σ → Prop) (Q : R → Prop) (h0 : P 0 s0)
    (hs : ∀ (k : Nat) s, k < n → P k s → (∃ s', f k s = some (.nx s') ∧ P (k + 1) s') ∨ ∃ r, f k s = some (.rt r) ∧ Q r) :
    (∃ s', forC ((List.range n).map fun (k : Nat) => (k : Int)) s0 f = some (.inl s') ∧ P n s') ∨ ∃ r, forC ((List.range n).map fun (k : Nat) => (k : Int)) s0 f = some (.inr r) ∧ Q r := by
  have := forC_inv (xs := (List.range n).map fun (k : Nat) => (k : Int)) (f := f) (fun pre s => P pre.length s) Q h0 fun pre x post s e p => by
    obtain ⟨hk, hx⟩ := rng_at e
    have := hs pre.length s hk p
    rw [hx, List.length_append]
    exact this
  simpa using this
theorem forS_rng {n : Nat} {s0 : σ} {f : Int → σ → Option σ} (P : Nat → σ → Prop) (h0 : P 0 s0)
    (hs : ∀ (k : Nat) s, k < n → P k s → (∃ s', f k s = some s' ∧ P (k + 1) s')) : ∃ s', forS ((List.range n).map fun (k : Nat) => (k : Int)) s0 f = some s' ∧ P n s' := by
  have := forS_inv (xs := (List.range n).map fun (k : Nat) => (k : Int)) (f := f) (fun pre s => P pre.length s) h0 fun pre x post s e p => by
    obtain ⟨hk, hx⟩ := rng_at e
    have := hs pre.length s hk p
    rw [hx, List.length_append]
    exact this
  simpa using this
theorem take_snoc {xs : List α} {k : Nat} (hk : k < xs.length) : xs.take (k + 1) = xs.take k ++ [xs[k]] := by rw [List.take_succ, List.getElem?_eq_getElem hk]; rfl
end
end Tg

set_option Elab.async false
set_option linter.all false
set_option maxRecDepth 100000

namespace Pr
open PySem PySem.Spec L2 Ev Tg
open PyProof.Rows hiding St
theorem aget_cons {κ α : Type} [DecidableEq κ] (p : κ × α) (m : List (κ × α)) (k : κ) : aget (p :: m) k = if p.1 = k then some p.2 else aget m k := by
  unfold aget
  rw [List.find?_cons]
  by_cases h : p.1 = k <;> simp [h]
theorem cutL_len {α : Type} (xs : List α) (lo hi : Option Int) : (cutL xs lo hi).length ≤ xs.length := by
  unfold cutL
  rw [List.length_take, List.length_drop]
  omega
theorem cutL_sub {α : Type} (xs : List α) (lo hi : Option Int) : (cutL xs lo hi).Sublist xs := by
  unfold cutL
  exact (List.take_sublist _ _).trans (List.drop_sublist _ _)
theorem ahas_keys {κ α : Type} [DecidableEq κ] {m : List (κ × α)} {k : κ} : ahas m k = decide (k ∈ m.map (·.1)) := by
  unfold ahas
  rw [Bool.eq_iff_iff, decide_eq_true_eq, List.any_eq_true, List.mem_map]
  constructor
  · rintro ⟨p, h, e⟩; exact ⟨p, h, of_decide_eq_true e⟩
  · rintro ⟨p, h, e⟩; exact ⟨p, h, decide_eq_true e⟩
theorem ahas_key {κ α : Type} [DecidableEq κ] {m : List (κ × α)} {k : κ} : ahas m k = true ↔ k ∈ m.map (·.1) := by rw [ahas_keys, decide_eq_true_eq]
theorem aget_mem {κ α : Type} [DecidableEq κ] {m : List (κ × α)} {k : κ} {v : α} (h : aget m k = some v) : (k, v) ∈ m := by
  unfold aget at h
  obtain ⟨p, h1, h2⟩ := Option.map_eq_some_iff.mp h
  have e : p.1 = k := by have := List.find?_some h1; simpa using this
  have m1 := List.mem_of_find?_eq_some h1
  rw [← h2, ← e]
  exact m1
end Pr

set_option Elab.async false
set_option linter.all false
set_option maxRecDepth 100000

namespace Pr
open PySem PySem.Spec L2 Ev Tg
open PyProof.Rows hiding St
theorem len_of_sub {α : Type} [DecidableEq α] : ∀ {xs ys : List α}, xs.Nodup → (∀ x ∈ xs, x ∈ ys) → xs.length ≤ ys.length
  | [], _, _, _ => Nat.zero_le _
  | x :: xs, ys, nd, h => by
    rw [List.nodup_cons] at nd
    have hx : x ∈ ys := h x List.mem_cons_self
    have := len_of_sub (ys := ys.erase x) nd.2 fun y hy => by
      have hne : y ≠ x := fun e => nd.1 (e ▸ hy)
      exact (List.mem_erase_of_ne hne).mpr (h y (List.mem_cons_of_mem _ hy))
    rw [List.length_erase_of_mem hx] at this
    have hp : 0 < ys.length := List.length_pos_of_mem hx
    rw [List.length_cons]
    omega
theorem sub_of_len {α : Type} [DecidableEq α] {xs ys : List α} (nd : xs.Nodup) (h : ∀ x ∈ xs, x ∈ ys) (hl : ys.length ≤ xs.length) : ∀ y ∈ ys, y ∈ xs := fun y hy => by
  by_cases hm : y ∈ xs
  · exact hm
  · have := len_of_sub (xs := y :: xs) (ys := ys) (List.nodup_cons.mpr ⟨hm, nd⟩) fun z hz => by
      rcases List.mem_cons.mp hz with rfl | hz
      · exact hy
      · exact h z hz
    rw [List.length_cons] at this
    omega
theorem perm_of_iff {α : Type} [DecidableEq α] : ∀ {xs ys : List α}, xs.Nodup → ys.Nodup → (∀ x, x ∈ xs ↔ x ∈ ys) → xs.Perm ys := fun {xs ys} h1 h2 h => by
  rw [List.perm_iff_count]
  intro a
  by_cases m : a ∈ xs
  · rw [h1.count, h2.count, if_pos m, if_pos ((h a).mp m)]
  · rw [List.count_eq_zero_of_not_mem m, List.count_eq_zero_of_not_mem fun z => m ((h a).mpr z)]
theorem nd_le {n : Nat} {xs : List Int} (nd : xs.Nodup) (h : ∀ x ∈ xs, 0 ≤ x ∧ x < n) : xs.length ≤ n := by
  have := len_of_sub (ys := (List.range n).map fun (k : Nat) => (k : Int)) nd fun x hx => by
    have := h x hx
    exact List.mem_map.mpr ⟨x.toNat, List.mem_range.mpr (by omega), by omega⟩
  simpa using this

abbrev Up (xs : List Int) : Prop := xs.Pairwise fun a b => a < b
theorem Up.nd {xs : List Int} (h : Up xs) : xs.Nodup := h.imp fun h => by omega
theorem sortI_up {xs : List Int} (nd : xs.Nodup) : Up (sortI xs) := by
  have h1 := srtI xs
  have h2 : (sortI xs).Nodup := (permI xs).nodup_iff.mpr nd
  exact (h1.and h2).imp fun ⟨a, b⟩ => by omega
theorem up_uniq : ∀ {xs ys : List Int}, Up xs → Up ys → (∀ x, x ∈ xs ↔ x ∈ ys) → xs = ys
  | [], [], _, _, _ => rfl
  | [], y :: ys, _, _, h => absurd ((h y).mpr List.mem_cons_self) (fun z => nomatch z)
  | x :: xs, [], _, _, h => absurd ((h x).mp List.mem_cons_self) (fun z => nomatch z)
  | x :: xs, y :: ys, h1, h2, h => by
    have g1 := List.pairwise_cons.mp h1
    have g2 := List.pairwise_cons.mp h2
    have e : x = y := by
      rcases List.mem_cons.mp ((h x).mp List.mem_cons_self) with e | m
      · exact e
      · rcases List.mem_cons.mp ((h y).mpr List.mem_cons_self) with e | m2
        · exact e.symm
        · have := g2.1 x m
          have := g1.1 y m2
          omega
    subst e
    rw [up_uniq g1.2 g2.2 fun z => ?_]
    constructor
    · intro hz
      rcases List.mem_cons.mp ((h z).mp (List.mem_cons_of_mem _ hz)) with e | m
      · subst e; exact absurd (g1.1 z hz) (by omega)
      · exact m
    · intro hz
      rcases List.mem_cons.mp ((h z).mpr (List.mem_cons_of_mem _ hz)) with e | m
      · subst e; exact absurd (g2.1 z hz) (by omega)
      · exact m
theorem sort_of_up {xs : List Int} (h : Up xs) : sortI xs = xs := up_uniq (sortI_up h.nd) h fun x => (permI xs).mem_iff
end Pr

set_option Elab.async false
set_option linter.all false

namespace Pr
open PySem PySem.Spec L2 Ev Tg
open PyProof.Rows hiding St
section
variable {α : Type}
theorem cut_to (xs : List α) (k : Nat) : cutL xs none (some (k : Int)) = xs.take k := by
  unfold cutL
  rw [HT.sIx_none, HT.sIx_nat, List.drop_zero]
  by_cases h : k ≤ xs.length
  · rw [show min k xs.length - 0 = k by omega]
  · rw [List.take_of_length_le (by omega), List.take_of_length_le (by omega)]
theorem cut_from (xs : List α) (k : Nat) : cutL xs (some (k : Int)) none = xs.drop k := by
  unfold cutL
  rw [HT.sIx_none, HT.sIx_nat]
  by_cases h : k ≤ xs.length
  · rw [show min k xs.length = k by omega, List.take_of_length_le (by rw [List.length_drop]; omega)]
  · rw [List.drop_eq_nil_of_le (by omega), List.drop_eq_nil_of_le (by omega)]
    simp
theorem cut_mid (xs : List α) (i j : Nat) (h : i ≤ j) : cutL xs (some (i : Int)) (some (j : Int)) = (xs.take j).drop i := by
  unfold cutL
  rw [HT.sIx_nat, HT.sIx_nat, List.drop_take]
  by_cases h1 : i ≤ xs.length
  · rw [show min i xs.length = i by omega]
    by_cases h2 : j ≤ xs.length
    · rw [show min j xs.length = j by omega]
    · rw [List.take_of_length_le (by rw [List.length_drop]; omega), List.take_of_length_le (by rw [List.length_drop]; omega)]
  · rw [List.drop_eq_nil_of_le (by omega), List.drop_eq_nil_of_le (by omega)]
    simp
theorem cut_1 (xs : List α) : cutL xs (some (1 : Int)) none = xs.tail := by
  have := cut_from xs 1
  rw [show ((1 : Nat) : Int) = 1 from rfl] at this
  rw [this, List.drop_one]
theorem cut_t1 (xs : List α) : cutL xs none (some (1 : Int)) = xs.take 1 := cut_to xs 1
theorem idx_last (xs : List α) : idx xs (-(1 : Int)) = xs.getLast? := by
  unfold idx atI ixN
  rw [if_neg (by decide), List.getLast?_eq_getElem?]
  by_cases h : xs = []
  · subst h; rfl
  · have : 0 < xs.length := List.length_pos_iff.mpr h
    rw [if_pos (by omega)]
    simp only [Option.bind_some]
    congr 1
    omega
end
theorem dedI_len' {ns : List Int} : (dedI ns).length = ns.length ↔ ns.Nodup := by
  have go : ∀ (ns acc : List Int), acc.Nodup → (ns.foldl PyProof.Rows.step_dedup acc).length ≤ acc.length + ns.length ∧ ((ns.foldl PyProof.Rows.step_dedup acc).length = acc.length + ns.length ↔ (acc ++ ns).Nodup) := by
    intro ns
    induction ns with
    | nil => intro acc h; simp [h]
    | cons x ns ih =>
      intro acc h
      rw [List.foldl_cons]
      by_cases hx : x ∈ acc
      · have e : PyProof.Rows.step_dedup acc x = acc := if_pos (by simpa using hx)
        rw [e]
        have := ih acc h
        rw [List.length_cons]
        refine ⟨by omega, ?_⟩
        constructor
        · intro e
          omega
        · intro e
          have := (List.nodup_append.mp e).2.2 x hx x (by simp)
          exact absurd rfl this
      · have e : PyProof.Rows.step_dedup acc x = acc ++ [x] := if_neg (by simpa using hx)
        rw [e]
        have hn : (acc ++ [x]).Nodup := by
          rw [List.nodup_append]
          exact ⟨h, by simp, fun a ha b hb => by simp at hb; subst hb; rintro rfl; exact hx ha⟩
        have := ih (acc ++ [x]) hn
        rw [List.append_assoc, List.length_append] at this
        rw [List.length_cons]
        simp only [List.length_cons, List.length_nil, List.singleton_append] at this
        refine ⟨by omega, ?_⟩
        rw [← this.2]
        omega
  have := (go ns [] List.nodup_nil).2
  simpa [dedI] using this
open Classical in
theorem kinds_eq {xs : List Int} (h : xs.length < 4000) : ∃ n : Int, kindsO xs = some n ∧ (n = (xs.length : Int) ↔ xs.Nodup) := by
  refine ⟨((dedI xs).length : Int), if_pos h, ?_⟩
  rw [Int.ofNat_inj]
  exact dedI_len'
theorem lt2' (p q : Int × Int) : ltP2 p q = true ↔ p.1 < q.1 ∨ p.1 = q.1 ∧ p.2 < q.2 := by
  unfold ltP2
  rw [HT.lexLt_cons, HT.lexLt_cons]
  have : HT.lexLt [] [] = false := rfl
  rw [this]
  by_cases h : p.1 = q.1
  · rw [if_pos h]
    by_cases h2 : p.2 = q.2
    · rw [if_pos h2]; simp; omega
    · rw [if_neg h2]; simp; omega
  · rw [if_neg h]; simp; omega

theorem srt_uniq : ∀ {xs ys : List (Int × Int)}, xs.Pairwise (fun a b => ltP2 b a = false) → ys.Pairwise (fun a b => ltP2 b a = false) → xs.Perm ys → xs = ys
  | [], ys, _, _, p => (List.Perm.nil_eq p)
  | x :: xs, [], _, _, p => absurd p.length_eq (by simp)
  | x :: xs, y :: ys, h1, h2, p => by
    have g1 := List.pairwise_cons.mp h1
    have g2 := List.pairwise_cons.mp h2
    have e : x = y := by
      rcases List.mem_cons.mp (p.mem_iff.mp List.mem_cons_self) with e | m
      · exact e
      · rcases List.mem_cons.mp (p.mem_iff.mpr List.mem_cons_self) with e | m2
        · exact e.symm
        · have a1 := g2.1 x m
          have a2 := g1.1 y m2
          rw [← Bool.not_eq_true, lt2'] at a1 a2
          obtain ⟨x1, x2⟩ := x
          obtain ⟨y1, y2⟩ := y
          simp only at a1 a2
          have : x1 = y1 := by omega
          have : x2 = y2 := by omega
          simp [*]
    subst e
    rw [srt_uniq g1.2 g2.2 (List.Perm.cons_inv p)]
theorem sort2_perm {xs ys : List (Int × Int)} (p : xs.Perm ys) : sort2 xs = sort2 ys := srt_uniq (srt2 xs) (srt2 ys) ((perm2 xs).trans (p.trans (perm2 ys).symm))
theorem sort2_of {xs ys : List (Int × Int)} (p : xs.Perm ys) (h : ys.Pairwise fun a b => ltP2 b a = false) : sort2 xs = ys := srt_uniq (srt2 xs) h ((perm2 xs).trans p)
theorem sort2_id (xs : List (Int × Int)) : sort2 (sort2 xs) = sort2 xs := sort2_perm (perm2 xs)
end Pr

set_option Elab.async false
set_option linter.all false

namespace Pr
open PySem PySem.Spec L2 Ev Tg
open PyProof.Rows hiding St
theorem cell_all (ns : List Int) (i : Int) (h : 0 ≤ i) : ∃ c, p_law_cell_at ns i = some c := by
  obtain ⟨k, rfl⟩ : ∃ k : Nat, i = k := ⟨i.toNat, by omega⟩
  unfold p_law_cell_at
  by_cases h : k < ns.length
  · rw [if_pos (by simpa using h), idx_lt h, bindO_s]
    exact ⟨_, rfl⟩
  · rw [if_neg (by simpa using h)]
    exact ⟨_, rfl⟩
structure Ord (n : Nat) (o : List Int) : Prop where
  nd : o.Nodup
  mem : ∀ x, x ∈ o ↔ 0 ≤ x ∧ x < n
  len : o.length = n
theorem order_eq (ns : List Int) (n : Nat) (hn : n ≤ 1000) : ∃ o, p_law_order ns n = some o ∧ Ord n o := by
  unfold p_law_order
  rw [letB_eq, rng_e (by omega), bindO_s]
  obtain ⟨o, e, h⟩ := forS_rng (n := n) (s0 := ([] : List Int)) (f := fun (x4 : Int) (s4 : (List Int)) => p_law_order_L1 ns x4 s4) (fun k s => Ord k s) ⟨List.nodup_nil, fun x => ⟨fun h => (nomatch h), fun h => by omega⟩, rfl⟩ fun k s hk ⟨nd, mem, len⟩ => by
    obtain ⟨c, ec⟩ := cell_all ns (k + 1) (by omega)
    unfold p_law_order_L1
    rw [ec, bindO_s, letB_eq, modP (by omega), bindO_s]
    generalize hv : (c + 7 * (k : Int) + 3) * 48271 % 2147483647 % ((k : Int) + 1) = v
    have hv0 : 0 ≤ v := by rw [← hv]; exact Int.emod_nonneg _ (by omega)
    have hv1 : v < (k : Int) + 1 := by rw [← hv]; exact Int.emod_lt_of_pos _ (by omega)
    have : insO s v k = some (s.take v.toNat ++ [(k : Int)] ++ s.drop v.toNat) := if_pos ⟨by omega, hv0, by omega⟩
    rw [this, bindO_s]
    have pm : (s.take v.toNat ++ [(k : Int)] ++ s.drop v.toNat).Perm ((k : Int) :: s) := by
      have := List.perm_middle (a := (k : Int)) (l₁ := s.take v.toNat) (l₂ := s.drop v.toNat)
      rw [List.take_append_drop] at this
      simpa using this
    refine ⟨_, rfl, ?_, fun x => ?_, ?_⟩
    · rw [pm.nodup_iff, List.nodup_cons]
      exact ⟨fun z => by have := (mem k).mp z; omega, nd⟩
    · rw [pm.mem_iff, List.mem_cons, mem]
      omega
    · rw [pm.length_eq, List.length_cons, len]
  exact ⟨o, by rw [e, bindO_s], h⟩
end Pr

set_option Elab.async false
set_option linter.all false
set_option maxRecDepth 100000
namespace Pr
open PySem PySem.Spec L2 Ev Tg
open PyProof.Rows hiding St
theorem tie_eq (a b : Int) : p_law_tie a b = some (min a b, max a b) := by
  unfold p_law_tie
  rw [minI_eq, maxI_eq]
end Pr

set_option Elab.async false
set_option linter.all false
set_option maxRecDepth 100000

namespace Pr
open PySem PySem.Spec L2 Ev Tg
open PyProof.Rows hiding St
abbrev Pairs := List (Int × Int)
def mt1 (x : Int) (p : Int × Int) : Option Int := if p.1 = x then some p.2 else if p.2 = x then some p.1 else none
def mate (ps : Pairs) (x : Int) : Option Int := ps.findSome? (mt1 x)
def pts (ps : Pairs) : List Int := ps.flatMap fun p => [p.1, p.2]
structure Mt (ps : Pairs) : Prop where
  lt : ∀ p ∈ ps, p.1 < p.2
  nd : (pts ps).Nodup
theorem pts_app (a b : Pairs) : pts (a ++ b) = pts a ++ pts b := List.flatMap_append
theorem pts_cons (p : Int × Int) (b : Pairs) : pts (p :: b) = p.1 :: p.2 :: pts b := rfl
theorem mem_pts {ps : Pairs} {x : Int} : x ∈ pts ps ↔ ∃ p ∈ ps, x = p.1 ∨ x = p.2 := by
  unfold pts
  simp
theorem mate_none {ps : Pairs} {x : Int} : mate ps x = none ↔ x ∉ pts ps := by
  unfold mate
  rw [List.findSome?_eq_none_iff, mem_pts]
  constructor
  · rintro h ⟨p, hp, e⟩
    have := h p hp
    unfold mt1 at this
    rcases e with rfl | rfl
    · rw [if_pos rfl] at this; cases this
    · split at this
      · cases this
      · rw [if_pos rfl] at this; cases this
  · intro h p hp
    unfold mt1
    rw [if_neg fun e => h ⟨p, hp, .inl e.symm⟩, if_neg fun e => h ⟨p, hp, .inr e.symm⟩]
theorem mate_app (a b : Pairs) (x : Int) : mate (a ++ b) x = (mate a x).or (mate b x) := by
  unfold mate
  rw [List.findSome?_append]
theorem mate_some {ps : Pairs} {x y : Int} (h : mate ps x = some y) : (x, y) ∈ ps ∨ (y, x) ∈ ps := by
  unfold mate at h
  obtain ⟨p, hp, e⟩ := List.exists_of_findSome?_eq_some h
  unfold mt1 at e
  split at e
  · rename_i h1; cases e; subst h1; exact .inl hp
  · split at e
    · rename_i h1; cases e; subst h1; exact .inr hp
    · cases e
theorem Mt.nil : Mt [] := ⟨fun _ h => (nomatch h), List.nodup_nil⟩
theorem pts_perm {a b : Pairs} (h : a.Perm b) : (pts a).Perm (pts b) := h.flatMap_right _
theorem Mt.perm {a b : Pairs} (h : a.Perm b) (m : Mt a) : Mt b := ⟨fun p hp => m.lt p (h.mem_iff.mpr hp), (pts_perm h).nodup_iff.mp m.nd⟩
theorem Mt.sub {a b : Pairs} (h : a.Sublist b) (m : Mt b) : Mt a := ⟨fun p hp => m.lt p (h.subset hp), m.nd.sublist (by
  unfold pts
  induction h with
  | slnil => exact .slnil
  | cons a h ih => exact (ih ⟨fun p hp => m.lt p (List.mem_cons_of_mem _ hp), (List.nodup_append.mp m.nd).2.1⟩).trans (List.sublist_append_right _ _)
  | cons_cons a h ih => exact List.Sublist.append (List.Sublist.refl _) (ih ⟨fun p hp => m.lt p (List.mem_cons_of_mem _ hp), (List.nodup_append.mp m.nd).2.1⟩))⟩
theorem mate_iff {ps : Pairs} (m : Mt ps) {x y : Int} : mate ps x = some y ↔ (x, y) ∈ ps ∨ (y, x) ∈ ps := by
  refine ⟨mate_some, fun h => ?_⟩
  induction ps with
  | nil => rcases h with h | h <;> cases h
  | cons p ps ih =>
    obtain ⟨a, b⟩ := p
    have nd := m.nd
    rw [pts_cons] at nd
    simp only [List.nodup_cons, List.mem_cons, not_or] at nd
    obtain ⟨⟨hab, ha⟩, hb, nd'⟩ := nd
    have m' : Mt ps := ⟨fun p hp => m.lt p (List.mem_cons_of_mem _ hp), nd'⟩
    unfold mate
    rw [List.findSome?_cons]
    unfold mt1
    by_cases e1 : a = x
    · rw [if_pos e1]
      subst e1
      simp only [List.mem_cons, Prod.mk.injEq] at h
      rcases h with (⟨_, h⟩ | h) | (⟨h1, h2⟩ | h)
      · rw [h]
      · exact absurd (mem_pts.mpr ⟨_, h, .inl rfl⟩) ha
      · exact absurd h2 hab
      · exact absurd (mem_pts.mpr ⟨_, h, .inr rfl⟩) ha
    · rw [if_neg e1]
      by_cases e2 : b = x
      · rw [if_pos e2]
        subst e2
        simp only [List.mem_cons, Prod.mk.injEq] at h
        rcases h with (⟨h1, _⟩ | h) | (⟨h1, _⟩ | h)
        · exact absurd h1.symm e1
        · exact absurd (mem_pts.mpr ⟨_, h, .inl rfl⟩) hb
        · rw [h1]
        · exact absurd (mem_pts.mpr ⟨_, h, .inr rfl⟩) hb
      · rw [if_neg e2]
        refine ih m' ?_
        simp only [List.mem_cons, Prod.mk.injEq] at h
        rcases h with (⟨h1, _⟩ | h) | (⟨_, h1⟩ | h)
        · exact absurd h1.symm e1
        · exact .inl h
        · exact absurd h1.symm e2
        · exact .inr h

theorem used_fill {β : Type} (v : β) {ps : Pairs} (hl : ps.length ≤ 100000) (f : Int × Int → List (Int × β) → Option (List (Int × β))) (hf : ∀ p s, f p s = bindO (aputO s p.1 v) fun s2 => bindO (aputO s2 p.2 v) fun s3 => some s3) :
    ∃ u, forS ps [] f = some u ∧ ∀ x, ahas u x = decide (x ∈ pts ps) := by
  obtain ⟨u, e, h, _⟩ := forS_inv (xs := ps) (s0 := ([] : List (Int × β))) (f := f) (fun pre s => (∀ x, ahas s x = decide (x ∈ pts pre)) ∧ s.length ≤ 2 * pre.length) ⟨fun x => by simp [pts], by simp⟩ fun pre p post s e ⟨h, hs⟩ => by
    have hp : pre.length < ps.length := by rw [e]; simp
    have l1 := aput_len s p.1 v
    have l2 := aput_len (aput s p.1 v) p.2 v
    refine ⟨aput (aput s p.1 v) p.2 v, ?_, fun x => ?_, ?_⟩
    · rw [hf, aputO_e (by omega), bindO_s, aputO_e (by omega), bindO_s]
    · rw [ahas_put, ahas_put, h, pts_app, Bool.eq_iff_iff]
      simp only [Bool.or_eq_true, decide_eq_true_eq, List.mem_append, pts_cons, List.mem_cons]
      grind [pts]
    · simp only [List.length_append, List.length_cons, List.length_nil]
      omega
  exact ⟨u, e, h⟩

theorem mate_fill {ps : Pairs} (m : Mt ps) (hl : ps.length ≤ 100000) (f : Int × Int → List (Int × Int) → Option (List (Int × Int))) (hf : ∀ p s, f p s = bindO (aputO s p.1 p.2) fun s2 => bindO (aputO s2 p.2 p.1) fun s3 => some s3) :
    ∃ u, forS ps [] f = some u ∧ ∀ x, aget u x = mate ps x := by
  obtain ⟨u, e, h, _⟩ := forS_inv (xs := ps) (s0 := ([] : List (Int × Int))) (f := f) (fun pre s => (∀ x, aget s x = mate pre x) ∧ s.length ≤ 2 * pre.length) ⟨fun x => by simp [mate], by simp⟩ fun pre p post s e ⟨h, hs⟩ => by
    have hp : pre.length < ps.length := by rw [e]; simp
    have l1 := aput_len s p.1 p.2
    have l2 := aput_len (aput s p.1 p.2) p.2 p.1
    refine ⟨aput (aput s p.1 p.2) p.2 p.1, ?_, fun x => ?_, ?_⟩
    · rw [hf, aputO_e (by omega), bindO_s, aputO_e (by omega), bindO_s]
    · have nd := m.nd
      rw [e, pts_app, pts_cons, List.nodup_append] at nd
      have n1 : p.1 ∉ pts pre := fun z => nd.2.2 p.1 z p.1 (by simp) rfl
      have n2 : p.2 ∉ pts pre := fun z => nd.2.2 p.2 z p.2 (by simp) rfl
      have hlt := m.lt p (by rw [e]; simp)
      rw [aget_put, aget_put, h, mate_app]
      unfold mate
      simp only [List.findSome?_cons, List.findSome?_nil]
      unfold mt1
      by_cases e1 : p.2 = x
      · subst e1
        rw [if_pos rfl, if_neg (by omega), if_pos rfl]
        have := mate_none.mpr n2
        unfold mate at this
        unfold mt1 at this
        rw [this]
        rfl
      · rw [if_neg e1]
        by_cases e2 : p.1 = x
        · subst e2
          rw [if_pos rfl, if_pos rfl]
          have := mate_none.mpr n1
          unfold mate at this
          unfold mt1 at this
          rw [this]
          rfl
        · rw [if_neg e2, if_neg e2, if_neg e1]
          simp
    · simp only [List.length_append, List.length_cons, List.length_nil]
      omega
  exact ⟨u, e, h⟩
theorem findSome_some {α β : Type} (q : α → Option β) (xs : List α) : xs.findSome? (fun x => (q x).map some) = (xs.findSome? q).map some := by
  induction xs with
  | nil => rfl
  | cons x xs ih =>
    rw [List.findSome?_cons, List.findSome?_cons, ih]
    cases q x <;> rfl
end Pr

set_option Elab.async false
set_option linter.all false
set_option maxRecDepth 100000

namespace Pr
open PySem PySem.Spec L2 Ev Tg
open PyProof.Rows hiding St
abbrev tk (a b : Int) : Int × Int := (min a b, max a b)
theorem tk_comm (a b : Int) : tk a b = tk b a := Prod.ext (by show min a b = min b a; omega) (by show max a b = max b a; omega)
def al : List Int → Pairs
  | a :: b :: r => tk a b :: al (b :: r)
  | _ => []
theorem al_len : ∀ row : List Int, (al row).length = row.length - 1
  | [] => rfl
  | [_] => rfl
  | a :: b :: r => by
    show (al (b :: r)).length + 1 = _
    rw [al_len (b :: r)]
    simp
theorem al_get : ∀ {row : List Int} {k : Nat} {a b : Int}, row[k]? = some a → row[k + 1]? = some b → (al row)[k]? = some (tk a b)
  | [], _, _, _, h, _ => by simp at h
  | [_], 0, _, _, _, h => by simp at h
  | [_], k + 1, _, _, h, _ => by simp at h
  | x :: y :: r, 0, a, b, h, h2 => by
    simp at h h2
    subst h h2
    rfl
  | x :: y :: r, k + 1, a, b, h, h2 => by
    show (tk x y :: al (y :: r))[k + 1]? = _
    rw [List.getElem?_cons_succ]
    exact al_get (row := y :: r) (by simpa using h) (by simpa using h2)
theorem al_at {row : List Int} {k : Nat} {p : Int × Int} (h : (al row)[k]? = some p) : ∃ a b, row[k]? = some a ∧ row[k + 1]? = some b ∧ p = tk a b := by
  have hk := (List.getElem?_eq_some_iff.mp h).1
  rw [al_len] at hk
  have h1 : row[k]? = some row[k] := List.getElem?_eq_getElem (by omega)
  have h2 : row[k + 1]? = some row[k + 1] := List.getElem?_eq_getElem (by omega)
  refine ⟨_, _, h1, h2, ?_⟩
  rw [al_get h1 h2] at h
  exact (Option.some.inj h).symm
theorem al_app : ∀ (xs : List Int) (a b : Int) (ys : List Int), al (xs ++ a :: b :: ys) = al (xs ++ [a]) ++ tk a b :: al (b :: ys)
  | [], a, b, ys => rfl
  | [x], a, b, ys => rfl
  | x :: y :: xs, a, b, ys => by
    show tk x y :: al ((y :: xs) ++ a :: b :: ys) = tk x y :: (al ((y :: xs) ++ [a]) ++ _)
    rw [al_app (y :: xs) a b ys]
theorem al_rev : ∀ row : List Int, al row.reverse = (al row).reverse
  | [] => rfl
  | [_] => rfl
  | a :: b :: r => by
    have h1 : (a :: b :: r).reverse = r.reverse ++ b :: a :: [] := by simp
    have h2 : (b :: r).reverse = r.reverse ++ [b] := by simp
    have h3 : al (a :: b :: r) = tk a b :: al (b :: r) := rfl
    rw [h1, al_app, ← h2, al_rev (b :: r), h3, List.reverse_cons, tk_comm b a]
    rfl
theorem al_zip : ∀ row : List Int, (row.zip row.tail).map (fun y => tk y.1 y.2) = al row
  | [] => rfl
  | [_] => rfl
  | a :: b :: r => by
    show tk a b :: ((b :: r).zip (b :: r).tail).map (fun y => tk y.1 y.2) = _
    rw [al_zip (b :: r)]
    rfl
theorem nd_get {α : Type} {xs : List α} (nd : xs.Nodup) {i j : Nat} {x : α} (h1 : xs[i]? = some x) (h2 : xs[j]? = some x) : i = j := by
  obtain ⟨a, b⟩ := List.getElem?_eq_some_iff.mp h1
  obtain ⟨c, d⟩ := List.getElem?_eq_some_iff.mp h2
  rw [List.nodup_iff_pairwise_ne, List.pairwise_iff_getElem] at nd
  rcases Nat.lt_trichotomy i j with h | h | h
  · exact absurd (b.trans d.symm) (nd i j a c h)
  · exact h
  · exact absurd (d.trans b.symm) (nd j i c a h)

theorem al_end {row : List Int} (nd : row.Nodup) {k i : Nat} {p : Int × Int} {x : Int} (h : (al row)[k]? = some p) (hx : row[i]? = some x) (hp : x = p.1 ∨ x = p.2) : i = k ∨ i = k + 1 := by
  obtain ⟨a, b, h1, h2, rfl⟩ := al_at h
  have : x = a ∨ x = b := by
    rcases hp with hp | hp
    · have hp : x = min a b := hp
      omega
    · have hp : x = max a b := hp
      omega
  rcases this with rfl | rfl
  · exact .inl (nd_get nd hx h1)
  · exact .inr (nd_get nd hx h2)
theorem al_mem {row : List Int} {p : Int × Int} (h : p ∈ al row) : p.1 ∈ row ∧ p.2 ∈ row := by
  obtain ⟨k, hk, e⟩ := List.getElem_of_mem h
  obtain ⟨a, b, h1, h2, rfl⟩ := al_at (List.getElem?_eq_some_iff.mpr ⟨hk, e⟩)
  have ha := List.mem_of_getElem? h1
  have hb := List.mem_of_getElem? h2
  constructor
  · show min a b ∈ row
    rcases Int.le_total a b with h | h
    · rw [Int.min_eq_left h]; exact ha
    · rw [Int.min_eq_right h]; exact hb
  · show max a b ∈ row
    rcases Int.le_total a b with h | h
    · rw [Int.max_eq_right h]; exact hb
    · rw [Int.max_eq_left h]; exact ha
theorem al_lt {row : List Int} (nd : row.Nodup) {p : Int × Int} (h : p ∈ al row) : p.1 < p.2 := by
  obtain ⟨k, hk, e⟩ := List.getElem_of_mem h
  obtain ⟨a, b, h1, h2, rfl⟩ := al_at (List.getElem?_eq_some_iff.mpr ⟨hk, e⟩)
  have : a ≠ b := fun e => by
    subst e
    have := nd_get nd h1 h2
    omega
  show min a b < max a b
  omega
theorem al_nd {row : List Int} (nd : row.Nodup) : (al row).Nodup := by
  rw [List.nodup_iff_pairwise_ne, List.pairwise_iff_getElem]
  intro i j hi hj hij e
  have g1 : (al row)[i]? = some (al row)[i] := List.getElem?_eq_getElem hi
  have g2 : (al row)[j]? = some (al row)[i] := by rw [List.getElem?_eq_getElem hj, e]
  obtain ⟨a, b, h1, h2, h3⟩ := al_at g1
  have q1 : a = (tk a b).1 ∨ a = (tk a b).2 := by show a = min a b ∨ a = max a b; omega
  have q2 : b = (tk a b).1 ∨ b = (tk a b).2 := by show b = min a b ∨ b = max a b; omega
  rw [h3] at g2
  have := al_end nd g2 h1 q1
  have := al_end nd g2 h2 q2
  omega
end Pr

set_option Elab.async false
set_option linter.all false
set_option maxRecDepth 100000

namespace Pr
open PySem PySem.Spec L2 Ev Tg
open PyProof.Rows hiding St

def rg (ring : List Int) : Pairs := al (ring ++ ring.take 1)
theorem rg_len {ring : List Int} (h : ring ≠ []) : (rg ring).length = ring.length := by
  have : 0 < ring.length := List.length_pos_iff.mpr h
  unfold rg
  rw [al_len, List.length_append, List.length_take]
  omega
theorem rg_cons (a : Int) (r : List Int) : rg (a :: r) = al (a :: r ++ [a]) := rfl
theorem al_snoc (xs : List Int) (a b : Int) : al (xs ++ [a] ++ [b]) = al (xs ++ [a]) ++ [tk a b] := by
  rw [List.append_assoc]
  exact al_app xs a b []

theorem rg_rot1 (a : Int) (r : List Int) : (rg (r ++ [a])).Perm (rg (a :: r)) := by
  cases r with
  | nil => exact List.Perm.refl _
  | cons b r =>
    have h1 : rg (a :: b :: r) = tk a b :: al (b :: r ++ [a]) := rfl
    have h2 : rg (b :: r ++ [a]) = al (b :: r ++ [a] ++ [b]) := rfl
    rw [h1, h2, al_snoc]
    exact List.perm_append_singleton _ _
theorem rg_rot (xs ys : List Int) : (rg (ys ++ xs)).Perm (rg (xs ++ ys)) := by
  induction xs generalizing ys with
  | nil => rw [List.append_nil]; exact List.Perm.refl _
  | cons a xs ih =>
    have h1 : ys ++ a :: xs = (ys ++ [a]) ++ xs := by simp
    rw [h1]
    have h2 := ih (ys ++ [a])
    have h3 : xs ++ (ys ++ [a]) = (xs ++ ys) ++ [a] := by simp
    rw [h3] at h2
    exact h2.trans (rg_rot1 a (xs ++ ys))
theorem rg_rev (ring : List Int) : (rg ring.reverse).Perm (rg ring) := by
  cases ring with
  | nil => exact List.Perm.refl _
  | cons a r =>
    rw [List.reverse_cons]
    refine (rg_rot1 a r.reverse).trans ?_
    rw [rg_cons, rg_cons]
    have : a :: r.reverse ++ [a] = (a :: r ++ [a]).reverse := by simp
    rw [this, al_rev]
    exact List.reverse_perm _
theorem rg_mem {ring : List Int} {p : Int × Int} (h : p ∈ rg ring) : p.1 ∈ ring ∧ p.2 ∈ ring := by
  have h1 := al_mem (row := ring ++ ring.take 1) h
  have : ∀ x, x ∈ ring ++ ring.take 1 → x ∈ ring := fun x hx => (List.mem_append.mp hx).elim id List.mem_of_mem_take
  exact ⟨this _ h1.1, this _ h1.2⟩

theorem rg_at {ring : List Int} {k : Nat} {p : Int × Int} (h : (rg ring)[k]? = some p) : ∃ a b, ring[k]? = some a ∧ ((k + 1 < ring.length ∧ ring[k + 1]? = some b) ∨ (k + 1 = ring.length ∧ ring[0]? = some b)) ∧ p = tk a b := by
  have hne : ring ≠ [] := fun e => by subst e; simp [rg, al] at h
  have hk := (List.getElem?_eq_some_iff.mp h).1
  rw [rg_len hne] at hk
  obtain ⟨a, b, h1, h2, h3⟩ := al_at (row := ring ++ ring.take 1) h
  rw [List.getElem?_append_left hk] at h1
  refine ⟨a, b, h1, ?_, h3⟩
  by_cases hk2 : k + 1 < ring.length
  · rw [List.getElem?_append_left hk2] at h2
    exact .inl ⟨hk2, h2⟩
  · have : k + 1 = ring.length := by omega
    rw [this, List.getElem?_append_right (Nat.le_refl _), Nat.sub_self] at h2
    rw [List.getElem?_take_of_lt (by omega)] at h2
    exact .inr ⟨this, h2⟩
theorem rg_get {ring : List Int} {k : Nat} {a b : Int} (h1 : ring[k]? = some a) (h2 : (k + 1 < ring.length ∧ ring[k + 1]? = some b) ∨ (k + 1 = ring.length ∧ ring[0]? = some b)) : (rg ring)[k]? = some (tk a b) := by
  have hk := (List.getElem?_eq_some_iff.mp h1).1
  refine al_get (row := ring ++ ring.take 1) (by rw [List.getElem?_append_left hk]; exact h1) ?_
  rcases h2 with ⟨h, h2⟩ | ⟨h, h2⟩
  · rw [List.getElem?_append_left h]; exact h2
  · rw [h, List.getElem?_append_right (Nat.le_refl _), Nat.sub_self, List.getElem?_take_of_lt (by omega)]; exact h2
theorem rg_lt {ring : List Int} (nd : ring.Nodup) (h2 : 2 ≤ ring.length) {p : Int × Int} (h : p ∈ rg ring) : p.1 < p.2 := by
  obtain ⟨k, hk, e⟩ := List.getElem_of_mem h
  obtain ⟨a, b, g1, g2, rfl⟩ := rg_at (List.getElem?_eq_some_iff.mpr ⟨hk, e⟩)
  have : a ≠ b := fun e => by
    subst e
    rcases g2 with ⟨h, g2⟩ | ⟨h, g2⟩
    · have := nd_get nd g1 g2; omega
    · have := nd_get nd g1 g2; omega
  show min a b < max a b
  omega
theorem rg_nd {ring : List Int} (nd : ring.Nodup) (h3 : 3 ≤ ring.length) : (rg ring).Nodup := by
  rw [List.nodup_iff_pairwise_ne, List.pairwise_iff_getElem]
  intro i j hi hj hij e
  have g1 : (rg ring)[i]? = some (rg ring)[i] := List.getElem?_eq_getElem hi
  have g2 : (rg ring)[j]? = some (rg ring)[i] := by rw [List.getElem?_eq_getElem hj, e]
  obtain ⟨a, b, h1, h2, e1⟩ := rg_at g1
  obtain ⟨c, d, h4, h5, e2⟩ := rg_at g2
  rw [e1] at e2
  have q : (a = c ∧ b = d) ∨ (a = d ∧ b = c) := by
    have x := congrArg Prod.fst e2
    have y := congrArg Prod.snd e2
    have x : min a b = min c d := x
    have y : max a b = max c d := y
    omega
  rcases q with ⟨rfl, rfl⟩ | ⟨rfl, rfl⟩
  · have := nd_get nd h1 h4; omega
  · rcases h2 with ⟨l2, h2⟩ | ⟨l2, h2⟩ <;> rcases h5 with ⟨l5, h5⟩ | ⟨l5, h5⟩
    · have := nd_get nd h1 h5; have := nd_get nd h2 h4; omega
    · have := nd_get nd h1 h5; have := nd_get nd h2 h4; omega
    · have := nd_get nd h1 h5; have := nd_get nd h2 h4; omega
    · have := nd_get nd h1 h5; have := nd_get nd h2 h4; omega
end Pr

set_option Elab.async false
set_option linter.all false
set_option maxRecDepth 100000

namespace Pr
open PySem PySem.Spec L2 Ev Tg

def nbl (l : Pairs) (x : Int) : List Int := l.filterMap (mt1 x)
theorem nbl_app (a b : Pairs) (x : Int) : nbl (a ++ b) x = nbl a x ++ nbl b x := List.filterMap_append
theorem mt1_some {x y : Int} {p : Int × Int} (h : mt1 x p = some y) : (p.1 = x ∧ p.2 = y) ∨ (p.2 = x ∧ p.1 = y) := by
  unfold mt1 at h
  split at h
  · rename_i h1; exact .inl ⟨h1, Option.some.inj h⟩
  · split at h
    · rename_i h1; exact .inr ⟨h1, Option.some.inj h⟩
    · cases h
theorem mem_nbl {l : Pairs} (hl : ∀ p ∈ l, p.1 < p.2) {x y : Int} : y ∈ nbl l x ↔ tk x y ∈ l := by
  unfold nbl
  rw [List.mem_filterMap]
  constructor
  · rintro ⟨p, hp, e⟩
    have := hl p hp
    have : tk x y = p := by
      rcases mt1_some e with ⟨h1, h2⟩ | ⟨h1, h2⟩
      · exact Prod.ext (by show min x y = p.1; omega) (by show max x y = p.2; omega)
      · exact Prod.ext (by show min x y = p.1; omega) (by show max x y = p.2; omega)
    rw [this]
    exact hp
  · intro h
    have hlt := hl _ h
    have hlt : min x y < max x y := hlt
    refine ⟨_, h, ?_⟩
    unfold mt1
    by_cases hxy : x < y
    · rw [if_pos (by show min x y = x; omega)]
      exact congrArg some (by show max x y = y; omega)
    · rw [if_neg (by show ¬ min x y = x; omega), if_pos (by show max x y = x; omega)]
      exact congrArg some (by show min x y = y; omega)

structure Gph (n : Nat) (l : Pairs) : Prop where
  rg : ∀ p ∈ l, 0 ≤ p.1 ∧ p.1 < p.2 ∧ p.2 < (n : Int)
  nd : l.Nodup
  deg : ∀ x, (nbl l x).length ≤ 2
theorem Gph.lt {n : Nat} {l : Pairs} (G : Gph n l) : ∀ p ∈ l, p.1 < p.2 := fun p hp => (G.rg p hp).2.1
theorem Gph.nb {n : Nat} {l : Pairs} (G : Gph n l) {x y : Int} : y ∈ nbl l x ↔ tk x y ∈ l := mem_nbl G.lt
theorem Gph.sym {n : Nat} {l : Pairs} (G : Gph n l) {x y : Int} (h : y ∈ nbl l x) : x ∈ nbl l y := by
  rw [G.nb] at h ⊢
  rw [tk_comm]
  exact h
theorem Gph.irr {n : Nat} {l : Pairs} (G : Gph n l) {x : Int} : x ∉ nbl l x := fun h => by
  rw [G.nb] at h
  have := G.lt _ h
  have : min x x < max x x := this
  omega
theorem Gph.in_rg {n : Nat} {l : Pairs} (G : Gph n l) {x y : Int} (h : y ∈ nbl l x) : (0 ≤ x ∧ x < n) ∧ 0 ≤ y ∧ y < (n : Int) := by
  rw [G.nb] at h
  have := G.rg _ h
  have h1 : 0 ≤ min x y := this.1
  have h2 : max x y < (n : Int) := this.2.2
  omega
theorem Gph.nbnd {n : Nat} {l : Pairs} (G : Gph n l) (x : Int) : (nbl l x).Nodup := by
  have h1 := G.lt
  have h2 := G.nd
  clear G
  induction l with
  | nil => exact List.nodup_nil
  | cons p l ih =>
    rw [List.nodup_cons] at h2
    have ih := ih (fun q hq => h1 q (List.mem_cons_of_mem _ hq)) h2.2
    unfold nbl at ih ⊢
    rw [List.filterMap_cons]
    cases e : mt1 x p with
    | none => exact ih
    | some y =>
      rw [List.nodup_cons]
      refine ⟨fun hm => ?_, ih⟩
      have := (mem_nbl (l := l) fun q hq => h1 q (List.mem_cons_of_mem _ hq)).mp hm
      have e2 : tk x y = p := by
        have := h1 p List.mem_cons_self
        rcases mt1_some e with ⟨h1, h2⟩ | ⟨h1, h2⟩
        · exact Prod.ext (by show min x y = p.1; omega) (by show max x y = p.2; omega)
        · exact Prod.ext (by show min x y = p.1; omega) (by show max x y = p.2; omega)
      rw [e2] at this
      exact h2.1 this

theorem Gph.two {n : Nat} {l : Pairs} (G : Gph n l) {x a b y : Int} (ha : a ∈ nbl l x) (hb : b ∈ nbl l x) (hab : a ≠ b) (hy : y ∈ nbl l x) : y = a ∨ y = b := by
  have h1 := G.deg x
  have h2 := G.nbnd x
  cases hl : nbl l x with
  | nil => rw [hl] at ha; cases ha
  | cons u r =>
    rw [hl] at ha hb hy h1 h2
    cases r with
    | nil =>
      simp at ha hb
      exact absurd (ha.trans hb.symm) hab
    | cons v r =>
      cases r with
      | nil =>
        simp at ha hb hy
        rcases ha with rfl | rfl <;> rcases hb with rfl | rfl <;> rcases hy with rfl | rfl <;> simp_all
      | cons w r => simp at h1
theorem Gph.one {n : Nat} {l : Pairs} (G : Gph n l) {x a y : Int} (h1 : (nbl l x).length = 1) (ha : a ∈ nbl l x) (hy : y ∈ nbl l x) : y = a := by
  cases hl : nbl l x with
  | nil => rw [hl] at ha; cases ha
  | cons u r =>
    rw [hl] at ha hy h1
    cases r with
    | nil =>
      simp at ha hy
      exact hy.trans ha.symm
    | cons v r => simp at h1

def sdaR (m : List (Int × List Int)) (k x : Int) : List (Int × List Int) := match m with
  | [] => [(k, [x])]
  | p :: r => if p.1 = k then (p.1, p.2 ++ [x]) :: r else p :: sdaR r k x
theorem sda_eq {m : List (Int × List Int)} {k x : Int} (hm : m.length < 1000000) (hl : ∀ q ∈ m, q.2.length ≤ 1000000) : sdaO m k x = some (sdaR m k x) := by
  unfold sdaO
  rw [if_pos hm]
  clear hm
  induction m with
  | nil => rfl
  | cons p r ih =>
    have ih := ih fun q hq => hl q (List.mem_cons_of_mem _ hq)
    rw [List.findIdx?_cons]
    by_cases h : p.1 = k
    · rw [show decide (p.1 = k) = true from decide_eq_true h]
      have := hl p List.mem_cons_self
      simp only [if_true, List.getElem?_cons_zero, Option.bind_some, if_pos this, List.set_cons_zero]
      unfold sdaR
      rw [if_pos h]
    · rw [show decide (p.1 = k) = false from decide_eq_false h]
      unfold sdaR
      rw [if_neg h]
      cases e : r.findIdx? (fun p => decide (p.1 = k)) with
      | none =>
        rw [e] at ih
        have ih := Option.some.inj ih
        simp only [Bool.false_eq_true, if_false, Option.map_none]
        rw [← ih]
        rfl
      | some n =>
        rw [e] at ih
        simp only [Bool.false_eq_true, if_false, Option.map_some, List.getElem?_cons_succ]
        simp only at ih
        cases e2 : r[n]? with
        | none => rw [e2] at ih; cases ih
        | some q =>
          rw [e2] at ih
          simp only [Option.bind_some] at ih ⊢
          split at ih
          · rename_i hq
            rw [if_pos hq, List.set_cons_succ, Option.some.inj ih]
          · cases ih
theorem sdaR_get (m : List (Int × List Int)) (k x k' : Int) : aget (sdaR m k x) k' = if k = k' then some ((aget m k).getD [] ++ [x]) else aget m k' := by
  induction m with
  | nil =>
    unfold sdaR
    rw [aget_cons]
    rfl
  | cons p r ih =>
    unfold sdaR
    by_cases h : p.1 = k
    · rw [if_pos h, aget_cons, aget_cons, aget_cons, if_pos h]
      by_cases hk : k = k'
      · rw [if_pos hk, if_pos (h.trans hk)]
        rfl
      · rw [if_neg hk, if_neg (fun z => hk (h.symm.trans z)), if_neg (fun z => hk (h.symm.trans z))]
    · rw [if_neg h, aget_cons, ih, aget_cons, aget_cons, if_neg h]
      by_cases hk : p.1 = k'
      · rw [if_pos hk, if_pos hk, if_neg (fun z => h (hk.trans z.symm))]
      · rw [if_neg hk, if_neg hk]
theorem sdaR_keys (m : List (Int × List Int)) (k x : Int) : (sdaR m k x).map (·.1) = if k ∈ m.map (·.1) then m.map (·.1) else m.map (·.1) ++ [k] := by
  induction m with
  | nil => rfl
  | cons p r ih =>
    unfold sdaR
    by_cases h : p.1 = k
    · rw [if_pos h, if_pos (by simp [h])]
      rfl
    · rw [if_neg h, List.map_cons, ih]
      by_cases h2 : k ∈ r.map (·.1)
      · rw [if_pos h2, if_pos (by simp only [List.map_cons]; exact List.mem_cons_of_mem _ h2)]
        rfl
      · rw [if_neg h2, if_neg (by simp only [List.map_cons, List.mem_cons, not_or]; exact ⟨fun z => h z.symm, h2⟩)]
        rfl
structure Bs (l : Pairs) (B : List (Int × List Int)) : Prop where
  nd : (B.map (·.1)).Nodup
  get : ∀ x, (aget B x).getD [] = nbl l x
  ne : ∀ x ys, aget B x = some ys → ys ≠ []
theorem aget_mem' {α : Type} {m : List (Int × α)} (nd : (m.map (·.1)).Nodup) {q : Int × α} (h : q ∈ m) : aget m q.1 = some q.2 := by
  induction m with
  | nil => cases h
  | cons p m ih =>
    rw [List.map_cons, List.nodup_cons] at nd
    rw [aget_cons]
    rcases List.mem_cons.mp h with e | h
    · rw [e, if_pos rfl]
    · rw [if_neg, ih nd.2 h]
      intro e
      exact nd.1 (List.mem_map.mpr ⟨_, h, e.symm⟩)
theorem Bs.get' {l : Pairs} {B : List (Int × List Int)} (b : Bs l B) {x : Int} (h : nbl l x ≠ []) : aget B x = some (nbl l x) := by
  have := b.get x
  cases e : aget B x with
  | none => rw [e] at this; exact absurd this.symm h
  | some ys => rw [e] at this; exact congrArg some this
theorem Bs.key {l : Pairs} {B : List (Int × List Int)} (b : Bs l B) {x : Int} : x ∈ B.map (·.1) ↔ nbl l x ≠ [] := by
  rw [← ahas_key, ahas_iff]
  cases e : aget B x with
  | none =>
    have := b.get x
    rw [e] at this
    simp only [Option.isSome_none, Bool.false_eq_true, false_iff, ne_eq, Classical.not_not]
    exact this.symm
  | some ys =>
    have h1 := b.get x
    have h2 := b.ne x ys e
    rw [e] at h1
    have h1 : ys = nbl l x := h1
    rw [← h1]
    simp [h2]
theorem nbl_len (l : Pairs) (x : Int) : (nbl l x).length ≤ l.length := List.length_filterMap_le _ _
theorem beside_loop {l : Pairs} (hl : l.length ≤ 1000) (hlt : ∀ p ∈ l, p.1 < p.2) : ∃ B, forS l [] (fun (x8 : Int × Int) (s8 : (List (Int × (List Int)))) => p_between_L1 x8.1 x8.2 s8) = some B ∧ Bs l B := by
  obtain ⟨B, e, b, _⟩ := forS_inv (xs := l) (s0 := ([] : List (Int × List Int))) (f := fun (x8 : Int × Int) (s8 : (List (Int × (List Int)))) => p_between_L1 x8.1 x8.2 s8) (fun pre B => Bs pre B ∧ B.length ≤ 2 * pre.length) ⟨⟨List.nodup_nil, fun x => rfl, fun x ys h => (nomatch h)⟩, by simp⟩ fun pre p post B e ⟨b, hB⟩ => by
    have hpl : pre.length < l.length := by rw [e]; simp
    have hp := hlt p (by rw [e]; simp)
    have small : ∀ (l : Pairs) (B : List (Int × List Int)), l.length ≤ 1000 → Bs l B → ∀ q ∈ B, q.2.length ≤ 1000 := fun l B hl b q hq => by
      have h1 := aget_mem' b.nd hq
      have h2 := b.get q.1
      rw [h1] at h2
      have h2 : q.2 = nbl l q.1 := h2
      rw [h2]
      have := nbl_len l q.1
      omega
    have key_len : ∀ (m : List (Int × List Int)) (k x : Int), (sdaR m k x).length ≤ m.length + 1 := fun m k x => by
      have := congrArg List.length (sdaR_keys m k x)
      rw [List.length_map] at this
      rw [this]
      split <;> simp
    have nd1 : ∀ (m : List (Int × List Int)) (k x : Int), (m.map (·.1)).Nodup → ((sdaR m k x).map (·.1)).Nodup := fun m k x h => by
      rw [sdaR_keys]
      split
      · exact h
      · rename_i hk
        rw [List.nodup_append]
        exact ⟨h, by simp, fun a ha b hb => by rw [List.mem_singleton.mp hb]; rintro rfl; exact hk ha⟩
    have k1 := key_len B p.1 p.2
    have k2 := key_len (sdaR B p.1 p.2) p.2 p.1
    have big1 : ∀ q ∈ sdaR B p.1 p.2, q.2.length ≤ 1000000 := fun q hq => by
      have h1 := aget_mem' (nd1 B p.1 p.2 b.nd) hq
      rw [sdaR_get] at h1
      split at h1
      · have := Option.some.inj h1
        rw [← this, b.get]
        have := nbl_len pre p.1
        simp
        omega
      · have h2 := b.get q.1
        rw [h1] at h2
        have h2 : q.2 = nbl pre q.1 := h2
        rw [h2]
        have := nbl_len pre q.1
        omega
    refine ⟨sdaR (sdaR B p.1 p.2) p.2 p.1, ?_, ⟨nd1 _ _ _ (nd1 _ _ _ b.nd), fun x => ?_, fun x ys h => ?_⟩, by rw [List.length_append, List.length_singleton]; omega⟩
    · unfold p_between_L1
      rw [sda_eq (by omega) (fun q hq => by have := small pre B (by omega) b q hq; omega), bindO_s, sda_eq (by omega) big1, bindO_s]
    · rw [sdaR_get, nbl_app]
      have e1 : nbl [p] x = (mt1 x p).toList := by
        unfold nbl
        rw [List.filterMap_cons]
        cases mt1 x p <;> rfl
      rw [e1]
      unfold mt1
      by_cases h2 : p.2 = x
      · rw [if_pos h2, sdaR_get, if_neg (by omega), if_neg (by omega), if_pos h2, h2]
        simp [b.get]
      · rw [if_neg h2, sdaR_get]
        by_cases h1 : p.1 = x
        · rw [if_pos h1, if_pos h1, h1]
          simp [b.get]
        · rw [if_neg h1, if_neg h1, if_neg h2, b.get]
          simp
    · rw [sdaR_get] at h
      split at h
      · cases h; simp
      · rw [sdaR_get] at h
        split at h
        · cases h; simp
        · exact b.ne x ys h
  exact ⟨B, e, b⟩

structure Wk (l : Pairs) (vs : List Int) : Prop where
  nd : vs.Nodup
  al : ∀ p ∈ al vs, p ∈ l
theorem Wk.step {n : Nat} {l : Pairs} (G : Gph n l) {vs : List Int} (w : Wk l vs) {i : Nat} {x y : Int} (h1 : vs[i]? = some x) (h2 : vs[i + 1]? = some y) : y ∈ nbl l x ∧ x ∈ nbl l y := by
  have := w.al _ (List.mem_of_getElem? (al_get h1 h2))
  exact ⟨G.nb.mpr this, G.sym (G.nb.mpr this)⟩

theorem Wk.inner {n : Nat} {l : Pairs} (G : Gph n l) {vs : List Int} (w : Wk l vs) {i : Nat} {x : Int} (h0 : 0 < i) (h1 : i + 1 < vs.length) (hx : vs[i]? = some x) {y : Int} (hy : y ∈ nbl l x) : vs[i - 1]? = some y ∨ vs[i + 1]? = some y := by
  have g1 : vs[i - 1]? = some vs[i - 1] := List.getElem?_eq_getElem (by omega)
  have g2 : vs[i + 1]? = some vs[i + 1] := List.getElem?_eq_getElem h1
  have a := (w.step G g1 (by rw [show i - 1 + 1 = i by omega]; exact hx)).2
  have b := (w.step G hx g2).1
  have ne : vs[i - 1] ≠ vs[i + 1] := fun e => by
    rw [e] at g1
    have := nd_get w.nd g1 g2
    omega
  rcases G.two a b ne hy with e | e
  · exact .inl (by rw [e]; exact g1)
  · exact .inr (by rw [e]; exact g2)
theorem led_eq {n : Nat} {l : Pairs} {B : List (Int × List Int)} (G : Gph n l) (b : Bs l B) (hn : n ≤ 1000) {start : Int} (hs : nbl l start ≠ []) :
    ∃ vs last, p_led_from start B = some vs ∧ vs.head? = some start ∧ vs.getLast? = some last ∧ Wk l vs ∧ 2 ≤ vs.length ∧ vs.length ≤ n ∧ ∀ y ∈ nbl l last, y ∈ vs := by
  unfold p_led_from
  rw [letB_eq, b.get' hs, bindO_s, letB_eq]
  have rgS : 0 ≤ start ∧ start < n := by
    obtain ⟨y, hy⟩ := List.exists_mem_of_ne_nil _ hs
    exact (G.in_rg hy).1
  have hlen : ∀ vs : List Int, vs.Nodup → (∀ x ∈ vs, 0 ≤ x ∧ x < (n : Int)) → vs.length ≤ n := fun vs h1 h2 => nd_le h1 h2
  obtain ⟨s, e, P, c⟩ := whS_inv (n := fuel) (s0 := (([start] : List Int), nbl l start)) (c := fun (s7 : (List Int) × (List Int)) => (some (!decide (s7.2 = ([] : List Int))))) (f := fun (s7 : (List Int) × (List Int)) => p_led_from_L1 B s7.1 s7.2)
    (fun s => Wk l s.1 ∧ s.1.head? = some start ∧ (∀ x ∈ s.1, 0 ≤ x ∧ x < (n : Int)) ∧ ∃ last, s.1.getLast? = some last ∧ s.2 = (nbl l last).filter fun y => !(decide (y ∈ s.1))) (fun s => n - s.1.length) (fuel_big (by omega))
    ⟨⟨by simp, fun p hp => (nomatch hp)⟩, rfl, fun x hx => by rw [List.mem_singleton.mp hx]; exact rgS, start, rfl, by
      symm
      rw [List.filter_eq_self]
      intro y hy
      have : y ≠ start := fun z => G.irr (z ▸ hy)
      simp [this]⟩ fun s ⟨w, hh, hr, last, hl, ho⟩ => by
    by_cases hc : s.2 = []
    · exact .inl (by rw [hc]; rfl)
    · refine .inr ⟨by simp [hc], ?_⟩
      obtain ⟨v, r, hv⟩ := List.exists_cons_of_ne_nil hc
      have hvm : v ∈ s.2 := by rw [hv]; exact List.mem_cons_self
      rw [ho, List.mem_filter] at hvm
      obtain ⟨hv1, hv2⟩ := hvm
      have hv2 : v ∉ s.1 := by simpa using hv2
      have rv := (G.in_rg hv1).2
      have i0 : idx s.2 (0 : Int) = some v := by
        rw [show (0 : Int) = ((0 : Nat) : Int) from rfl, idx_nat, hv]
        rfl
      have hvn : nbl l v ≠ [] := List.ne_nil_of_mem (G.sym hv1)
      have nd' : (s.1 ++ [v]).Nodup := by
        rw [List.nodup_append]
        exact ⟨w.nd, by simp, fun a ha c hc => by rw [List.mem_singleton.mp hc]; rintro rfl; exact hv2 ha⟩
      have rg' : ∀ x ∈ s.1 ++ [v], 0 ≤ x ∧ x < (n : Int) := fun x hx => (List.mem_append.mp hx).elim (hr x) fun h => by rw [List.mem_singleton.mp h]; exact rv
      have hlen' := hlen _ nd' rg'
      have hl0 := hlen _ w.nd hr
      rw [List.length_append, List.length_singleton] at hlen'
      have hd := G.deg v
      have hf := List.length_filter_le (fun y => !(decide (y ∈ s.1 ++ [v]))) (nbl l v)
      refine ⟨(s.1 ++ [v], (nbl l v).filter fun y => !(decide (y ∈ s.1 ++ [v]))), ?_, ⟨⟨nd', fun p hp => ?_⟩, ?_, rg', v, by simp, rfl⟩, ?_⟩
      · show p_led_from_L1 B s.1 s.2 = _
        unfold p_led_from_L1
        rw [i0, bindO_s, appO_e (by omega), bindO_s, bindO_s, b.get' hvn, bindO_s, List.map_id', big_e (by omega), bindO_s, letB_eq]
      · have hne : s.1 ≠ [] := fun z => by rw [z] at hh; cases hh
        have e1 : s.1 = s.1.dropLast ++ [last] := by
          have := List.dropLast_concat_getLast hne
          rw [List.getLast?_eq_some_getLast hne] at hl
          rw [Option.some.inj hl] at this
          exact this.symm
        have e2 : Pr.al (s.1 ++ [v]) = Pr.al s.1 ++ [tk last v] := by
          have := al_app s.1.dropLast last v []
          rw [← e1] at this
          rw [show s.1 ++ [v] = s.1.dropLast ++ last :: v :: [] by
            conv => lhs; rw [e1]
            rw [List.append_assoc]
            rfl]
          exact this
        have hp : p ∈ Pr.al (s.1 ++ [v]) := hp
        rw [e2] at hp
        rcases List.mem_append.mp hp with hp | hp
        · exact w.al p hp
        · rw [List.mem_singleton.mp hp]
          exact G.nb.mp hv1
      · show (s.1 ++ [v]).head? = some start
        cases hs1 : s.1 with
        | nil => rw [hs1] at hh; cases hh
        | cons u t => rw [hs1] at hh; exact hh
      · show n - (s.1 ++ [v]).length < n - s.1.length
        rw [List.length_append, List.length_singleton]
        omega
  rw [e, bindO_s]
  obtain ⟨w, hh, hr, last, hl, ho⟩ := P
  have hc : s.2 = [] := by
    have := Option.some.inj c
    simpa using this
  have all : ∀ y ∈ nbl l last, y ∈ s.1 := fun y hy => by
    rw [hc] at ho
    have := List.filter_eq_nil_iff.mp ho.symm y hy
    simpa using this
  refine ⟨s.1, last, rfl, hh, hl, w, ?_, hlen _ w.nd hr, all⟩
  obtain ⟨s1, s2⟩ := s
  dsimp only at *
  cases s1 with
  | nil => cases hh
  | cons u t =>
    cases t with
    | nil =>
      exfalso
      cases hh
      cases hl
      obtain ⟨y, hy⟩ := List.exists_mem_of_ne_nil _ hs
      have := all y hy
      rw [List.mem_singleton.mp this] at hy
      exact G.irr hy
    | cons v t => simp
end Pr

set_option Elab.async false
set_option linter.all false
set_option maxRecDepth 100000

namespace Pr
open PySem PySem.Spec L2 Ev Tg
abbrev sRow : SS := mkS "row" (by decide +kernel)
abbrev sRing : SS := mkS "ring" (by decide +kernel)
theorem row_ring : sRow ≠ sRing := fun h => by
  have := congrArg Subtype.val h
  exact absurd this (by decide +kernel)
abbrev Told := SS × List Int
def eds (t : Told) : Pairs := if t.1 = sRow then al t.2 else rg t.2
theorem eds_row {vs : List Int} : eds (sRow, vs) = al vs := if_pos rfl
theorem eds_ring {vs : List Int} : eds (sRing, vs) = rg vs := if_neg (fun h => row_ring h.symm)
theorem eds_mem {t : Told} {p : Int × Int} (h : p ∈ eds t) : p.1 ∈ t.2 ∧ p.2 ∈ t.2 := by
  unfold eds at h
  split at h
  · exact al_mem h
  · exact rg_mem h
theorem min_or' (a b : Int) : min a b = a ∧ max a b = b ∨ min a b = b ∧ max a b = a := by omega

structure Trk (l : Pairs) (t : Told) : Prop where
  kd : t.1 = sRow ∨ (t.1 = sRing ∧ 3 ≤ t.2.length)
  nd : t.2.Nodup
  two : 2 ≤ t.2.length
  sub : ∀ p ∈ eds t, p ∈ l
  cl : ∀ p ∈ l, (p.1 ∈ t.2 ∨ p.2 ∈ t.2) → p ∈ eds t
theorem Trk.nbr {n : Nat} {l : Pairs} (G : Gph n l) {t : Told} (T : Trk l t) {x y : Int} (hx : x ∈ t.2) (h : y ∈ nbl l x) : y ∈ t.2 := by
  rw [G.nb] at h
  have m := eds_mem (T.cl _ h (by
    rcases min_or' x y with ⟨a, _⟩ | ⟨_, a⟩
    · exact .inl (by show min x y ∈ t.2; rw [a]; exact hx)
    · exact .inr (by show max x y ∈ t.2; rw [a]; exact hx)))
  rcases min_or' x y with ⟨_, a⟩ | ⟨a, _⟩
  · have : max x y ∈ t.2 := m.2
    rw [a] at this
    exact this
  · have : min x y ∈ t.2 := m.1
    rw [a] at this
    exact this
theorem tk_end {a b : Int} {x : Int} (h : x = (tk a b).1 ∨ x = (tk a b).2) : x = a ∨ x = b := by
  rcases h with h | h
  · have h : x = min a b := h
    omega
  · have h : x = max a b := h
    omega

theorem Gph.other {n : Nat} {l : Pairs} (G : Gph n l) {p : Int × Int} {x : Int} (hp : p ∈ l) (hx : x = p.1 ∨ x = p.2) : ∃ y, y ∈ nbl l x ∧ p = tk x y := by
  have hlt := G.lt p hp
  rcases hx with rfl | rfl
  · have e : p = tk p.1 p.2 := Prod.ext (by show p.1 = min p.1 p.2; omega) (by show p.2 = max p.1 p.2; omega)
    exact ⟨p.2, G.nb.mpr (by rw [← e]; exact hp), e⟩
  · have e : p = tk p.2 p.1 := Prod.ext (by show p.1 = min p.2 p.1; omega) (by show p.2 = max p.2 p.1; omega)
    exact ⟨p.1, G.nb.mpr (by rw [← e]; exact hp), e⟩

theorem Wk.back {n : Nat} {l : Pairs} (G : Gph n l) {vs : List Int} (w : Wk l vs) {last y : Int} (hl : vs.getLast? = some last) (hy : y ∈ nbl l last) (hm : y ∈ vs) : vs[vs.length - 2]? = some y ∨ vs.head? = some y := by
  rw [List.getLast?_eq_getElem?] at hl
  obtain ⟨j, hj, ej⟩ := List.getElem_of_mem hm
  have gj := List.getElem?_eq_some_iff.mpr ⟨hj, ej⟩
  by_cases j0 : j = 0
  · subst j0
    exact .inr (by rw [List.head?_eq_getElem?]; exact gj)
  · by_cases jl : j + 1 < vs.length
    · rcases w.inner G (by omega) jl gj (G.sym hy) with h | h
      · have := nd_get w.nd h hl
        omega
      · have := nd_get w.nd h hl
        refine .inl ?_
        rw [show vs.length - 2 = j by omega]
        exact gj
    · exfalso
      have : j = vs.length - 1 := by omega
      subst this
      rw [gj] at hl
      cases hl
      exact G.irr hy
theorem row_trk {n : Nat} {l : Pairs} (G : Gph n l) {vs : List Int} {start last : Int} (w : Wk l vs) (h2 : 2 ≤ vs.length) (hh : vs.head? = some start) (hl : vs.getLast? = some last) (all : ∀ y ∈ nbl l last, y ∈ vs) (d1 : (nbl l start).length = 1) : Trk l (sRow, vs) := by
  refine ⟨.inl rfl, w.nd, h2, fun p hp => w.al p (by rw [eds_row] at hp; exact hp), fun p hp hx => ?_⟩
  rw [eds_row]
  have key : ∀ x, x ∈ vs → (x = p.1 ∨ x = p.2) → p ∈ al vs := fun x hx he => by
    obtain ⟨y, hy, e⟩ := G.other hp he
    obtain ⟨i, hi, ei⟩ := List.getElem_of_mem hx
    have gi := List.getElem?_eq_some_iff.mpr ⟨hi, ei⟩
    have left : vs[i - 1]? = some y → 0 < i → p ∈ al vs := fun h h0 => by
      rw [e, tk_comm]
      exact List.mem_of_getElem? (al_get h (by rw [show i - 1 + 1 = i by omega]; exact gi))
    have right : vs[i + 1]? = some y → p ∈ al vs := fun h => by
      rw [e]
      exact List.mem_of_getElem? (al_get gi h)
    by_cases i0 : i = 0
    · subst i0
      have : x = start := by
        rw [List.head?_eq_getElem?, gi] at hh
        exact Option.some.inj hh
      subst this
      have g1 : vs[1]? = some vs[1] := List.getElem?_eq_getElem (by omega)
      have := G.one d1 (w.step G gi g1).1 hy
      exact right (by rw [this]; exact g1)
    · by_cases il : i + 1 < vs.length
      · rcases w.inner G (by omega) il gi hy with h | h
        · exact left h (by omega)
        · exact right h
      · have il : i = vs.length - 1 := by omega
        have : x = last := by
          rw [List.getLast?_eq_getElem?, ← il, gi] at hl
          exact Option.some.inj hl
        subst this
        rcases w.back G hl hy (all y hy) with h | h
        · exact left (by rw [show i - 1 = vs.length - 2 by omega]; exact h) (by omega)
        · rw [hh] at h
          have ey : start = y := Option.some.inj h
          subst ey
          have g0 : vs[0]? = some start := by rw [List.head?_eq_getElem?] at hh; exact hh
          have g1 : vs[1]? = some vs[1] := List.getElem?_eq_getElem (by omega)
          have e1 := G.one d1 (w.step G g0 g1).1 (G.sym hy)
          have := nd_get w.nd gi (by rw [e1]; exact g1)
          exact left (by rw [show i - 1 = 0 by omega]; exact g0) (by omega)
  rcases hx with hx | hx
  · exact key _ hx (.inl rfl)
  · exact key _ hx (.inr rfl)
theorem ring_trk {n : Nat} {l : Pairs} (G : Gph n l) {vs : List Int} {start last : Int} (w : Wk l vs) (h2 : 2 ≤ vs.length) (hh : vs.head? = some start) (hl : vs.getLast? = some last) (all : ∀ y ∈ nbl l last, y ∈ vs) (d2 : ∀ x ∈ vs, (nbl l x).length = 2) : Trk l (sRing, vs) := by
  have hl' := hl
  rw [List.getLast?_eq_getElem?] at hl'
  have g0 : vs[0]? = some start := by rw [List.head?_eq_getElem?] at hh; exact hh
  -- the last one's other neighbour is the first
  have close : start ∈ nbl l last ∧ 3 ≤ vs.length := by
    have d := d2 last (List.mem_of_getElem? hl')
    have nd := G.nbnd last
    cases hc : nbl l last with
    | nil => rw [hc] at d; simp at d
    | cons a r =>
      cases r with
      | nil => rw [hc] at d; simp at d
      | cons b r =>
        rw [hc] at nd
        have ma : a ∈ nbl l last := by rw [hc]; simp
        have mb : b ∈ nbl l last := by rw [hc]; simp
        have hab : a ≠ b := fun e => by subst e; simp at nd
        have fin : ∀ c d : Int, c ≠ d → vs[vs.length - 2]? = some c → d ∈ nbl l last → vs.head? = some d → start ∈ nbl l last ∧ 3 ≤ vs.length := fun c d hcd h1 h2 h3 => by
          rw [hh] at h3
          cases h3
          refine ⟨h2, ?_⟩
          by_cases h : 3 ≤ vs.length
          · exact h
          · exfalso
            rw [show vs.length - 2 = 0 by omega, g0] at h1
            cases h1
            exact hcd rfl
        rcases w.back G hl ma (all a ma) with h1 | h1 <;> rcases w.back G hl mb (all b mb) with h3 | h3
        · rw [h1] at h3; cases h3; exact absurd rfl hab
        · rw [← hc]; exact fin a b hab h1 mb h3
        · rw [← hc]; exact fin b a (Ne.symm hab) h3 ma h1
        · rw [h1] at h3; cases h3; exact absurd rfl hab
  obtain ⟨hc, h3⟩ := close
  refine ⟨.inr ⟨rfl, h3⟩, w.nd, h2, fun p hp => ?_, fun p hp hx => ?_⟩
  · rw [eds_ring] at hp
    obtain ⟨k, hk, ek⟩ := List.getElem_of_mem hp
    obtain ⟨a, b, h1, hb, rfl⟩ := rg_at (List.getElem?_eq_some_iff.mpr ⟨hk, ek⟩)
    rcases hb with ⟨_, hb⟩ | ⟨hk2, hb⟩
    · exact w.al _ (List.mem_of_getElem? (al_get h1 hb))
    · rw [show k = vs.length - 1 by omega, hl'] at h1
      rw [g0] at hb
      cases h1
      cases hb
      exact G.nb.mp hc
  · rw [eds_ring]
    have key : ∀ x, x ∈ vs → (x = p.1 ∨ x = p.2) → p ∈ rg vs := fun x hx he => by
      obtain ⟨y, hy, e⟩ := G.other hp he
      obtain ⟨i, hi, ei⟩ := List.getElem_of_mem hx
      have gi := List.getElem?_eq_some_iff.mpr ⟨hi, ei⟩
      have left : vs[i - 1]? = some y → 0 < i → p ∈ rg vs := fun h h0 => by
        rw [e, tk_comm]
        exact List.mem_of_getElem? (rg_get h (.inl ⟨by omega, by rw [show i - 1 + 1 = i by omega]; exact gi⟩))
      have right : vs[i + 1]? = some y → p ∈ rg vs := fun h => by
        rw [e]
        exact List.mem_of_getElem? (rg_get gi (.inl ⟨(List.getElem?_eq_some_iff.mp h).1, h⟩))
      have shut : p = tk last start → p ∈ rg vs := fun h => by
        rw [h]
        exact List.mem_of_getElem? (rg_get hl' (.inr ⟨by omega, g0⟩))
      by_cases i0 : i = 0
      · subst i0
        rw [g0] at gi
        cases gi
        have g1 : vs[1]? = some vs[1] := List.getElem?_eq_getElem (by omega)
        have ne : vs[1] ≠ last := fun z => by
          rw [z] at g1
          have := nd_get w.nd g1 hl'
          omega
        rcases G.two (w.step G g0 g1).1 (G.sym hc) ne hy with h | h
        · exact right (by rw [h]; exact g1)
        · exact shut (by rw [e, h, tk_comm])
      · by_cases il : i + 1 < vs.length
        · rcases w.inner G (by omega) il gi hy with h | h
          · exact left h (by omega)
          · exact right h
        · have il : i = vs.length - 1 := by omega
          rw [il, hl'] at gi
          cases gi
          rcases w.back G hl hy (all y hy) with h | h
          · exact left (by rw [show i - 1 = vs.length - 2 by omega]; exact h) (by omega)
          · rw [hh] at h
            cases h
            exact shut e
    rcases hx with hx | hx
    · exact key _ hx (.inl rfl)
    · exact key _ hx (.inr rfl)

structure Dec (l : Pairs) (T : List Told) : Prop where
  trk : ∀ t ∈ T, Trk l t
  nd : (T.flatMap (·.2)).Nodup
  cov : ∀ p ∈ l, ∃ t ∈ T, p.1 ∈ t.2

structure Sof (n : Nat) (l : Pairs) (found : List Told) (seen : List Int) : Prop where
  trk : ∀ t ∈ found, Trk l t
  nd : seen.Nodup
  eq : seen = found.flatMap (·.2)
  rg : ∀ x ∈ seen, 0 ≤ x ∧ x < (n : Int)
theorem Sof.nbr {n : Nat} {l : Pairs} (G : Gph n l) {found : List Told} {seen : List Int} (S : Sof n l found seen) {x y : Int} (hx : x ∈ seen) (h : y ∈ nbl l x) : y ∈ seen := by
  rw [S.eq, List.mem_flatMap] at hx ⊢
  obtain ⟨t, ht, hxt⟩ := hx
  exact ⟨t, ht, (S.trk t ht).nbr G hxt h⟩
theorem Sof.wk {n : Nat} {l : Pairs} (G : Gph n l) {found : List Told} {seen : List Int} (S : Sof n l found seen) {vs : List Int} (w : Wk l vs) {start : Int} (hh : vs.head? = some start) (hs : start ∉ seen) : ∀ x ∈ vs, x ∉ seen := by
  have g0 : vs[0]? = some start := by rw [List.head?_eq_getElem?] at hh; exact hh
  have go : ∀ (i : Nat) (x : Int), vs[i]? = some x → x ∉ seen := by
    intro i
    induction i with
    | zero => intro x hx; rw [g0] at hx; cases hx; exact hs
    | succ i ih =>
      intro x hx hm
      have hi := (List.getElem?_eq_some_iff.mp hx).1
      have g : vs[i]? = some vs[i] := List.getElem?_eq_getElem (by omega)
      exact ih _ g (S.nbr G hm (w.step G g hx).2)
  intro x hx
  obtain ⟨i, hi, ei⟩ := List.getElem_of_mem hx
  exact go i x (List.getElem?_eq_some_iff.mpr ⟨hi, ei⟩)
theorem Wk.rg {n : Nat} {l : Pairs} (G : Gph n l) {vs : List Int} (w : Wk l vs) (h2 : 2 ≤ vs.length) : ∀ x ∈ vs, 0 ≤ x ∧ x < (n : Int) := fun x hx => by
  obtain ⟨i, hi, ei⟩ := List.getElem_of_mem hx
  have gi := List.getElem?_eq_some_iff.mpr ⟨hi, ei⟩
  by_cases i0 : i = 0
  · subst i0
    have g1 : vs[1]? = some vs[1] := List.getElem?_eq_getElem (by omega)
    exact (G.in_rg (w.step G gi g1).1).1
  · have g1 : vs[i - 1]? = some vs[i - 1] := List.getElem?_eq_getElem (by omega)
    exact (G.in_rg (w.step G g1 (by rw [show i - 1 + 1 = i by omega]; exact gi)).1).2
theorem stage_L3 {n : Nat} {l : Pairs} {B : List (Int × List Int)} (G : Gph n l) (b : Bs l B) (hn : n ≤ 24) {found : List Told} {seen : List Int} (S : Sof n l found seen) (hf : found.length ≤ 1000) {cnt : Nat} {kd : SS}
    (hk : (cnt = 1 ∧ kd = sRow) ∨ (cnt = 2 ∧ kd = sRing ∧ ∀ x, (nbl l x).length = 1 → x ∈ seen)) {x : Int} (hx : nbl l x ≠ []) :
    ∃ found' seen', p_between_L3 B (cnt : Int) kd x found seen = some (found', seen') ∧ Sof n l found' seen' ∧ (∀ y ∈ seen, y ∈ seen') ∧ ((nbl l x).length = cnt → x ∈ seen') ∧ found'.length ≤ found.length + 1 := by
  unfold p_between_L3
  have hsl : seen.length ≤ n := nd_le S.nd S.rg
  by_cases hs : x ∈ seen
  · rw [if_neg (by simp [hs]), bindO_s, if_neg (by decide), bindO_s]
    exact ⟨found, seen, rfl, S, fun _ h => h, fun _ => hs, by omega⟩
  · rw [if_pos (by simp [hs]), b.get' hx, bindO_s, bindO_s]
    by_cases hc : (nbl l x).length = cnt
    · obtain ⟨vs, last, e, hh, hl, w, h2, hvn, all⟩ := led_eq G b (by omega) hx
      have nots := S.wk G w hh hs
      have T : Trk l (kd, vs) := by
        rcases hk with ⟨rfl, rfl⟩ | ⟨rfl, rfl, h1⟩
        · exact row_trk G w h2 hh hl all hc
        · refine ring_trk G w h2 hh hl all fun y hy => ?_
          have := G.deg y
          have a1 : (nbl l y).length ≠ 1 := fun z => nots y hy (h1 y z)
          have a0 : (nbl l y).length ≠ 0 := fun z => by
            have z := List.length_eq_zero_iff.mp z
            obtain ⟨i, hi, ei⟩ := List.getElem_of_mem hy
            have gi := List.getElem?_eq_some_iff.mpr ⟨hi, ei⟩
            by_cases i0 : i = 0
            · subst i0
              have := (w.step G gi (List.getElem?_eq_getElem (show 1 < vs.length by omega))).1
              rw [z] at this
              cases this
            · have := (w.step G (List.getElem?_eq_getElem (show i - 1 < vs.length by omega)) (by rw [show i - 1 + 1 = i by omega]; exact gi)).2
              rw [z] at this
              cases this
          omega
      have hh' : x ∈ vs := by
        rw [List.head?_eq_getElem?] at hh
        exact List.mem_of_getElem? hh
      rw [if_pos (by simp [hc]), e, bindO_s, letB_eq, show extO seen vs = some (seen ++ vs) from if_pos (by omega), bindO_s, appO_e (by omega), bindO_s, bindO_s]
      refine ⟨_, _, rfl, ⟨fun t ht => ?_, ?_, ?_, fun y hy => ?_⟩, fun y hy => List.mem_append_left _ hy, fun _ => List.mem_append_right _ hh', by simp⟩
      · rcases List.mem_append.mp ht with ht | ht
        · exact S.trk t ht
        · rw [List.mem_singleton.mp ht]; exact T
      · rw [List.nodup_append]
        exact ⟨S.nd, w.nd, fun a ha c hc e => nots c hc (e ▸ ha)⟩
      · rw [List.flatMap_append, ← S.eq]
        simp
      · rcases List.mem_append.mp hy with hy | hy
        · exact S.rg y hy
        · exact w.rg G h2 y hy
    · have : ¬ (((nbl l x).length : Int) = (cnt : Int)) := by omega
      rw [if_neg (by simp; omega), bindO_s]
      exact ⟨found, seen, rfl, S, fun _ h => h, fun z => absurd z hc, by omega⟩
theorem stage_L2 {n : Nat} {l : Pairs} {B : List (Int × List Int)} (G : Gph n l) (b : Bs l B) (hn : n ≤ 24) {found : List Told} {seen : List Int} (S : Sof n l found seen) (hf : found.length ≤ 500) {cnt : Nat} {kd : SS}
    (hk : (cnt = 1 ∧ kd = sRow) ∨ (cnt = 2 ∧ kd = sRing ∧ ∀ x, (nbl l x).length = 1 → x ∈ seen)) (h0 : 0 < cnt) :
    ∃ found' seen', p_between_L2 B (cnt : Int) kd found seen = some (found', seen') ∧ Sof n l found' seen' ∧ (∀ y ∈ seen, y ∈ seen') ∧ (∀ x, (nbl l x).length = cnt → x ∈ seen') ∧ found'.length ≤ found.length + 24 := by
  unfold p_between_L2
  have hkeys : ∀ x ∈ B.map (·.1), 0 ≤ x ∧ x < (n : Int) := fun x hx => by
    obtain ⟨y, hy⟩ := List.exists_mem_of_ne_nil _ (b.key.mp hx)
    exact (G.in_rg hy).1
  have hB : B.length ≤ n := by
    have := nd_le b.nd hkeys
    simpa using this
  rw [show sortKO B = some (sortI (B.map (·.1))) from if_pos (by omega), bindO_s]
  have pm := permI (B.map (·.1))
  have hlen := pm.length_eq
  rw [List.length_map] at hlen
  obtain ⟨s, e, S1, h1, h2, h3⟩ := forS_inv (xs := sortI (B.map (·.1))) (s0 := (found, seen)) (f := fun (x12 : Int) (s12 : (List (SS × (List Int))) × (List Int)) => p_between_L3 B (cnt : Int) kd x12 s12.1 s12.2) (fun pre s => Sof n l s.1 s.2 ∧ (∀ y ∈ seen, y ∈ s.2) ∧ (∀ x ∈ pre, (nbl l x).length = cnt → x ∈ s.2) ∧ s.1.length ≤ found.length + pre.length) ⟨S, fun _ h => h, fun _ h => (nomatch h), by simp⟩ fun pre x post s e ⟨S1, h1, h2, h3⟩ => by
    have hpl : pre.length < n := by
      have := congrArg List.length e
      simp at this
      omega
    have hx : nbl l x ≠ [] := b.key.mp (pm.mem_iff.mp (by rw [e]; simp))
    obtain ⟨f', s', e1, S2, q1, q2, q3⟩ := stage_L3 G b hn S1 (by omega) (hk.imp id fun ⟨a, b, c⟩ => ⟨a, b, fun x hx => h1 x (c x hx)⟩) hx
    refine ⟨(f', s'), e1, S2, fun y hy => q1 y (h1 y hy), fun y hy hc => ?_, ?_⟩
    · rcases List.mem_append.mp hy with hy | hy
      · exact q1 y (h2 y hy hc)
      · rw [List.mem_singleton.mp hy] at hc ⊢
        exact q2 hc
    · show f'.length ≤ _
      rw [List.length_append, List.length_singleton]
      omega
  rw [e, bindO_s]
  refine ⟨s.1, s.2, rfl, S1, h1, fun x hc => ?_, by omega⟩
  refine h2 x (pm.mem_iff.mpr (b.key.mpr fun z => ?_)) hc
  rw [z] at hc
  simp at hc
  omega

def sym (one other : Pairs) : Pairs := one.filter (fun p => !decide (p ∈ other)) ++ other.filter (fun p => !decide (p ∈ one))
theorem mem_sym {one other : Pairs} {p : Int × Int} : p ∈ sym one other ↔ (p ∈ one ∧ p ∉ other) ∨ (p ∈ other ∧ p ∉ one) := by
  unfold sym
  simp
theorem between_eq {n : Nat} {one other : Pairs} (G : Gph n (sym one other)) (hn : n ≤ 24) (h1 : one.length ≤ 400) (h2 : other.length ≤ 400) : ∃ T, p_between one other = some T ∧ Dec (sym one other) T ∧ T.length ≤ 100 := by
  unfold p_between
  have f1 := List.length_filter_le (fun p => !decide (p ∈ other)) one
  have f2 := List.length_filter_le (fun p => !decide (p ∈ one)) other
  rw [letB_eq, List.map_id', big_e (by omega), bindO_s, List.map_id', big_e (by omega), bindO_s, catO_e (by omega), bindO_s]
  have hsl : (sym one other).length ≤ 1000 := by unfold sym; rw [List.length_append]; omega
  obtain ⟨B, eB, b⟩ := beside_loop hsl G.lt
  have eB' : forS (one.filter (fun y1 => !decide (y1 ∈ other)) ++ other.filter (fun y3 => !decide (y3 ∈ one))) [] (fun (x6 : Int × Int) (s6 : (List (Int × (List Int)))) => p_between_L1 x6.1 x6.2 s6) = some B := eB
  rw [eB', bindO_s, letB_eq, letB_eq]
  generalize sym one other = l at *
  obtain ⟨fo1, se1, e1, S1, _, q1, l1⟩ := stage_L2 (found := []) (seen := []) (cnt := 1) (kd := sRow) G b hn ⟨fun _ h => (nomatch h), List.nodup_nil, rfl, fun _ h => (nomatch h)⟩ (by simp) (.inl ⟨rfl, rfl⟩) (by decide)
  obtain ⟨fo2, se2, e2, S2, up, q2, l2⟩ := stage_L2 (cnt := 2) (kd := sRing) G b hn S1 (by simp at l1; omega) (.inr ⟨rfl, rfl, q1⟩) (by decide)
  have loop : forS ([((1 : Int), (mkS "row" (by decide +kernel))), ((2 : Int), (mkS "ring" (by decide +kernel)))]) (([] : List Told), ([] : List Int)) (fun (x13 : Int × SS) (s13 : (List (SS × (List Int))) × (List Int)) => p_between_L2 B x13.1 x13.2 s13.1 s13.2) = some (fo2, se2) := by
    unfold forS
    show bindO (p_between_L2 B ((1 : Nat) : Int) sRow [] []) _ = _
    rw [e1, bindO_s]
    unfold forS
    show bindO (p_between_L2 B ((2 : Nat) : Int) sRing fo1 se1) _ = _
    rw [e2, bindO_s]
    rfl
  rw [loop, bindO_s]
  refine ⟨fo2, rfl, ⟨S2.trk, ?_, fun p hp => ?_⟩, by simp at l1; omega⟩
  · rw [← S2.eq]; exact S2.nd
  · obtain ⟨y, hy, _⟩ := G.other hp (.inl rfl)
    have hm : p.1 ∈ se2 := by
      have d := G.deg p.1
      have d0 : (nbl l p.1).length ≠ 0 := fun z => by rw [List.length_eq_zero_iff.mp z] at hy; cases hy
      by_cases d1 : (nbl l p.1).length = 1
      · exact up _ (q1 _ d1)
      · exact q2 _ (by omega)
    rw [S2.eq, List.mem_flatMap] at hm
    exact hm
end Pr

set_option Elab.async false
set_option linter.all false
set_option maxRecDepth 100000

namespace Pr
open PySem PySem.Spec L2 Ev Tg
abbrev onp (x : Int) (p : Int × Int) : Prop := x = p.1 ∨ x = p.2
theorem Mt.uniq {C : Pairs} (m : Mt C) {p q : Int × Int} {x : Int} (hp : p ∈ C) (hq : q ∈ C) (h1 : onp x p) (h2 : onp x q) : p = q := by
  have l1 := m.lt p hp
  have l2 := m.lt q hq
  have get : ∀ {p : Int × Int}, p ∈ C → onp x p → ∃ y, mate C x = some y ∧ p = tk x y := fun {p} hp h => by
    have l := m.lt p hp
    rcases h with rfl | rfl
    · exact ⟨p.2, (mate_iff m).mpr (.inl hp), Prod.ext (by show p.1 = min p.1 p.2; omega) (by show p.2 = max p.1 p.2; omega)⟩
    · exact ⟨p.1, (mate_iff m).mpr (.inr hp), Prod.ext (by show p.1 = min p.2 p.1; omega) (by show p.2 = max p.2 p.1; omega)⟩
  obtain ⟨y, e1, rfl⟩ := get hp h1
  obtain ⟨z, e2, rfl⟩ := get hq h2
  rw [e1] at e2
  cases e2
  rfl
theorem Mt.nodup {C : Pairs} (m : Mt C) : C.Nodup := by
  have := m.nd
  clear m
  induction C with
  | nil => exact List.nodup_nil
  | cons p R ih =>
    rw [pts_cons] at this
    simp only [List.nodup_cons, List.mem_cons, not_or] at this
    exact List.nodup_cons.mpr ⟨fun hp => this.1.2 (mem_pts.mpr ⟨p, hp, .inl rfl⟩), ih this.2.2⟩
theorem Mt.of {C : Pairs} (lt : ∀ p ∈ C, p.1 < p.2) (nd : C.Nodup) (u : ∀ p q x, p ∈ C → q ∈ C → onp x p → onp x q → p = q) : Mt C := by
  refine ⟨lt, ?_⟩
  induction C with
  | nil => exact List.nodup_nil
  | cons p C ih =>
    rw [List.nodup_cons] at nd
    have ih := ih (fun q hq => lt q (List.mem_cons_of_mem _ hq)) nd.2 fun a b x ha hb => u a b x (List.mem_cons_of_mem _ ha) (List.mem_cons_of_mem _ hb)
    have hp := lt p List.mem_cons_self
    have no : ∀ x, onp x p → x ∉ pts C := fun x hx hm => by
      obtain ⟨q, hq, e⟩ := mem_pts.mp hm
      exact nd.1 ((u p q x List.mem_cons_self (List.mem_cons_of_mem _ hq) hx e) ▸ hq)
    rw [pts_cons]
    simp only [List.nodup_cons, List.mem_cons, not_or]
    exact ⟨⟨by omega, no _ (.inl rfl)⟩, no _ (.inr rfl), ih⟩
theorem Mt.nbl {C : Pairs} (m : Mt C) (x : Int) : (nbl C x).length ≤ 1 := by
  induction C with
  | nil => simp [Pr.nbl]
  | cons p C ih =>
    have m' : Mt C := m.sub (List.sublist_cons_self p C)
    have ih := ih m'
    have nd := m.nd
    rw [pts_cons] at nd
    simp only [List.nodup_cons, List.mem_cons, not_or] at nd
    unfold Pr.nbl at ih ⊢
    rw [List.filterMap_cons]
    cases e : mt1 x p with
    | none => exact ih
    | some y =>
      have hx : x ∉ pts C := by
        rcases mt1_some e with ⟨h, _⟩ | ⟨h, _⟩
        · rw [← h]; exact nd.1.2
        · rw [← h]; exact nd.2.1
      have : C.filterMap (mt1 x) = [] := by
        rw [List.filterMap_eq_nil_iff]
        intro q hq
        unfold mt1
        rw [if_neg fun e => hx (mem_pts.mpr ⟨q, hq, .inl e.symm⟩), if_neg fun e => hx (mem_pts.mpr ⟨q, hq, .inr e.symm⟩)]
      rw [this]
      simp
theorem gph_of {n : Nat} {A B : Pairs} (ma : Mt A) (mb : Mt B) (ra : ∀ p ∈ A, 0 ≤ p.1 ∧ p.2 < (n : Int)) (rb : ∀ p ∈ B, 0 ≤ p.1 ∧ p.2 < (n : Int)) : Gph n (sym A B) := by
  refine ⟨fun p hp => ?_, ?_, fun x => ?_⟩
  · rcases mem_sym.mp hp with ⟨h, _⟩ | ⟨h, _⟩
    · exact ⟨(ra p h).1, ma.lt p h, (ra p h).2⟩
    · exact ⟨(rb p h).1, mb.lt p h, (rb p h).2⟩
  · unfold sym
    rw [List.nodup_append]
    refine ⟨List.Pairwise.filter _ ma.nodup, List.Pairwise.filter _ mb.nodup, fun a ha b hb => ?_⟩
    simp at ha hb
    rintro rfl
    exact ha.2 hb.1
  · unfold sym
    rw [nbl_app, List.length_append]
    have h1 := (ma.sub (a := A.filter fun p => !decide (p ∈ B)) List.filter_sublist).nbl x
    have h2 := (mb.sub (a := B.filter fun p => !decide (p ∈ A)) List.filter_sublist).nbl x
    omega

theorem sym_alt {A B : Pairs} (ma : Mt A) (mb : Mt B) {p q : Int × Int} {x : Int} (hp : p ∈ sym A B) (hq : q ∈ sym A B) (ne : p ≠ q) (h1 : onp x p) (h2 : onp x q) : p ∈ A ↔ q ∉ A := by
  constructor
  · exact fun a b => ne (ma.uniq a b h1 h2)
  · intro hqa
    rcases mem_sym.mp hq with ⟨z, _⟩ | ⟨qb, _⟩
    · exact absurd z hqa
    · rcases mem_sym.mp hp with ⟨z, _⟩ | ⟨pb, _⟩
      · exact z
      · exact absurd (mb.uniq pb qb h1 h2) ne
theorem eds_al {t : Told} {l : Pairs} (T : Trk l t) : ∀ p ∈ al t.2, p ∈ l := fun p hp => by
  rcases T.kd with h | ⟨h, h3⟩
  · exact T.sub p (by unfold eds; rw [if_pos h]; exact hp)
  · refine T.sub p ?_
    unfold eds
    rw [if_neg (by rw [h]; exact fun z => row_ring z.symm)]
    obtain ⟨k, hk, ek⟩ := List.getElem_of_mem hp
    obtain ⟨a, b, h1, h2, rfl⟩ := al_at (List.getElem?_eq_some_iff.mpr ⟨hk, ek⟩)
    exact List.mem_of_getElem? (rg_get h1 (.inl ⟨(List.getElem?_eq_some_iff.mp h2).1, h2⟩))
theorem Trk.wk {l : Pairs} {t : Told} (T : Trk l t) : Wk l t.2 := ⟨T.nd, eds_al T⟩

theorem Trk.same {n : Nat} {l : Pairs} (G : Gph n l) {t u : Told} (T : Trk l t) (U : Trk l u) {x : Int} (h1 : x ∈ t.2) (h2 : x ∈ u.2) : ∀ y ∈ t.2, y ∈ u.2 := by
  have w := T.wk
  have st : ∀ (i : Nat) (a b : Int), t.2[i]? = some a → t.2[i + 1]? = some b → (a ∈ u.2 ↔ b ∈ u.2) := fun i a b ha hb => by
    have := w.step G ha hb
    exact ⟨fun z => U.nbr G z this.1, fun z => U.nbr G z this.2⟩
  have z0 : ∀ (i : Nat) (a b : Int), t.2[0]? = some a → t.2[i]? = some b → (a ∈ u.2 ↔ b ∈ u.2) := by
    intro i
    induction i with
    | zero => intro a b ha hb; rw [ha] at hb; cases hb; exact Iff.rfl
    | succ i ih =>
      intro a b ha hb
      have hi := (List.getElem?_eq_some_iff.mp hb).1
      have g : t.2[i]? = some t.2[i] := List.getElem?_eq_getElem (by omega)
      exact (ih a _ ha g).trans (st i _ _ g hb)
  intro y hy
  obtain ⟨i, hi, ei⟩ := List.getElem_of_mem h1
  obtain ⟨j, hj, ej⟩ := List.getElem_of_mem hy
  have g0 : t.2[0]? = some t.2[0] := List.getElem?_eq_getElem (by omega)
  exact (z0 j _ _ g0 (List.getElem?_eq_some_iff.mpr ⟨hj, ej⟩)).mp ((z0 i _ _ g0 (List.getElem?_eq_some_iff.mpr ⟨hi, ei⟩)).mpr h2)
theorem Trk.ne {l : Pairs} {t : Told} (T : Trk l t) : ∃ x, x ∈ t.2 := by
  have := T.two
  exact ⟨t.2[0], List.getElem_mem (by omega)⟩
theorem Dec.keys {l : Pairs} {T : List Told} (D : Dec l T) : (T.map fun t => sortI t.2).Nodup := by
  have h1 := D.trk
  have h2 := D.nd
  clear D
  induction T with
  | nil => exact List.nodup_nil
  | cons t T ih =>
    rw [List.flatMap_cons, List.nodup_append] at h2
    rw [List.map_cons, List.nodup_cons]
    refine ⟨fun hm => ?_, ih (fun u hu => h1 u (List.mem_cons_of_mem _ hu)) h2.2.1⟩
    obtain ⟨u, hu, e⟩ := List.mem_map.mp hm
    obtain ⟨x, hx⟩ := (h1 t List.mem_cons_self).ne
    have hxu : x ∈ u.2 := by
      have := (permI t.2).mem_iff.mpr hx
      rw [← e] at this
      exact (permI u.2).mem_iff.mp this
    exact h2.2.2 x hx x (List.mem_flatMap.mpr ⟨u, hu, hxu⟩) rfl
theorem Dec.find {n : Nat} {l : Pairs} (G : Gph n l) {T T' : List Told} (D : Dec l T) (D' : Dec l T') {t : Told} (ht : t ∈ T) : ∃ u ∈ T', sortI u.2 = sortI t.2 := by
  have Tt := D.trk t ht
  have h2 := Tt.two
  have g0 : t.2[0]? = some t.2[0] := List.getElem?_eq_getElem (by omega)
  have g1 : t.2[1]? = some t.2[1] := List.getElem?_eq_getElem (by omega)
  have hp := List.mem_of_getElem? (al_get g0 g1)
  obtain ⟨u, hu, hm⟩ := D'.cov _ (eds_al Tt _ hp)
  have hm' := (al_mem hp).1
  have Tu := D'.trk u hu
  exact ⟨u, hu, up_uniq (sortI_up Tu.nd) (sortI_up Tt.nd) fun y => by
    rw [(permI _).mem_iff, (permI _).mem_iff]
    exact ⟨Tu.same G Tt hm hm' y, Tt.same G Tu hm' hm y⟩⟩

theorem Dec.len {n : Nat} {l : Pairs} (G : Gph n l) {T T' : List Told} (D : Dec l T) (D' : Dec l T') : T.length = T'.length := by
  have := (perm_of_iff D.keys D'.keys fun a => by
    rw [List.mem_map, List.mem_map]
    constructor
    · rintro ⟨t, ht, rfl⟩
      exact D.find G D' ht
    · rintro ⟨t, ht, rfl⟩
      exact D'.find G D ht).length_eq
  simpa using this
theorem Dec.iff {l l' : Pairs} {T : List Told} (h : ∀ p, p ∈ l ↔ p ∈ l') (D : Dec l T) : Dec l' T :=
  ⟨fun t ht => let Z := D.trk t ht; ⟨Z.kd, Z.nd, Z.two, fun p hp => (h p).mp (Z.sub p hp), fun p hp => Z.cl p ((h p).mpr hp)⟩, D.nd, fun p hp => D.cov p ((h p).mpr hp)⟩
theorem Dec.perm {l : Pairs} {T T' : List Told} (h : T.Perm T') (D : Dec l T) : Dec l T' :=
  ⟨fun t ht => D.trk t (h.mem_iff.mpr ht), (h.flatMap_right _).nodup_iff.mp D.nd, fun p hp => let ⟨t, ht, z⟩ := D.cov p hp; ⟨t, h.mem_iff.mp ht, z⟩⟩

theorem Dec.tail {l l' : Pairs} {t : Told} {T : List Told} (D : Dec l (t :: T)) (h : ∀ p, p ∈ l' ↔ p ∈ l ∧ p ∉ eds t) : Dec l' T := by
  have nd := D.nd
  rw [List.flatMap_cons, List.nodup_append] at nd
  have Tt := D.trk t List.mem_cons_self
  have dj : ∀ u ∈ T, ∀ x ∈ u.2, x ∉ t.2 := fun u hu x hx hm => nd.2.2 x hm x (List.mem_flatMap.mpr ⟨u, hu, hx⟩) rfl
  refine ⟨fun u hu => ?_, nd.2.1, fun p hp => ?_⟩
  · have U := D.trk u (List.mem_cons_of_mem _ hu)
    exact ⟨U.kd, U.nd, U.two, fun p hp => (h p).mpr ⟨U.sub p hp, fun z => dj u hu _ (eds_mem hp).1 (eds_mem z).1⟩, fun p hp => U.cl p ((h p).mp hp).1⟩
  · obtain ⟨h1, h2⟩ := (h p).mp hp
    obtain ⟨u, hu, hm⟩ := D.cov p h1
    rcases List.mem_cons.mp hu with rfl | hu
    · exact absurd (Tt.cl p h1 (.inl hm)) h2
    · exact ⟨u, hu, hm⟩

theorem ring_even {C O : Pairs} {vs : List Int} (mc : Mt C) (mo : Mt O) (nd : vs.Nodup) (h3 : 3 ≤ vs.length) (sub : ∀ p ∈ rg vs, p ∈ sym C O) : (∀ k p q, (rg vs)[k]? = some p → (rg vs)[k + 1]? = some q → (p ∈ C ↔ q ∉ C)) ∧ vs.length % 2 = 0 := by
  have hne : vs ≠ [] := fun e => by rw [e] at h3; simp at h3
  have hl := rg_len hne
  have rnd := rg_nd nd h3
  have alt : ∀ i j p q x, (rg vs)[i]? = some p → (rg vs)[j]? = some q → i ≠ j → onp x p → onp x q → (p ∈ C ↔ q ∉ C) := fun i j p q x h1 h2 hij a b =>
    sym_alt mc mo (sub p (List.mem_of_getElem? h1)) (sub q (List.mem_of_getElem? h2)) (fun e => by subst e; exact hij (nd_get rnd h1 h2)) a b
  have on1 : ∀ a b : Int, onp a (tk a b) := fun a b => by show a = min a b ∨ a = max a b; omega
  have on2 : ∀ a b : Int, onp b (tk a b) := fun a b => by show b = min a b ∨ b = max a b; omega
  have step : ∀ k p q, (rg vs)[k]? = some p → (rg vs)[k + 1]? = some q → (p ∈ C ↔ q ∉ C) := fun k p q h1 h2 => by
    have hk := (List.getElem?_eq_some_iff.mp h2).1
    obtain ⟨a, b, g1, g2, rfl⟩ := rg_at h1
    obtain ⟨c, d, g3, g4, rfl⟩ := rg_at h2
    have : b = c := by
      rcases g2 with ⟨_, g2⟩ | ⟨z, _⟩
      · rw [g2] at g3; exact Option.some.inj g3
      · omega
    subst this
    exact alt k (k + 1) _ _ b h1 h2 (by omega) (on2 _ _) (on1 _ _)
  refine ⟨step, ?_⟩
  have par : ∀ k p z, (rg vs)[k]? = some p → (rg vs)[0]? = some z → (p ∈ C ↔ (z ∈ C ↔ k % 2 = 0)) := by
    intro k
    induction k with
    | zero => intro p z e e2; rw [e] at e2; cases e2; simp
    | succ j ih =>
      intro p z e e2
      have hj := (List.getElem?_eq_some_iff.mp e).1
      have g : (rg vs)[j]? = some (rg vs)[j] := List.getElem?_eq_getElem (by omega)
      have := step j _ p g e
      have i := ih _ z g e2
      rcases Nat.mod_two_eq_zero_or_one j with hm | hm
      · have hm2 : (j + 1) % 2 = 1 := by omega
        rw [hm] at i
        rw [hm2]
        simp at i ⊢
        rw [i] at this
        by_cases a : p ∈ C <;> by_cases b : z ∈ C <;> simp [a, b] at this ⊢
      · have hm2 : (j + 1) % 2 = 0 := by omega
        rw [hm] at i
        rw [hm2]
        simp at i ⊢
        rw [i] at this
        by_cases a : p ∈ C <;> by_cases b : z ∈ C <;> simp [a, b] at this ⊢
  have gl : (rg vs)[vs.length - 1]? = some ((rg vs)[vs.length - 1]'(by omega)) := List.getElem?_eq_getElem (by omega)
  have g0 : (rg vs)[0]? = some ((rg vs)[0]'(by omega)) := List.getElem?_eq_getElem (by omega)
  generalize (rg vs)[vs.length - 1]'(by omega) = p at gl
  generalize (rg vs)[0]'(by omega) = z at g0
  have h1 := par _ p z gl g0
  have h2 : p ∈ C ↔ z ∉ C := by
    have gl' := gl
    have g0' := g0
    obtain ⟨a, b, q1, q2, rfl⟩ := rg_at gl
    obtain ⟨c, d, q3, q4, rfl⟩ := rg_at g0
    have : b = c := by
      rcases q2 with ⟨x, _⟩ | ⟨_, q2⟩
      · omega
      · rw [q2] at q3; exact Option.some.inj q3
    subst this
    exact alt _ 0 _ _ b gl' g0' (by omega) (on2 _ _) (on1 _ _)
  by_cases hm : vs.length % 2 = 0
  · exact hm
  · exfalso
    have : (vs.length - 1) % 2 = 0 := by omega
    rw [this] at h1
    by_cases a : p ∈ C <;> by_cases b : z ∈ C <;> simp [a, b] at h1 h2
end Pr

set_option Elab.async false
set_option linter.all false
set_option maxRecDepth 100000

namespace Pr
open PySem PySem.Spec L2 Ev Tg
structure Pcs (S : Int → Prop) (X : Pairs) : Prop where
  mem : ∀ p ∈ X, S p.1 ∧ S p.2
  lt : ∀ p ∈ X, p.1 < p.2
  nd : (pts X).Nodup
theorem Pcs.nil (S : Int → Prop) : Pcs S [] := ⟨fun _ h => (nomatch h), fun _ h => (nomatch h), List.nodup_nil⟩
theorem Pcs.mono {S S' : Int → Prop} {X : Pairs} (h : Pcs S X) (k : ∀ x, S x → S' x) : Pcs S' X := ⟨fun p hp => ⟨k _ (h.mem p hp).1, k _ (h.mem p hp).2⟩, h.lt, h.nd⟩
theorem Pcs.pt {S : Int → Prop} {X : Pairs} (h : Pcs S X) {x : Int} (hx : x ∈ pts X) : S x := by
  obtain ⟨p, hp, e⟩ := mem_pts.mp hx
  rcases e with rfl | rfl
  · exact (h.mem p hp).1
  · exact (h.mem p hp).2
theorem Pcs.app {S S' : Int → Prop} {X Y : Pairs} (h : Pcs S X) (h' : Pcs S' Y) (dj : ∀ x, S x → ¬ S' x) : Pcs (fun x => S x ∨ S' x) (X ++ Y) := by
  refine ⟨fun p hp => ?_, fun p hp => ?_, ?_⟩
  · rcases List.mem_append.mp hp with hp | hp
    · exact ⟨.inl (h.mem p hp).1, .inl (h.mem p hp).2⟩
    · exact ⟨.inr (h'.mem p hp).1, .inr (h'.mem p hp).2⟩
  · rcases List.mem_append.mp hp with hp | hp
    · exact h.lt p hp
    · exact h'.lt p hp
  · rw [pts_app, List.nodup_append]
    exact ⟨h.nd, h'.nd, fun a ha b hb e => dj a (h.pt ha) (e ▸ h'.pt hb)⟩
theorem Pcs.snoc {S : Int → Prop} {X : Pairs} (h : Pcs S X) {a b : Int} (ha : S a) (hb : S b) (ne : a ≠ b) (na : a ∉ pts X) (nb : b ∉ pts X) : Pcs S (X ++ [tk a b]) := by
  have e : ∀ z, z = min a b ∨ z = max a b → z = a ∨ z = b := fun z hz => by omega
  refine ⟨fun p hp => ?_, fun p hp => ?_, ?_⟩
  · rcases List.mem_append.mp hp with hp | hp
    · exact h.mem p hp
    · rw [List.mem_singleton.mp hp]
      constructor
      · rcases e (min a b) (.inl rfl) with q | q
        · show S (min a b); rw [q]; exact ha
        · show S (min a b); rw [q]; exact hb
      · rcases e (max a b) (.inr rfl) with q | q
        · show S (max a b); rw [q]; exact ha
        · show S (max a b); rw [q]; exact hb
  · rcases List.mem_append.mp hp with hp | hp
    · exact h.lt p hp
    · rw [List.mem_singleton.mp hp]
      show min a b < max a b
      omega
  · rw [pts_app, List.nodup_append]
    refine ⟨h.nd, ?_, fun u hu v hv => ?_⟩
    · show [min a b, max a b].Nodup
      simp
      omega
    · have hv : v = min a b ∨ v = max a b := by simpa [pts] using hv
      rintro rfl
      rcases e u hv with rfl | rfl
      · exact na hu
      · exact nb hu
theorem piece_eq {one other : Pairs} {pc : List Int} (kind : Int) (nd : pc.Nodup) (hl : pc.length ≤ 1000) (h1 : one.length ≤ 1000) (h2 : other.length ≤ 1000) :
    ∃ X Y, p_law_piece one other pc kind = some (one ++ X, other ++ Y) ∧ Pcs (· ∈ pc) X ∧ Pcs (· ∈ pc) Y ∧ X.length ≤ pc.length ∧ Y.length ≤ pc.length := by
  unfold p_law_piece
  split
  · exact ⟨[], [], by simp, Pcs.nil _, Pcs.nil _, by simp, by simp⟩
  rename_i hc
  simp only [Bool.or_eq_true, decide_eq_true_eq, not_or] at hc
  have g0 : pc[0]? = some (pc[0]'(by omega)) := List.getElem?_eq_getElem (by omega)
  have g1 : pc[1]? = some (pc[1]'(by omega)) := List.getElem?_eq_getElem (by omega)
  have i0 : idx pc (0 : Int) = some (pc[0]'(by omega)) := by rw [show (0 : Int) = ((0 : Nat) : Int) from rfl, idx_nat]; exact g0
  have i1 : idx pc (1 : Int) = some (pc[1]'(by omega)) := by rw [show (1 : Int) = ((1 : Nat) : Int) from rfl, idx_nat]; exact g1
  have m0 := List.mem_of_getElem? g0
  have m1 := List.mem_of_getElem? g1
  have n01 : pc[0]'(by omega) ≠ pc[1]'(by omega) := fun e => by
    rw [e] at g0
    have := nd_get nd g0 g1
    omega
  split
  · have P : Pcs (· ∈ pc) ([] ++ [tk (pc[0]'(by omega)) (pc[1]'(by omega))]) := (Pcs.nil _).snoc m0 m1 n01 (fun h => (nomatch h)) fun h => (nomatch h)
    generalize pc[0]'(by omega) = a at *
    generalize pc[1]'(by omega) = b at *
    rw [i0, bindO_s, i1, bindO_s, tie_eq, bindO_s, appO_e (by omega), bindO_s, bindO_s, bindO_s, tie_eq, bindO_s, appO_e (by omega), bindO_s]
    exact ⟨_, _, rfl, P, P, by simp; omega, by simp; omega⟩
  rename_i h3
  rw [show (pc.length : Int) - 1 = ((pc.length - 1 : Nat) : Int) by omega, rng_e (by omega), bindO_s]
  obtain ⟨s, e, X, Y, hs, PX, PY, hXY, h00, lX, lY⟩ := forS_rng (n := pc.length - 1) (s0 := (one, other)) (f := fun (x15 : Int) (s15 : (List (Int × Int)) × (List (Int × Int))) => p_law_piece_L1 pc kind x15 s15.1 s15.2) (fun k s => ∃ X Y : Pairs, s = (one ++ X, other ++ Y) ∧ Pcs (· ∈ pc) X ∧ Pcs (· ∈ pc) Y ∧
      (if ((k : Int) + kind) % 2 = 0 then (∀ x ∈ pts X, ∃ i, i < k ∧ pc[i]? = some x) ∧ (∀ x ∈ pts Y, ∃ i, i < k + 1 ∧ pc[i]? = some x) else (∀ x ∈ pts X, ∃ i, i < k + 1 ∧ pc[i]? = some x) ∧ (∀ x ∈ pts Y, ∃ i, i < k ∧ pc[i]? = some x)) ∧
      (kind % 2 = 0 → ∀ x, pc[0]? = some x → x ∉ pts Y) ∧ X.length ≤ k ∧ Y.length ≤ k)
    ⟨[], [], by simp, Pcs.nil _, Pcs.nil _, by split <;> exact ⟨fun x h => (nomatch h), fun x h => (nomatch h)⟩, fun _ x _ h => (nomatch h), by simp, by simp⟩ fun k s hk ⟨X, Y, hs, PX, PY, hXY, h00, lX, lY⟩ => by
    have ga : pc[k]? = some (pc[k]'(by omega)) := List.getElem?_eq_getElem (by omega)
    have gb : pc[k + 1]? = some (pc[k + 1]'(by omega)) := List.getElem?_eq_getElem (by omega)
    have ia : idx pc (k : Int) = some (pc[k]'(by omega)) := by rw [idx_nat]; exact ga
    have ib : idx pc ((k : Int) + 1) = some (pc[k + 1]'(by omega)) := by rw [show (k : Int) + 1 = ((k + 1 : Nat) : Int) by omega, idx_nat]; exact gb
    generalize pc[k]'(by omega) = a at *
    generalize pc[k + 1]'(by omega) = b at *
    have ma := List.mem_of_getElem? ga
    have mb := List.mem_of_getElem? gb
    have nab : a ≠ b := fun e => by
      subst e
      have := nd_get nd ga gb
      omega
    have out : ∀ {Z : Pairs}, (∀ x ∈ pts Z, ∃ i, i < k ∧ pc[i]? = some x) → a ∉ pts Z ∧ b ∉ pts Z := fun h => ⟨fun z => by
      obtain ⟨i, hi, ei⟩ := h a z
      have := nd_get nd ei ga
      omega, fun z => by
      obtain ⟨i, hi, ei⟩ := h b z
      have := nd_get nd ei gb
      omega⟩
    have inn : ∀ {Z : Pairs}, (∀ x ∈ pts Z, ∃ i, i < k ∧ pc[i]? = some x) → ∀ x ∈ pts (Z ++ [tk a b]), ∃ i, i < k + 1 + 1 ∧ pc[i]? = some x := fun {Z} h x hx => by
      rw [pts_app] at hx
      rcases List.mem_append.mp hx with hx | hx
      · obtain ⟨i, hi, ei⟩ := h x hx
        exact ⟨i, by omega, ei⟩
      · have hx : x = min a b ∨ x = max a b := by simpa [pts] using hx
        have : x = a ∨ x = b := by omega
        rcases this with rfl | rfl
        · exact ⟨k, by omega, ga⟩
        · exact ⟨k + 1, by omega, gb⟩
    have up : ∀ {Z : Pairs} {j : Nat}, (∀ x ∈ pts Z, ∃ i, i < j ∧ pc[i]? = some x) → ∀ x ∈ pts Z, ∃ i, i < j + 1 ∧ pc[i]? = some x := fun h x hx => by
      obtain ⟨i, hi, ei⟩ := h x hx
      exact ⟨i, by omega, ei⟩
    subst hs
    unfold p_law_piece_L1
    dsimp only
    by_cases hm : ((k : Int) + kind) % 2 = 0
    · rw [if_pos hm] at hXY
      have o := out hXY.1
      rw [if_pos (decide_eq_true hm), ia, bindO_s, ib, bindO_s, tie_eq, bindO_s, appO_e (by rw [List.length_append]; omega), bindO_s, bindO_s]
      refine ⟨_, rfl, X ++ [tk a b], Y, by rw [List.append_assoc], PX.snoc ma mb nab o.1 o.2, PY, ?_, h00, by simp; omega, by omega⟩
      rw [if_neg (by omega)]
      exact ⟨inn hXY.1, hXY.2⟩
    · rw [if_neg hm] at hXY
      have o := out hXY.2
      rw [if_neg (by simpa using hm), ia, bindO_s, ib, bindO_s, tie_eq, bindO_s, appO_e (by rw [List.length_append]; omega), bindO_s, bindO_s]
      refine ⟨_, rfl, X, Y ++ [tk a b], by rw [List.append_assoc], PX, PY.snoc ma mb nab o.1 o.2, ?_, fun hk2 x hx hm2 => ?_, by omega, by simp; omega⟩
      · rw [if_pos (by omega)]
        exact ⟨hXY.1, inn hXY.2⟩
      · rw [pts_app] at hm2
        rcases List.mem_append.mp hm2 with hm2 | hm2
        · exact h00 hk2 x hx hm2
        · have hm2 : x = min a b ∨ x = max a b := by simpa [pts] using hm2
          have : x = a ∨ x = b := by omega
          rcases this with rfl | rfl
          · have := nd_get nd hx ga
            omega
          · have := nd_get nd hx gb
            omega
  rw [e, bindO_s, hs]
  dsimp only
  split
  · rename_i hc2
    simp only [Bool.and_eq_true, decide_eq_true_eq] at hc2
    obtain ⟨rfl, hev, hgt⟩ := hc2
    rw [if_neg (by omega)] at hXY
    have gl : pc.getLast? = some (pc[pc.length - 1]'(by omega)) := by rw [List.getLast?_eq_getElem?]; exact List.getElem?_eq_getElem (by omega)
    have il : idx pc (-(1 : Int)) = some (pc[pc.length - 1]'(by omega)) := by rw [idx_last]; exact gl
    have gl' : pc[pc.length - 1]? = some (pc[pc.length - 1]'(by omega)) := List.getElem?_eq_getElem (by omega)
    have a0 := h00 (by decide) _ g0
    generalize pc[pc.length - 1]'(by omega) = b at *
    generalize pc[0]'(by omega) = a at *
    have nab : a ≠ b := fun e => by
      subst e
      have := nd_get nd g0 gl'
      omega
    have bl : b ∉ pts Y := fun z => by
      obtain ⟨i, hi, ei⟩ := hXY.2 b z
      have := nd_get nd ei gl'
      omega
    rw [i0, bindO_s, il, bindO_s, tie_eq, bindO_s, appO_e (by rw [List.length_append]; omega), bindO_s]
    exact ⟨X, Y ++ [tk a b], by rw [List.append_assoc], PX, PY.snoc m0 (List.mem_of_getElem? gl') nab a0 bl, by omega, by simp; omega⟩
  · exact ⟨X, Y, rfl, PX, PY, by omega, by omega⟩
theorem two_eq (ns : List Int) {o : List Int} (nd : o.Nodup) (ho : o.length ≤ 100) : ∃ A B, p_law_two ns o = some (sort2 A, sort2 B) ∧ Pcs (· ∈ o) A ∧ Pcs (· ∈ o) B := by
  unfold p_law_two
  rw [letB_eq, letB_eq, letB_eq, letB_eq]
  obtain ⟨s, e, ⟨at_, k, A, B, hs, PA, PB, _, _, _⟩, _⟩ := whS_inv (n := fuel) (s0 := (([] : Pairs), ([] : Pairs), (0 : Int), (25 : Int))) (c := fun (s5 : (List (Int × Int)) × (List (Int × Int)) × Int × Int) => (some (decide (s5.2.2.1 < (o.length : Int))))) (f := fun (s5 : (List (Int × Int)) × (List (Int × Int)) × Int × Int) => p_law_two_L1 ns o s5.1 s5.2.1 s5.2.2.1 s5.2.2.2)
    (fun s => ∃ (at_ k : Nat) (A B : Pairs), s = (A, B, (at_ : Int), (k : Int)) ∧ Pcs (· ∈ o.take at_) A ∧ Pcs (· ∈ o.take at_) B ∧ A.length ≤ at_ ∧ B.length ≤ at_ ∧ at_ ≤ o.length + 24) (fun s => o.length + 30 - s.2.2.1.toNat) (fuel_big (by simp; omega))
    ⟨0, 25, [], [], rfl, Pcs.nil _, Pcs.nil _, by simp, by simp, by omega⟩ fun s ⟨at_, k, A, B, hs, PA, PB, lA, lB, hat⟩ => by
    subst hs
    dsimp only
    by_cases hc : (at_ : Int) < (o.length : Int)
    · refine .inr ⟨congrArg some (decide_eq_true hc), ?_⟩
      obtain ⟨c, ec⟩ := cell_all ns (k : Int) (by omega)
      unfold p_law_two_L1
      rw [ec, bindO_s, letB_eq]
      generalize (c + 5 * (k : Int)) * 69621 % 2147483629 = num
      obtain ⟨v, ev, hv⟩ : ∃ v, idx ([(5 : Int), (24 : Int)]) (num / 120 % 2) = some v ∧ (v = 5 ∨ v = 24) := by
        rcases Int.emod_two_eq (num / 120) with h | h
        · rw [h]; exact ⟨5, rfl, .inl rfl⟩
        · rw [h]; exact ⟨24, rfl, .inr rfl⟩
      rw [ev, bindO_s, modP (by omega), bindO_s, letB_eq]
      obtain ⟨sz, esz, hs1, hs2⟩ : ∃ sz : Nat, 1 + num / 5 % v = (sz : Int) ∧ 1 ≤ sz ∧ sz ≤ 24 := by
        rcases hv with rfl | rfl
        · exact ⟨(1 + num / 5 % 5).toNat, by omega, by omega, by omega⟩
        · exact ⟨(1 + num / 5 % 24).toNat, by omega, by omega, by omega⟩
      rw [esz, show (at_ : Int) + (sz : Int) = ((at_ + sz : Nat) : Int) by omega, cut_mid _ _ _ (by omega)]
      have ndT : (o.take (at_ + sz)).Nodup := nd.sublist (List.take_sublist _ _)
      have ndP : ((o.take (at_ + sz)).drop at_).Nodup := ndT.sublist (List.drop_sublist _ _)
      have hpl : ((o.take (at_ + sz)).drop at_).length ≤ sz := by rw [List.length_drop, List.length_take]; omega
      have e1 : o.take at_ = (o.take (at_ + sz)).take at_ := by rw [List.take_take]; congr 1; omega
      have dj : ∀ x, x ∈ o.take at_ → ¬ x ∈ (o.take (at_ + sz)).drop at_ := fun x h1 h2 => by
        rw [e1] at h1
        have := ndT
        rw [← List.take_append_drop at_ (o.take (at_ + sz)), List.nodup_append] at this
        exact this.2.2 x h1 x h2 rfl
      have un : ∀ x, (x ∈ o.take at_ ∨ x ∈ (o.take (at_ + sz)).drop at_) → x ∈ o.take (at_ + sz) := fun x h => by
        rcases h with h | h
        · rw [e1] at h; exact List.mem_of_mem_take h
        · exact List.mem_of_mem_drop h
      obtain ⟨X, Y, ep, PX, PY, lX, lY⟩ := piece_eq (one := A) (other := B) (num % 5) ndP (by omega) (by omega) (by omega)
      rw [ep, bindO_s, letB_eq, letB_eq]
      refine ⟨_, rfl, ⟨at_ + sz, k + 1, A ++ X, B ++ Y, by rw [show (k : Int) + 1 = ((k + 1 : Nat) : Int) by omega], (PA.app PX dj).mono un, (PB.app PY dj).mono un, by rw [List.length_append]; omega, by rw [List.length_append]; omega, by omega⟩, ?_⟩
      show o.length + 30 - ((at_ + sz : Nat) : Int).toNat < o.length + 30 - (at_ : Int).toNat
      omega
    · exact .inl (congrArg some (decide_eq_false hc))
  rw [e, bindO_s, hs]
  exact ⟨A, B, rfl, PA.mono fun x h => List.mem_of_mem_take h, PB.mono fun x h => List.mem_of_mem_take h⟩
theorem Pcs.mt {S : Int → Prop} {X : Pairs} (h : Pcs S X) : Mt (sort2 X) := Mt.perm (perm2 X).symm ⟨h.lt, h.nd⟩
end Pr

set_option Elab.async false
set_option linter.all false
namespace Pr
open PySem PySem.Spec L2 Ev Tg
open PyProof.Rows hiding St
theorem al_lc {row : List Int} {m : Nat} (hm : m = row.length - 1) : (lcM ((List.range m).map fun (k : Nat) => (k : Int)) (fun y6 => (some true)) (fun y6 => (bindO (idx row y6) fun v7 => bindO (idx row (y6 + (1 : Int))) fun v8 => bindO (p_law_tie v7 v8) fun v9 => some v9))) = some (al row) := by
  subst hm
  have hal := al_len row
  have one : ∀ y ∈ (List.range (row.length - 1)).map (fun (k : Nat) => (k : Int)), (bindO (idx row y) fun v7 => bindO (idx row (y + (1 : Int))) fun v8 => bindO (p_law_tie v7 v8) fun v9 => some v9) = some ((al row).getD y.toNat (0, 0)) := fun y hy => by
    obtain ⟨k, hk, rfl⟩ := List.mem_map.mp hy
    rw [List.mem_range] at hk
    have g1 : row[k]? = some row[k] := List.getElem?_eq_getElem (by omega)
    have g2 : row[k + 1]? = some row[k + 1] := List.getElem?_eq_getElem (by omega)
    have g3 := al_get g1 g2
    have e1 : idx row (k : Int) = some row[k] := by rw [idx_nat]; exact g1
    have e2 : idx row ((k : Int) + 1) = some row[k + 1] := by
      have : (k : Int) + 1 = ((k + 1 : Nat) : Int) := by omega
      rw [this, idx_nat]
      exact g2
    have e3 : (al row).getD (k : Int).toNat (0, 0) = tk row[k] row[k + 1] := by
      have : (k : Int).toNat = k := by omega
      rw [this, List.getD_eq_getElem?_getD, g3, Option.getD_some]
    rw [e1, e2, e3, bindO_s, bindO_s, tie_eq, bindO_s]
  rw [lcM_map (fun y => (al row).getD y.toNat (0, 0)) one]
  congr 1
  apply List.ext_getElem?
  intro i
  rw [List.map_map, List.getElem?_map]
  by_cases hi : i < row.length - 1
  · rw [List.getElem?_range hi]
    simp only [Option.map_some, Function.comp, Int.toNat_natCast, List.getD_eq_getElem?_getD]
    rw [List.getElem?_eq_getElem (by omega)]
    rfl
  · rw [List.getElem?_eq_none (by simp; omega), List.getElem?_eq_none (by omega)]
    rfl
end Pr

set_option Elab.async false
set_option linter.all false
set_option maxRecDepth 100000
namespace Pr
open PySem PySem.Spec L2 Ev Tg

theorem rg_snoc {vs : List Int} {a b : Int} (h0 : vs.head? = some a) (hl : vs.getLast? = some b) : rg vs = al vs ++ [tk a b] := by
  have hne : vs ≠ [] := fun e => by rw [e] at h0; cases h0
  have e1 : vs = vs.dropLast ++ [b] := by
    have := List.dropLast_concat_getLast hne
    rw [List.getLast?_eq_some_getLast hne] at hl
    rw [Option.some.inj hl] at this
    exact this.symm
  have e2 : vs.take 1 = [a] := by
    cases vs with
    | nil => cases h0
    | cons x r => cases h0; rfl
  unfold rg
  rw [e2]
  have := al_app vs.dropLast b a []
  rw [← e1] at this
  rw [show vs ++ [a] = vs.dropLast ++ b :: a :: [] by
    conv => lhs; rw [e1]
    rw [List.append_assoc]
    rfl, this, tk_comm b a]
  rfl
theorem whole_all {vs : List Int} : lcM vs (fun _ => some true) (fun y1 => bindO (p_law_whole y1) fun v2 => some v2) = some (vs.map fun _ => true) := lcM_map (fun _ => true) fun y _ => rfl
theorem along_told {l : Pairs} {t : Told} (T : Trk l t) (hl : t.2.length ≤ 100) (h4 : t.1 = sRing → 4 ≤ t.2.length) : p_law_along t = some (some (eds t)) := by
  obtain ⟨kd, vs⟩ := t
  have two : 2 ≤ vs.length := T.two
  have hl : vs.length ≤ 100 := hl
  unfold p_law_along
  have hkd : kd = sRow ∨ kd = sRing := T.kd.imp id fun z => z.1
  have hin : decide (kd ∈ [(mkS "row" (by decide +kernel) : SS), (mkS "ring" (by decide +kernel))]) = true := by
    rw [decide_eq_true_eq, List.mem_cons, List.mem_cons]
    exact hkd.imp id .inl
  have hal := al_len vs
  dsimp only
  rw [hin, if_neg (by decide), letB_eq, if_neg (by decide), if_neg (by simp; omega), whole_all, bindO_s, big_e (by rw [List.length_map]; omega), bindO_s, bindO_s, bindO_s, if_neg (by simp), show (vs.length : Int) - 1 = ((vs.length - 1 : Nat) : Int) by omega, rng_e (by omega), bindO_s, al_lc rfl, bindO_s, big_e (by omega), bindO_s, letB_eq]
  rcases hkd with rfl | rfl
  · rw [if_neg (by rw [decide_eq_true_eq]; exact row_ring), eds_row]
  · have h4 : 4 ≤ vs.length := h4 rfl
    obtain ⟨a, ea⟩ : ∃ a, vs.head? = some a := ⟨_, List.head?_eq_some_head (by intro e; rw [e] at h4; simp at h4)⟩
    obtain ⟨b, eb⟩ : ∃ a, vs.getLast? = some a := ⟨_, List.getLast?_eq_some_getLast (by intro e; rw [e] at h4; simp at h4)⟩
    have i0 : idx vs 0 = some a := by rw [show (0 : Int) = ((0 : Nat) : Int) from rfl, idx_nat, ← List.head?_eq_getElem?]; exact ea
    rw [if_pos (decide_eq_true rfl), if_neg (by simp; omega), i0, bindO_s, idx_last, eb, bindO_s, tie_eq, bindO_s, appO_e (by omega), bindO_s, eds_ring, rg_snoc ea eb]
theorem four {A B : Pairs} {t : Told} (ma : Mt A) (mb : Mt B) (T : Trk (sym A B) t) : t.1 = sRing → 4 ≤ t.2.length := fun h => by
  rcases T.kd with h2 | ⟨_, h3⟩
  · exact absurd (h2.symm.trans h) row_ring
  · obtain ⟨_, ev⟩ := ring_even (vs := t.2) ma mb T.nd h3 fun p hp => T.sub p (by unfold eds; rw [if_neg (by rw [h]; exact fun z => row_ring z.symm)]; exact hp)
    omega
theorem eds_nd {t : Told} {l : Pairs} (T : Trk l t) : (eds t).Nodup := by
  unfold eds
  rcases T.kd with h | ⟨h, h3⟩
  · rw [if_pos h]; exact al_nd T.nd
  · rw [if_neg (by rw [h]; exact fun z => row_ring z.symm)]; exact rg_nd T.nd h3
theorem eds_perm {l : Pairs} {T : List Told} (nl : l.Nodup) (D : Dec l T) : (T.flatMap eds).Perm l := by
  refine perm_of_iff ?_ nl fun p => ?_
  · have h1 := D.trk
    have h2 := D.nd
    clear D nl
    induction T with
    | nil => exact List.nodup_nil
    | cons t T ih =>
      rw [List.flatMap_cons, List.nodup_append] at h2 ⊢
      refine ⟨eds_nd (h1 t List.mem_cons_self), ih (fun u hu => h1 u (List.mem_cons_of_mem _ hu)) h2.2.1, fun a ha b hb e => ?_⟩
      subst e
      obtain ⟨u, hu, hb⟩ := List.mem_flatMap.mp hb
      exact h2.2.2 _ (eds_mem ha).1 _ (List.mem_flatMap.mpr ⟨u, hu, (eds_mem hb).1⟩) rfl
  · rw [List.mem_flatMap]
    constructor
    · rintro ⟨t, ht, hp⟩
      exact (D.trk t ht).sub p hp
    · intro hp
      obtain ⟨t, ht, hm⟩ := D.cov p hp
      exact ⟨t, ht, (D.trk t ht).cl p hp (.inl hm)⟩
theorem law_right_eq {n : Nat} {A B one other : Pairs} {T : List Told} (hn : n ≤ 24) (ma : Mt A) (mb : Mt B) (G : Gph n (sym A B)) (D : Dec (sym A B) T) (hT : T.length ≤ 100) (h1 : one.length ≤ 400) (h2 : other.length ≤ 400) (pm : (sym A B).Perm (sym one other)) : p_law_right T one other = some true := by
  unfold p_law_right
  rw [if_neg (by decide), letB_eq, letB_eq]
  have hrg : ∀ t ∈ T, ∀ x ∈ t.2, 0 ≤ x ∧ x < (n : Int) := fun t ht => (D.trk t ht).wk.rg G (D.trk t ht).two
  have hel : ∀ t ∈ T, t.2.length ≤ n := fun t ht => nd_le (D.trk t ht).nd (hrg t ht)
  have hed : ∀ t ∈ T, (eds t).length ≤ n := fun t ht => by
    have := hel t ht
    unfold eds
    split
    · rw [al_len]; omega
    · rw [rg_len (by intro e; have := (D.trk t ht).two; rw [e] at this; simp at this)]; exact this
  obtain ⟨s, e, q1, q2, _, _⟩ := forC_nx (R := Bool) (xs := T) (s0 := (([] : List Int), ([] : Pairs))) (f := fun (x5 : SS × (List Int)) (s5 : (List Int) × (List (Int × Int))) => p_law_right_L1 x5 s5.1 s5.2) (fun pre s => s.1 = pre.flatMap (·.2) ∧ s.2 = pre.flatMap eds ∧ s.1.length ≤ 24 * pre.length ∧ s.2.length ≤ 24 * pre.length) ⟨rfl, rfl, by simp, by simp⟩ fun pre t post s e ⟨q1, q2, l1, l2⟩ => by
    have ht : t ∈ T := by rw [e]; simp
    have hpl : pre.length < T.length := by rw [e]; simp
    have Tt := D.trk t ht
    have a1 := hel t ht
    have a2 := hed t ht
    unfold p_law_right_L1
    rw [along_told Tt (by omega) (four ma mb Tt), bindO_s, letB_eq, if_neg (by simp), catO_e (by omega), bindO_s, letB_eq, bindO_s, catO_e (by omega), bindO_s, letB_eq]
    exact ⟨_, rfl, by rw [List.flatMap_append, ← q1]; simp, by rw [List.flatMap_append, ← q2]; simp, by simp; omega, by simp; omega⟩
  have f1 := List.length_filter_le (fun p => !decide (p ∈ other)) one
  have f2 := List.length_filter_le (fun p => !decide (p ∈ one)) other
  have nd1 : s.1.Nodup := by rw [q1]; exact D.nd
  have l1 : s.1.length ≤ n := nd_le nd1 fun x hx => by
    rw [q1, List.mem_flatMap] at hx
    obtain ⟨t, ht, hx⟩ := hx
    exact hrg t ht x hx
  obtain ⟨c, ec, hc⟩ := kinds_eq (xs := s.1) (by omega)
  have hs : sort2 s.2 = sort2 (sym one other) := by
    rw [q2]
    exact sort2_perm ((eds_perm G.nd D).trans pm)
  rw [e, onS_l, List.map_id', big_e (by omega), bindO_s, List.map_id', big_e (by omega), bindO_s, catO_e (by omega), bindO_s, letB_eq, ec, bindO_s]
  have hs' : sort2 s.2 = sort2 (one.filter (fun y6 => !decide (y6 ∈ other)) ++ other.filter (fun y8 => !decide (y8 ∈ one))) := hs
  rw [decide_eq_true (hc.mpr nd1), decide_eq_true hs']
  rfl
theorem mt_len {n : Nat} {C : Pairs} (m : Mt C) (r : ∀ p ∈ C, 0 ≤ p.1 ∧ p.2 < (n : Int)) : C.length ≤ n := by
  have h1 : (C.map (·.1)).Nodup := by
    rw [List.nodup_iff_pairwise_ne, List.pairwise_map]
    refine (List.Pairwise.and_mem.mp m.nodup).imp fun {a b} q e => q.2.2 (m.uniq q.1 q.2.1 (x := a.1) (.inl rfl) (.inl e))
  have := nd_le (n := n) h1 fun x hx => by
    obtain ⟨p, hp, rfl⟩ := List.mem_map.mp hx
    have := r p hp
    have := m.lt p hp
    omega
  simpa using this
theorem main (ns : List Int) (hl : ns.length ≤ 63) : p_law ns = some true := by
  unfold p_law
  obtain ⟨c, ec⟩ := cell_all ns 0 (by decide)
  rw [ec, bindO_s, letB_eq]
  have h0 : 0 ≤ (c + 7) * 48271 % 2147483647 := Int.emod_nonneg _ (by decide)
  generalize (c + 7) * 48271 % 2147483647 = h at h0
  rw [letB_eq]
  obtain ⟨n, en, hn1, hn⟩ : ∃ n : Nat, (if decide (((h / (12 : Int)) % (7 : Int)) = (3 : Int)) = true then letB (((13 : Int) + ((h / (40000 : Int)) % (12 : Int))) : Int) fun x_many_2 => some x_many_2 else some ((1 : Int) + (h % (12 : Int)))) = some (n : Int) ∧ 0 < n ∧ n ≤ 24 := by
    split
    · exact ⟨(13 + h / 40000 % 12).toNat, congrArg some (by omega), by omega, by omega⟩
    · exact ⟨(1 + h % 12).toNat, congrArg some (by omega), by omega, by omega⟩
  rw [en, bindO_s]
  obtain ⟨o, eo, O⟩ := order_eq ns n (by omega)
  have hol := O.len
  obtain ⟨A, B, e2, PA, PB⟩ := two_eq ns O.nd (by omega)
  rw [eo, bindO_s, e2, bindO_s, letB_eq, letB_eq]
  dsimp only
  have ma := PA.mt
  have mb := PB.mt
  have ra : ∀ p ∈ sort2 A, 0 ≤ p.1 ∧ p.2 < (n : Int) := fun p hp => by
    have hp' := (perm2 A).mem_iff.mp hp
    exact ⟨((O.mem _).mp (PA.mem p hp').1).1, ((O.mem _).mp (PA.mem p hp').2).2⟩
  have rb : ∀ p ∈ sort2 B, 0 ≤ p.1 ∧ p.2 < (n : Int) := fun p hp => by
    have hp' := (perm2 B).mem_iff.mp hp
    exact ⟨((O.mem _).mp (PB.mem p hp').1).1, ((O.mem _).mp (PB.mem p hp').2).2⟩
  generalize sort2 A = one at *
  generalize sort2 B = other at *
  have la := mt_len ma ra
  have lb := mt_len mb rb
  have G := gph_of ma mb ra rb
  have G' := gph_of mb ma rb ra
  have Ga := gph_of ma ma ra ra
  obtain ⟨T, eT, DT, lT⟩ := between_eq G hn (by omega) (by omega)
  obtain ⟨U, eU, DU, lU⟩ := between_eq G' hn (by omega) (by omega)
  obtain ⟨V, eV, DV, lV⟩ := between_eq Ga hn (by omega) (by omega)
  have vnil : V = [] := by
    cases V with
    | nil => rfl
    | cons t V =>
      exfalso
      have Tt := DV.trk t List.mem_cons_self
      have g0 : t.2[0]? = some (t.2[0]'(by have := Tt.two; omega)) := List.getElem?_eq_getElem (by have := Tt.two; omega)
      have g1 : t.2[1]? = some (t.2[1]'(by have := Tt.two; omega)) := List.getElem?_eq_getElem (by have := Tt.two; omega)
      have := eds_al Tt _ (List.mem_of_getElem? (al_get g0 g1))
      rw [mem_sym] at this
      rcases this with ⟨a, b⟩ | ⟨a, b⟩ <;> exact b a
  have pm : (sym other one).Perm (sym one other) := by
    unfold sym
    exact List.perm_append_comm
  have x0 : idx [one, other] 0 = some one := rfl
  have x1 : idx [one, other] 1 = some other := rfl
  rw [x0, x1, bindO_s, bindO_s, eT, bindO_s, letB_eq, law_right_eq hn ma mb G DT lT (by omega) (by omega) (List.Perm.refl _), bindO_s, if_neg (by decide), bindO_s, bindO_s, eV, bindO_s, vnil, bindO_s, if_neg (by decide), letB_eq, big_e (by rw [List.length_map]; omega), bindO_s, bindO_s, bindO_s, eU, bindO_s, law_right_eq hn mb ma G' DU lU (by omega) (by omega) pm, bindO_s, if_neg (by decide), bindO_s, bindO_s, eT, bindO_s, law_right_eq hn ma mb G DT lT (by omega) (by omega) (List.Perm.refl _), bindO_s]
  simp
end Pr

set_option Elab.async false
set_option linter.all false
set_option maxRecDepth 100000
set_option maxHeartbeats 4000000
namespace Pr
open PySem PySem.Spec L2 Ev Tg
open PyProof.Rows hiding St
def spLaw (K : PySem.W.Frag) : Sp := fun vs H Q _ => ∃ (a : Addr) (ns : List Int), vs = [.ref a] ∧ KSeq K H a (ns.map V.int) ∧ ns.length ≤ 63 ∧ ∀ H', Q (.bl true) H'
theorem law_sp {K : PySem.W.Frag} (main : ∀ ns : List Int, ns.length ≤ 63 → p_law ns = some true) : ∀ vs H Q E, spLaw K vs H Q E → spD K 1 (R_law) vs H Q E := fun vs H Q E ⟨a, ns, e, hs, hl, q⟩ => by
  subst e
  obtain ⟨l, a', hr, _, _⟩ := p_law_ok ns true (main ns hl)
  refine ⟨rfl, fun _ => True, [.fl (ns.map .int)], _, Rps.cons (F := []) (G := []) (.fl hs (rps_ints ns)) .nil, hr, fun v H' F _ _ _ rp => ?_⟩
  have rp : Rp K _ H' l v (.bl true) F := rp
  obtain ⟨rfl, _⟩ := rp.bl_inv
  exact q H'
theorem all_mk (main : ∀ ns : List Int, ns.length ≤ 63 → p_law ns = some true) {l : PySem.W.OpenLaw} {w : World} {K : PySem.W.Frag} {h : Heap} {mg : Str → Option Value} {fa f0 f1 f2 f3 f4 f5 f6 f7 f8 f9 f10 : Addr} (X : K.In h) (G : h.Ns mainGlobals mg) (hfa : mg "law" = some (.ref fa))
    {od0 an0 od1 an1 od2 an2 od3 an3 od4 an4 od5 an5 od6 an6 od7 an7 od8 an8 od9 an9 od10 an10 : Option Addr} {sl0 sl1 sl2 sl3 sl4 sl5 sl6 sl7 sl8 sl9 sl10 : Array (Option Value)} {oc0 kV0 dc0 pm0 cd0 ct0 oc1 kV1 dc1 pm1 cd1 ct1 oc2 kV2 dc2 pm2 cd2 ct2 oc3 kV3 dc3 pm3 cd3 ct3 oc4 kV4 dc4 pm4 cd4 ct4 oc5 kV5 dc5 pm5 cd5 ct5 oc6 kV6 dc6 pm6 cd6 ct6 oc7 kV7 dc7 pm7 cd7 ct7 oc8 kV8 dc8 pm8 cd8 ct8 oc9 kV9 dc9 pm9 cd9 ct9 oc10 kV10 dc10 pm10 cd10 ct10 : Value}
    (a0 : PySem.W.nsIn K mainGlobals "led_from" = some (some (.ref f0)))
    (l0 : K.lookup f0 = some ⟨oc0, od0, .func (PySem.W.fnOf "led_from" "led_from" (defArgs s_led_from) (defBody s_led_from) (defScope s_led_from) .none kV0 dc0 pm0 an0 cd0 ct0), sl0⟩)
    (c0 : PySem.W.codeIn K cd0 "led_from" = true)
    (k0 : PySem.W.keepIn K (.ref f0) = true)
    (a1 : PySem.W.nsIn K mainGlobals "between" = some (some (.ref f1)))
    (l1 : K.lookup f1 = some ⟨oc1, od1, .func (PySem.W.fnOf "between" "between" (defArgs s_between) (defBody s_between) (defScope s_between) .none kV1 dc1 pm1 an1 cd1 ct1), sl1⟩)
    (c1 : PySem.W.codeIn K cd1 "between" = true)
    (k1 : PySem.W.keepIn K (.ref f1) = true)
    (a2 : PySem.W.nsIn K mainGlobals "_law_cell_at" = some (some (.ref f2)))
    (l2 : K.lookup f2 = some ⟨oc2, od2, .func (PySem.W.fnOf "_law_cell_at" "_law_cell_at" (defArgs s_law_cell_at) (defBody s_law_cell_at) (defScope s_law_cell_at) .none kV2 dc2 pm2 an2 cd2 ct2), sl2⟩)
    (c2 : PySem.W.codeIn K cd2 "_law_cell_at" = true)
    (k2 : PySem.W.keepIn K (.ref f2) = true)
    (a3 : PySem.W.nsIn K mainGlobals "_law_whole" = some (some (.ref f3)))
    (l3 : K.lookup f3 = some ⟨oc3, od3, .func (PySem.W.fnOf "_law_whole" "_law_whole" (defArgs s_law_whole) (defBody s_law_whole) (defScope s_law_whole) .none kV3 dc3 pm3 an3 cd3 ct3), sl3⟩)
    (c3 : PySem.W.codeIn K cd3 "_law_whole" = true)
    (k3 : PySem.W.keepIn K (.ref f3) = true)
    (a4 : PySem.W.nsIn K mainGlobals "_law_tie" = some (some (.ref f4)))
    (l4 : K.lookup f4 = some ⟨oc4, od4, .func (PySem.W.fnOf "_law_tie" "_law_tie" (defArgs s_law_tie) (defBody s_law_tie) (defScope s_law_tie) .none kV4 dc4 pm4 an4 cd4 ct4), sl4⟩)
    (c4 : PySem.W.codeIn K cd4 "_law_tie" = true)
    (k4 : PySem.W.keepIn K (.ref f4) = true)
    (a5 : PySem.W.nsIn K mainGlobals "_law_order" = some (some (.ref f5)))
    (l5 : K.lookup f5 = some ⟨oc5, od5, .func (PySem.W.fnOf "_law_order" "_law_order" (defArgs s_law_order) (defBody s_law_order) (defScope s_law_order) .none kV5 dc5 pm5 an5 cd5 ct5), sl5⟩)
    (c5 : PySem.W.codeIn K cd5 "_law_order" = true)
    (k5 : PySem.W.keepIn K (.ref f5) = true)
    (a6 : PySem.W.nsIn K mainGlobals "_law_piece" = some (some (.ref f6)))
    (l6 : K.lookup f6 = some ⟨oc6, od6, .func (PySem.W.fnOf "_law_piece" "_law_piece" (defArgs s_law_piece) (defBody s_law_piece) (defScope s_law_piece) .none kV6 dc6 pm6 an6 cd6 ct6), sl6⟩)
    (c6 : PySem.W.codeIn K cd6 "_law_piece" = true)
    (k6 : PySem.W.keepIn K (.ref f6) = true)
    (a7 : PySem.W.nsIn K mainGlobals "_law_two" = some (some (.ref f7)))
    (l7 : K.lookup f7 = some ⟨oc7, od7, .func (PySem.W.fnOf "_law_two" "_law_two" (defArgs s_law_two) (defBody s_law_two) (defScope s_law_two) .none kV7 dc7 pm7 an7 cd7 ct7), sl7⟩)
    (c7 : PySem.W.codeIn K cd7 "_law_two" = true)
    (k7 : PySem.W.keepIn K (.ref f7) = true)
    (a8 : PySem.W.nsIn K mainGlobals "_law_along" = some (some (.ref f8)))
    (l8 : K.lookup f8 = some ⟨oc8, od8, .func (PySem.W.fnOf "_law_along" "_law_along" (defArgs s_law_along) (defBody s_law_along) (defScope s_law_along) .none kV8 dc8 pm8 an8 cd8 ct8), sl8⟩)
    (c8 : PySem.W.codeIn K cd8 "_law_along" = true)
    (k8 : PySem.W.keepIn K (.ref f8) = true)
    (a9 : PySem.W.nsIn K mainGlobals "_law_right" = some (some (.ref f9)))
    (l9 : K.lookup f9 = some ⟨oc9, od9, .func (PySem.W.fnOf "_law_right" "_law_right" (defArgs s_law_right) (defBody s_law_right) (defScope s_law_right) .none kV9 dc9 pm9 an9 cd9 ct9), sl9⟩)
    (c9 : PySem.W.codeIn K cd9 "_law_right" = true)
    (k9 : PySem.W.keepIn K (.ref f9) = true)
    (a10 : PySem.W.nsIn K mainGlobals "law" = some (some (.ref f10)))
    (l10 : K.lookup f10 = some ⟨oc10, od10, .func (PySem.W.fnOf "law" "law" (defArgs s_law) (defBody s_law) (defScope s_law) .none kV10 dc10 pm10 an10 cd10 ct10), sl10⟩)
    (c10 : PySem.W.codeIn K cd10 "law" = true)
    (k10 : PySem.W.keepIn K (.ref f10) = true)
    (z_len : PySem.W.nsIn K mainGlobals "len" = some none)
    (z_min : PySem.W.nsIn K mainGlobals "min" = some none)
    (z_max : PySem.W.nsIn K mainGlobals "max" = some none)
    (z_sum : PySem.W.nsIn K mainGlobals "sum" = some none)
    (z_sorted : PySem.W.nsIn K mainGlobals "sorted" = some none)
    (z_list : PySem.W.nsIn K mainGlobals "list" = some none)
    (z_range : PySem.W.nsIn K mainGlobals "range" = some none)
    (z_zip : PySem.W.nsIn K mainGlobals "zip" = some none)
    (z_enumerate : PySem.W.nsIn K mainGlobals "enumerate" = some none)
    (z_abs : PySem.W.nsIn K mainGlobals "abs" = some none)
    (z_int : PySem.W.nsIn K mainGlobals "int" = some none)
    (z_isinstance : PySem.W.nsIn K mainGlobals "isinstance" = some none)
    (z_bool : PySem.W.nsIn K mainGlobals "bool" = some none)
    (z_tuple : PySem.W.nsIn K mainGlobals "tuple" = some none)
    (z_str : PySem.W.nsIn K mainGlobals "str" = some none)
    (z_set : PySem.W.nsIn K mainGlobals "set" = some none)
    (z_all : PySem.W.nsIn K mainGlobals "all" = some none)
    (z_any : PySem.W.nsIn K mainGlobals "any" = some none)
    (z_reversed : PySem.W.nsIn K mainGlobals "reversed" = some none)
    (z_dict : PySem.W.nsIn K mainGlobals "dict" = some none) :
    ∃ fd : FuncData, (∀ (s : Shared) (v : Value), BindsTo s fd ⟨[v], []⟩ [("_law_script", v)]) ∧ ∀ base : Heap, K.In base → base.Ns mainGlobals mg → FnOk l.prog w K mg base CX0 4 fa fd ["_law_script"] (spLaw K) := by
  have e := hfa.symm.trans (PySem.W.mg_of X G a10)
  cases e
  have hB : Blts mg := ⟨PySem.W.mg_none_of X G z_len, PySem.W.mg_none_of X G z_min, PySem.W.mg_none_of X G z_max, PySem.W.mg_none_of X G z_sum, PySem.W.mg_none_of X G z_sorted, PySem.W.mg_none_of X G z_list, PySem.W.mg_none_of X G z_range, PySem.W.mg_none_of X G z_zip, PySem.W.mg_none_of X G z_enumerate, PySem.W.mg_none_of X G z_abs, PySem.W.mg_none_of X G z_int, PySem.W.mg_none_of X G z_isinstance, PySem.W.mg_none_of X G z_bool, PySem.W.mg_none_of X G z_tuple, PySem.W.mg_none_of X G z_str, PySem.W.mg_none_of X G z_set, PySem.W.mg_none_of X G z_all, PySem.W.mg_none_of X G z_any, PySem.W.mg_none_of X G z_reversed, PySem.W.mg_none_of X G z_dict⟩
  have F0 := fun_mk (st := s_led_from) l0 c0 k0
  have b0 := F0.binds (ps := ["start", "beside"]) fun _ _ _ _ _ _ us hl => match us, hl with | [_, _], _ => rfl
  have F1 := fun_mk (st := s_between) l1 c1 k1
  have b1 := F1.binds (ps := ["one", "other"]) fun _ _ _ _ _ _ us hl => match us, hl with | [_, _], _ => rfl
  have F2 := fun_mk (st := s_law_cell_at) l2 c2 k2
  have b2 := F2.binds (ps := ["_law_script", "_law_k"]) fun _ _ _ _ _ _ us hl => match us, hl with | [_, _], _ => rfl
  have F3 := fun_mk (st := s_law_whole) l3 c3 k3
  have b3 := F3.binds (ps := ["_law_found"]) fun _ _ _ _ _ _ us hl => match us, hl with | [_], _ => rfl
  have F4 := fun_mk (st := s_law_tie) l4 c4 k4
  have b4 := F4.binds (ps := ["_law_a", "_law_b"]) fun _ _ _ _ _ _ us hl => match us, hl with | [_, _], _ => rfl
  have F5 := fun_mk (st := s_law_order) l5 c5 k5
  have b5 := F5.binds (ps := ["_law_script", "_law_many"]) fun _ _ _ _ _ _ us hl => match us, hl with | [_, _], _ => rfl
  have F6 := fun_mk (st := s_law_piece) l6 c6 k6
  have b6 := F6.binds (ps := ["_law_one", "_law_other", "_law_piece_here", "_law_kind"]) fun _ _ _ _ _ _ us hl => match us, hl with | [_, _, _, _], _ => rfl
  have F7 := fun_mk (st := s_law_two) l7 c7 k7
  have b7 := F7.binds (ps := ["_law_script", "_law_order_here"]) fun _ _ _ _ _ _ us hl => match us, hl with | [_, _], _ => rfl
  have F8 := fun_mk (st := s_law_along) l8 c8 k8
  have b8 := F8.binds (ps := ["_law_told"]) fun _ _ _ _ _ _ us hl => match us, hl with | [_], _ => rfl
  have F9 := fun_mk (st := s_law_right) l9 c9 k9
  have b9 := F9.binds (ps := ["_law_found", "_law_one", "_law_other"]) fun _ _ _ _ _ _ us hl => match us, hl with | [_, _, _], _ => rfl
  have F10 := fun_mk (st := s_law) l10 c10 k10
  refine ⟨PySem.W.fnOf "law" "law" (defArgs s_law) (defBody s_law) (defScope s_law) .none kV10 dc10 pm10 an10 cd10 ct10, fun s v => .of_eq rfl, fun base _ _ => ?_⟩
  have G_led_from : FnD l.prog w K mg base 1 "led_from" 2 R_led_from := fnD_of (ok_led_from F0 hB ) (PySem.W.mg_of X G a0) k0 b0
  have G_law_cell_at : FnD l.prog w K mg base 1 "_law_cell_at" 2 R_law_cell_at := fnD_of (ok_law_cell_at F2 hB ) (PySem.W.mg_of X G a2) k2 b2
  have G_law_whole : FnD l.prog w K mg base 1 "_law_whole" 1 R_law_whole := fnD_of (ok_law_whole F3 hB ) (PySem.W.mg_of X G a3) k3 b3
  have G_law_tie : FnD l.prog w K mg base 1 "_law_tie" 2 R_law_tie := fnD_of (ok_law_tie F4 hB ) (PySem.W.mg_of X G a4) k4 b4
  have G_between : FnD l.prog w K mg base 2 "between" 2 R_between := fnD_of (ok_between F1 hB G_led_from) (PySem.W.mg_of X G a1) k1 b1
  have G_law_order : FnD l.prog w K mg base 2 "_law_order" 2 R_law_order := fnD_of (ok_law_order F5 hB G_law_cell_at) (PySem.W.mg_of X G a5) k5 b5
  have G_law_piece : FnM l.prog w K mg base 2 "_law_piece" [true, true, false, false] R_law_piece := fnM_of (ok_law_piece F6 hB G_law_tie) (PySem.W.mg_of X G a6) k6 b6
  have G_law_along : FnD l.prog w K mg base 2 "_law_along" 1 R_law_along := fnD_of (ok_law_along F8 hB G_law_whole G_law_tie) (PySem.W.mg_of X G a8) k8 b8
  have G_law_two : FnD l.prog w K mg base 3 "_law_two" 2 R_law_two := fnD_of (ok_law_two F7 hB G_law_cell_at G_law_piece) (PySem.W.mg_of X G a7) k7 b7
  have G_law_right : FnD l.prog w K mg base 3 "_law_right" 3 R_law_right := fnD_of (ok_law_right F9 hB G_law_along) (PySem.W.mg_of X G a9) k9 b9
  exact (ok_law F10 hB G_law_cell_at G_law_two G_law_order G_between G_law_right).imp (law_sp main)
end Pr
open PySem PySem.W PyProof.Rows
set_option maxRecDepth 100000 in
set_option maxHeartbeats 0 in
theorem PySem.Challenge.cw_pairsheath_k25_between_two_choices_holds : PySem.Challenge.rw_pairsheath_k25_between_two_choices.Holds := by
  w_on; o_law; k_head; (case hw => w_witness2)
  k_fill
  refine L2.walk_of (l := PySem.Challenge.rw_pairsheath_k25_between_two_choices) (n := 63) (k := 4) (x := "_law_script") (CX := fun _ => L2.CX0) (sp := fun w => Pr.spLaw _) rfl (by decide) rfl ⟨rfl, by decide, by decide⟩ (fun w h Y => PySem.W.kIn_of Y) ?F (fun _ H a ns hl hO hS => ⟨a, ns, rfl, Ev.KSeq.of hS (fun xs e => by rcases hO a with q | ⟨o, ys, q⟩ <;> (rw [q] at e; cases e)), hl, fun _ => rfl⟩) (fun _ _ _ _ _ h => h)
  case F =>
    intro w mg fa h KX G hmg
    refine' Pr.all_mk Pr.main KX G hmg ?a0 ?l0 ?c0 ?k0 ?a1 ?l1 ?c1 ?k1 ?a2 ?l2 ?c2 ?k2 ?a3 ?l3 ?c3 ?k3 ?a4 ?l4 ?c4 ?k4 ?a5 ?l5 ?c5 ?k5 ?a6 ?l6 ?c6 ?k6 ?a7 ?l7 ?c7 ?k7 ?a8 ?l8 ?c8 ?k8 ?a9 ?l9 ?c9 ?k9 ?a10 ?l10 ?c10 ?k10 ?z_len ?z_min ?z_max ?z_sum ?z_sorted ?z_list ?z_range ?z_zip ?z_enumerate ?z_abs ?z_int ?z_isinstance ?z_bool ?z_tuple ?z_str ?z_set ?z_all ?z_any ?z_reversed ?z_dict
    (case a0 => k_is)
    (case l0 => k_is)
    (case c0 => k_is)
    (case k0 => k_is)
    (case a1 => k_is)
    (case l1 => k_is)
    (case c1 => k_is)
    (case k1 => k_is)
    (case a2 => k_is)
    (case l2 => k_is)
    (case c2 => k_is)
    (case k2 => k_is)
    (case a3 => k_is)
    (case l3 => k_is)
    (case c3 => k_is)
    (case k3 => k_is)
    (case a4 => k_is)
    (case l4 => k_is)
    (case c4 => k_is)
    (case k4 => k_is)
    (case a5 => k_is)
    (case l5 => k_is)
    (case c5 => k_is)
    (case k5 => k_is)
    (case a6 => k_is)
    (case l6 => k_is)
    (case c6 => k_is)
    (case k6 => k_is)
    (case a7 => k_is)
    (case l7 => k_is)
    (case c7 => k_is)
    (case k7 => k_is)
    (case a8 => k_is)
    (case l8 => k_is)
    (case c8 => k_is)
    (case k8 => k_is)
    (case a9 => k_is)
    (case l9 => k_is)
    (case c9 => k_is)
    (case k9 => k_is)
    (case a10 => k_is)
    (case l10 => k_is)
    (case c10 => k_is)
    (case k10 => k_is)
    (case z_len => k_is)
    (case z_min => k_is)
    (case z_max => k_is)
    (case z_sum => k_is)
    (case z_sorted => k_is)
    (case z_list => k_is)
    (case z_range => k_is)
    (case z_zip => k_is)
    (case z_enumerate => k_is)
    (case z_abs => k_is)
    (case z_int => k_is)
    (case z_isinstance => k_is)
    (case z_bool => k_is)
    (case z_tuple => k_is)
    (case z_str => k_is)
    (case z_set => k_is)
    (case z_all => k_is)
    (case z_any => k_is)
    (case z_reversed => k_is)
    (case z_dict => k_is)
